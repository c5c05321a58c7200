import PyProof.Rows.All
import Wide.All
import OpenK.AllK
import Wide.FinOn
import KE.GoesMore
import KE.GoesZip
import HandS.HotCalls
import HandS.Zip
import HandS.Comp
import HandS.List
import KE.GoesEnum
import HandS.ExcCtx
import HandS.ExcInit
import HandS.Lambda
import PyProof.P3Statements
import PyProof.EqLayable
import KE.LtData
import HandS.ForMost
import HandS.TryMany
import HandS.IsInst
import HandS.ExcField
import HandS.ExcOwn
import HandS.Gcd
import HandS.Wide
import HandS.Flow
import HandS.TupAny
import HandS.Deep
import KE.DataMinMax
import HandS.Defaults
import HandS.CallLocal
import HandS.CallSlots
import HandS.Small
import HandS.WideMore
import HandS.WordsExc
import HandS.Conv
import HandS.HeadHook1
import HandS.HeadHook2
import HandS.HeadHook3
import HandS.HeadHook4
import HandS.Head0
import HandS.Head1
import HandS.Head2
import HandS.Head3
import HandS.HeadEnd
import HandS.HeadWalk
import KE.KStateDown
import PySem.Challenge.RW_trunkrooms_k85_whole_crosses_of_exchange
set_option Elab.async false
set_option linter.all false
section
set_option maxRecDepth 100000
set_option maxHeartbeats 2000000
/-! EvH1: walks come to their end while an exception is handled. -/
namespace Ev
open PySem PySem.Spec PyProof.Rows HotX
section
variable {prog : Program} {w : World} {A : Around} {E : Value → Shared → Prop} {s : Shared} {x1 : Addr}
theorem HotAt.on {h h' : Heap} (c : HotAt A x1 h) (k : ∀ o, h.get? x1 = some o → h'.get? x1 = some o) : HotAt A x1 h' := by
  obtain ⟨e, o, vs, g, d, z⟩ := c
  exact ⟨e, o, vs, k o g, d, z⟩
theorem HotAt.there {h : Heap} (c : HotAt A x1 h) : ∃ o vs, h.get? x1 = some o ∧ o.data = .fields vs := by
  obtain ⟨_, o, vs, g, d, _⟩ := c
  exact ⟨o, vs, g, d⟩
/-- StopIteration, raised there -/
theorem stop_hot {α : Type} {Q : α → Shared → Prop} (c : HotAt A x1 s.heap)
    (k : ∀ h' e, (∀ b o, s.heap.get? b = some o → h'.get? b = some o) → (∃ o, h'.get? e = some o ∧ o.cls = .type "StopIteration") → E (.ref e) { s with heap := h' }) :
    wpAny (model prog w) A (newExc (.type "StopIteration") [] >>= fun e => (raiseNew e : Sem α)) Q E s := by
  have c' := c
  obtain ⟨hh, o1, vs1, g1, d1, z1⟩ := c'
  apply wpAny_bind
  simp only [newExc, newTuple]
  apply wpAny_bind
  refine wpAny_newObj_type (wpAny_bind (m := firstArgMember _ _) (wpAny_of_eq (a := Value.none) ?_ ?_)) (by size_fits)
  · first
    | rfl
    | (simp only [firstArgMember]; rfl)
  · refine wpAny_newObj_type (raiseNew_hot ⟨hh, o1, vs1, Heap.get?_push_of_some _ (Heap.get?_push_of_some _ g1), d1, z1⟩ (Nat.ne_of_lt (Heap.lt_size (Heap.get?_push_of_some _ g1))) (Heap.get?_push_size _ rfl) rfl
      (by first | (simp; done) | (simp; omega) | (simp only [Array.size_append]; simp; omega)) (k _ _ (fun b o g => ?_) ⟨_, Heap.get?_update_self _ (Heap.get?_push_size _ rfl) rfl, rfl⟩)) (by size_fits)
    rw [Heap.get?_update_other _ _ (Nat.ne_of_gt (Heap.lt_size (Heap.get?_push_of_some _ g)))]
    exact Heap.get?_push_of_some _ (Heap.get?_push_of_some _ g)
theorem ext_of {it : Addr} {h h1 h2 : Heap} (u : Heap.SameBut it h h1) (k : ∀ b o, h1.get? b = some o → h2.get? b = some o) : Heap.ExtBut it h h2 := fun b o hb g => k b o (u.extBut b o hb g)
/-- the turn of a list's iterator behind its last item -/
theorem list_stop {it l : Addr} {i : Nat} {xs : Array Value} {Q : Fin → Shared → Prop} (c : HotAt A x1 s.heap) (n1 : x1 ≠ it) (a : s.heap.IsListIter it l i) (b : s.heap.IsList l xs) (z : xs[i]? = none)
    (k : ∀ h' e, Heap.ExtBut it s.heap h' → (∃ o, h'.get? e = some o ∧ o.cls = .type "StopIteration") → E (.ref e) { s with heap := h' }) :
    wpAny (model prog w) A (Builtin.«list_iterator.__next__» ⟨[.ref it], []⟩) Q E s := by
  obtain ⟨o, g, _, d⟩ := id a
  obtain ⟨ol, gl, _, nl, dl⟩ := b
  show wpAny _ _ (field (.ref it) 0 >>= _) _ _ s
  refine wpAny_bind (wpAny_field g d (x := .ref l) rfl ?_)
  show wpAny _ _ (if (Value.ref l == Value.none) = true then _ else _) _ _ _
  rw [if_neg (by simp : ¬ ((Value.ref l == Value.none) = true))]
  show wpAny _ _ (field (.ref it) 1 >>= _) _ _ _
  refine wpAny_bind (wpAny_field g d (x := .int i 0) rfl ?_)
  show wpAny _ _ (seqItems? (.ref l) >>= _) _ _ _
  refine wpAny_bind (wpAny_seqItems gl dl ?_)
  simp only [Int.toNat_natCast, z]
  refine wpAny_bind (wpAny_rule (wpAny_bind (wpAny_setField g d (by simp) ?_)))
  refine stop_hot (HotAt.on c fun o q => ?_) fun h' e u y => k h' e (ext_of (Heap.SameBut.update ..) u) y
  exact (Heap.SameBut.update ..).extBut _ _ n1 q
/-- the same of a tuple -/
theorem tup_stop {it l : Addr} {i : Nat} {xs : Array Value} {Q : Fin → Shared → Prop} (c : HotAt A x1 s.heap) (n1 : x1 ≠ it) (a : s.heap.IsTupleIter it l i) (b : s.heap.IsTuple l xs) (z : xs[i]? = none)
    (k : ∀ h' e, Heap.ExtBut it s.heap h' → (∃ o, h'.get? e = some o ∧ o.cls = .type "StopIteration") → E (.ref e) { s with heap := h' }) :
    wpAny (model prog w) A (Builtin.«tuple_iterator.__next__» ⟨[.ref it], []⟩) Q E s := by
  obtain ⟨o, g, _, d⟩ := id a
  obtain ⟨ol, gl, _, nl, dl⟩ := b
  show wpAny _ _ (field (.ref it) 0 >>= _) _ _ s
  refine wpAny_bind (wpAny_field g d (x := .ref l) rfl ?_)
  show wpAny _ _ (if (Value.ref l == Value.none) = true then _ else _) _ _ _
  rw [if_neg (by simp : ¬ ((Value.ref l == Value.none) = true))]
  show wpAny _ _ (field (.ref it) 1 >>= _) _ _ _
  refine wpAny_bind (wpAny_field g d (x := .int i 0) rfl ?_)
  show wpAny _ _ (seqItems? (.ref l) >>= _) _ _ _
  refine wpAny_bind (wpAny_seqItems gl dl ?_)
  simp only [Int.toNat_natCast, z]
  refine wpAny_bind (wpAny_rule (wpAny_bind (wpAny_setField g d (by simp) ?_)))
  refine stop_hot (HotAt.on c fun o q => ?_) fun h' e u y => k h' e (ext_of (Heap.SameBut.update ..) u) y
  exact (Heap.SameBut.update ..).extBut _ _ n1 q
theorem nextOf_list_hot {it l : Addr} {i : Nat} {xs : Array Value} {Q : Value → Shared → Prop} (c : HotAt A x1 s.heap) (n1 : x1 ≠ it) (a : s.heap.IsListIter it l i) (b : s.heap.IsList l xs) (z : xs[i]? = none)
    (k : ∀ h' e, Heap.ExtBut it s.heap h' → (∃ o, h'.get? e = some o ∧ o.cls = .type "StopIteration") → E (.ref e) { s with heap := h' }) : wpAny (model prog w) A (Builtin.SmallTypes.nextOf (.ref it)) Q E s := by
  unfold Builtin.SmallTypes.nextOf
  exact wpAny_bind (wpAny_callSpecial?_slot (name := Str.ofString "__next__") a.typeIs slot_listiter_next (wpAny_call_entry slot_listiter_next a.typeIs entry_listiter_next (list_stop (A := A.in1) c n1 a b z k) (args_listiter_next _)))
theorem nextOf_tup_hot {it l : Addr} {i : Nat} {xs : Array Value} {Q : Value → Shared → Prop} (c : HotAt A x1 s.heap) (n1 : x1 ≠ it) (a : s.heap.IsTupleIter it l i) (b : s.heap.IsTuple l xs) (z : xs[i]? = none)
    (k : ∀ h' e, Heap.ExtBut it s.heap h' → (∃ o, h'.get? e = some o ∧ o.cls = .type "StopIteration") → E (.ref e) { s with heap := h' }) : wpAny (model prog w) A (Builtin.SmallTypes.nextOf (.ref it)) Q E s := by
  unfold Builtin.SmallTypes.nextOf
  exact wpAny_bind (wpAny_callSpecial?_slot (name := Str.ofString "__next__") a.typeIs F.slot_tuple_iterator_next (wpAny_call_entry F.slot_tuple_iterator_next a.typeIs F.entry_tuple_iterator_next (tup_stop (A := A.in1) c n1 a b z k) (F.args_tuple_iterator_next_1 _)))
theorem pyNext_list_hot {it l : Addr} {i : Nat} {xs : Array Value} {Q : Option Value → Shared → Prop} (c : HotAt A x1 s.heap) (n1 : x1 ≠ it) (a : s.heap.IsListIter it l i) (b : s.heap.IsList l xs) (z : xs[i]? = none)
    (k : ∀ h', Heap.ExtBut it s.heap h' → Q none { s with heap := h' }) : wpAny (model prog w) A (pyNext (.ref it)) Q E s := by
  unfold pyNext
  refine wpAny_bind (wpAny_attempt (wpAny_callSpecial?_slot (name := Str.ofString "__next__") a.typeIs slot_listiter_next (wpAny_call_entry slot_listiter_next a.typeIs entry_listiter_next (list_stop (A := A.in1) c n1 a b z fun h' e u ⟨o, g, y⟩ => ?_) (args_listiter_next _))))
  exact wpAny_bind (wpAny_isInstance (T := "StopIteration") (b := true) ⟨o, g, y⟩ isSubtype_stop (wpAny_pure (k h' u)))
theorem pyNext_tup_hot {it l : Addr} {i : Nat} {xs : Array Value} {Q : Option Value → Shared → Prop} (c : HotAt A x1 s.heap) (n1 : x1 ≠ it) (a : s.heap.IsTupleIter it l i) (b : s.heap.IsTuple l xs) (z : xs[i]? = none)
    (k : ∀ h', Heap.ExtBut it s.heap h' → Q none { s with heap := h' }) : wpAny (model prog w) A (pyNext (.ref it)) Q E s := by
  unfold pyNext
  refine wpAny_bind (wpAny_attempt (wpAny_callSpecial?_slot (name := Str.ofString "__next__") a.typeIs F.slot_tuple_iterator_next (wpAny_call_entry F.slot_tuple_iterator_next a.typeIs F.entry_tuple_iterator_next (tup_stop (A := A.in1) c n1 a b z fun h' e u ⟨o, g, y⟩ => ?_) (F.args_tuple_iterator_next_1 _))))
  exact wpAny_bind (wpAny_isInstance (T := "StopIteration") (b := true) ⟨o, g, y⟩ isSubtype_stop (wpAny_pure (k h' u)))
/-- a tuple's parts, taken there -/
theorem items_tup_hot {t : Addr} {xs : Array Value} {Q : List Value → Shared → Prop} (c : HotAt A x1 s.heap) (b : s.heap.IsTuple t xs) (k : ∀ h', Heap.ExtBut s.heap.objs.size s.heap h' → Q xs.toList { s with heap := h' }) :
    wpAny (model prog w) A (unpackItems (.ref t) xs.size none) Q E s := by
  have lt : t < s.heap.objs.size := by obtain ⟨o, g, _⟩ := b; exact Heap.lt_size g
  have l1 : x1 < s.heap.objs.size := by obtain ⟨o, vs, g, _⟩ := HotAt.there c; exact Heap.lt_size g
  unfold unpackItems notIterableAtAll
  refine wpAny_bind (wpAny_bind (wpAny_specialOf b.typeIs F.slot_tuple_iter.lookup ?_))
  apply wpAny_pure
  simp only [Bool.false_eq_true, if_false]
  refine wpAny_bind (wpAny_holding (wpAny_pyIter_tuple b ?_))
  refine wpAny_bind (wpAny_holding (wpAny_draw_tuple (Nat.ne_of_lt lt) xs.size 0 _ _ ⟨_, Heap.get?_push_size _ rfl, rfl, rfl⟩ (b.push _) (by omega) fun h1 it1 u1 => ?_))
  have all : List.take xs.size (List.drop 0 xs.toList) = xs.toList := by
    rw [List.drop_zero, List.take_of_length_le (by simp)]
  rw [all, if_neg (by simp)]
  have b1 := (b.push { cls := .type "tuple_iterator", data := .fields #[.ref t, .int 0 0] }).extBut u1.extBut (Nat.ne_of_lt lt)
  refine wpAny_bind (wpAny_holding (pyNext_tup_hot (HotAt.on c fun o g => u1.extBut _ _ (Nat.ne_of_lt l1) (Heap.get?_push_of_some _ g)) (Nat.ne_of_lt l1) it1 b1 (by simp) fun h2 u2 => ?_))
  simp only [Option.isSome_none, Bool.false_eq_true, if_false]
  exact wpAny_pure (k h2 fun b' o n g => u2 b' o n (u1.extBut b' o n (Heap.get?_push_of_some _ g)))
theorem assign_tup_hot {env : Env} {es : List Expr} {m} {pos : Pos} {t : Addr} {xs : Array Value} {Q : Unit → Shared → Prop} (c : HotAt A x1 s.heap) (b : s.heap.IsTuple t xs) (hn : (assignEach es env).length = xs.size) (hs : (assignEach es env).findIdx? (·.1) = none)
    (k : ∀ h', Heap.ExtBut s.heap.objs.size s.heap h' → wpAny (model prog w) A (assignInOrder ((assignEach es env).map (·.2)) xs.toList) Q E { s with heap := h' }) :
    wpAny (model prog w) A (assign (.Tuple es m pos) env (.ref t)) Q E s := by
  rw [PySem.arm_assign_Tuple]
  refine wpAny_bind (wpAny_standAt ?_)
  unfold unpack
  rw [hn, hs]
  exact wpAny_bind (wpAny_holding (items_tup_hot c b k))
end
end Ev
end
section
set_option maxRecDepth 100000
set_option maxHeartbeats 2000000
/-! EvH2: zip of two lists, of two tuples, walked while an exception is handled. -/
namespace Ev
open PySem PySem.Spec PyProof.Rows L2 HotX L2H
section
variable {prog : Program} {w : World} {A : Around} {x1 : Addr}
theorem draws_list_hot (it l : Addr) (n : Nat) (hne : l ≠ it) (n1 : x1 ≠ it) (xs : Array Value) :
    Draws prog w A it [it, l, x1] n (fun i v => xs[i]? = some v) (fun i h => (h.IsListIter it l i ∧ h.IsList l xs ∧ HotAt A x1 h) ∧ (n = xs.size ∨ (xs.size ≤ n ∧ i = n))) where
  live := fun _ _ st => st.1.1.elim fun o g => ⟨o, g.1⟩
  frame := fun _ _ _ st k => ⟨⟨st.1.1.at fun o g => k it (by simp) o g, st.1.2.1.at fun o g => k l (by simp) o g, HotAt.on st.1.2.2 fun o g => k x1 (by simp) o g⟩, st.2⟩
  item := fun i s Q E hi st k => by
    have hn : n = xs.size := st.2.elim id fun y => by omega
    refine wpAny_nextOf_list_item st.1.1 st.1.2.1 (x := xs[i]) (by first | (simp; done) | (simp; omega)) fun h' t u => k _ h' s.toks (by first | (simp; done) | (simp; omega)) ⟨⟨t, st.1.2.1.extBut u.extBut hne, HotAt.on st.1.2.2 fun o g => u.extBut _ _ n1 g⟩, .inl hn⟩ u
  done := fun s Q E st k => nextOf_list_hot st.1.2.2 n1 st.1.1 st.1.2.1 (by first | (simp; done) | (simp; omega)) k
theorem draws_tup_hot (it l : Addr) (n : Nat) (hne : l ≠ it) (n1 : x1 ≠ it) (xs : Array Value) :
    Draws prog w A it [it, l, x1] n (fun i v => xs[i]? = some v) (fun i h => (h.IsTupleIter it l i ∧ h.IsTuple l xs ∧ HotAt A x1 h) ∧ (n = xs.size ∨ (xs.size ≤ n ∧ i = n))) where
  live := fun _ _ st => st.1.1.elim fun o g => ⟨o, g.1⟩
  frame := fun _ _ _ st k => ⟨⟨st.1.1.at fun o g => k it (by simp) o g, st.1.2.1.at fun o g => k l (by simp) o g, HotAt.on st.1.2.2 fun o g => k x1 (by simp) o g⟩, st.2⟩
  item := fun i s Q E hi st k => by
    have hn : n = xs.size := st.2.elim id fun y => by omega
    refine wpAny_nextOf_tuple_item st.1.1 st.1.2.1 (x := xs[i]) (by first | (simp; done) | (simp; omega)) fun h' t u => k _ h' s.toks (by first | (simp; done) | (simp; omega)) ⟨⟨t, st.1.2.1.extBut u.extBut hne, HotAt.on st.1.2.2 fun o g => u.extBut _ _ n1 g⟩, .inl hn⟩ u
  done := fun s Q E st k => nextOf_tup_hot st.1.2.2 n1 st.1.1 st.1.2.1 (by first | (simp; done) | (simp; omega)) k
end
/-- a kind of rows that zip walks -/
structure ZK (P : Program) (w : World) (K : PySem.W.Frag) (IT : Heap → Addr → Addr → Nat → Prop) (SS : Heap → Addr → Array Value → Prop) (SQ : Hp → Addr → List V → Prop) : Prop where
  at_ : ∀ {h h' : Heap} {it a : Addr} {i : Nat}, IT h it a i → (∀ o, h.get? it = some o → h'.get? it = some o) → IT h' it a i
  there : ∀ {h : Heap} {it a : Addr} {i : Nat}, IT h it a i → ∃ (o : Obj) (vs : Array Value), h.get? it = some o ∧ o.data = .fields vs
  seq : ∀ {X : Cx} {pins : List (Addr × Obj)} {σ : L2.St} {H : Hp} {s : Shared} {a : Addr} {xs : List V}, X.K = K → L2.Inv X pins σ H s → SQ H a xs → ∃ its : List Value, Vals xs its ∧ SS s.heap a its.toArray
  inj : ∀ {X : Cx} {pins : List (Addr × Obj)} {σ : L2.St} {H : Hp} {s : Shared} {a : Addr} {xs ys : List V}, X.K = K → L2.Inv X pins σ H s → SQ H a xs → SQ H a ys → xs = ys
  item : ∀ {A : Around} {E : Value → Shared → Prop} {s : Shared} {z TI TO i1 i2 l1 l2 : Addr} {k1 k2 : Nat} {xs ys : Array Value} {x y a b : Value} {Q : Option Value → Shared → Prop}, ZipApart z TI TO i1 i2 l1 l2 → IsZip s.heap z TI TO .none → IsPair s.heap TI (.ref i1) (.ref i2) → IsPair s.heap TO a b →
    IT s.heap i1 l1 k1 → IT s.heap i2 l2 k2 → SS s.heap l1 xs → SS s.heap l2 ys → xs[k1]? = some x → ys[k2]? = some y →
    (∀ h', IsZip h' z TI TO (rawInt s.heap.objs.size) → IsPair h' TO x y → IT h' i1 l1 (k1 + 1) → IT h' i2 l2 (k2 + 1) → IsPair h' s.heap.objs.size x y → h'.objs.size = s.heap.objs.size + 1 →
      (∀ c o, c ≠ z → c ≠ TO → c ≠ i1 → c ≠ i2 → s.heap.get? c = some o → h'.get? c = some o) → Q (some (.ref s.heap.objs.size)) { s with heap := h' }) → wpAny (model P w) A (pyNext (.ref z)) Q E s
  draw : ∀ {A : Around} {x1 : Addr} (it l : Addr) (n : Nat), l ≠ it → x1 ≠ it → ∀ xs : Array Value, Draws P w A it [it, l, x1] n (fun i v => xs[i]? = some v) (fun i h => (IT h it l i ∧ SS h l xs ∧ HotAt A x1 h) ∧ (n = xs.size ∨ (xs.size ≤ n ∧ i = n)))
theorem zk_list {P : Program} {w : World} {K : PySem.W.Frag} : ZK P w K (fun h it a i => h.IsListIter it a i) (fun h a xs => h.IsList a xs) (SqL K) where
  at_ := fun a k => a.at k
  there := fun ⟨o, g, _, d⟩ => ⟨o, _, g, d⟩
  seq := fun e I h => by
    subst e
    obtain ⟨its, rv, p, _⟩ := I.list h
    exact ⟨its, rv, p.isList⟩
  inj := fun e I h1 h2 => by
    subst e
    exact I.list_inj h1 h2
  item := fun D hz hI hO h1 h2 l1 l2 hx hy k => wpAny_pyNext_zip_item D hz hI hO h1 h2 l1 l2 hx hy k
  draw := fun it l n a b xs => draws_list_hot it l n a b xs
theorem zk_tup {P : Program} {w : World} {K : PySem.W.Frag} : ZK P w K (fun h it a i => h.IsTupleIter it a i) (fun h a xs => h.IsTuple a xs) (SqT K) where
  at_ := fun a k => a.at k
  there := fun ⟨o, g, _, d⟩ => ⟨o, _, g, d⟩
  seq := fun e I h => by
    subst e
    obtain ⟨its, rv, p, _⟩ := I.tuple h
    exact ⟨its, rv, p⟩
  inj := fun e I h1 h2 => by
    subst e
    exact I.tuple_inj h1 h2
  item := fun D hz hI hO h1 h2 l1 l2 hx hy k => RZ.pyNext_zipT_item D hz hI hO h1 h2 l1 l2 hx hy k
  draw := fun it l n a b xs => draws_tup_hot it l n a b xs
def ItzG (SQ : Hp → Addr → List V → Prop) (a b : Addr) : L2.It :=
  ⟨fun i H => ∃ (xs ys : List V) (x y : V), SQ H a xs ∧ SQ H b ys ∧ xs[i]? = some x ∧ ys[i]? = some y,
    fun i H v H' => ∃ T x y, v = .ref T ∧ H T = none ∧ H' = upd H T (.tup [x, y]) ∧ (∀ xs, SQ H a xs → xs[i]? = some x) ∧ ∀ ys, SQ H b ys → ys[i]? = some y,
    fun i H => ∃ xs ys : List V, SQ H a xs ∧ SQ H b ys ∧ (xs.length ≤ i ∨ ys.length ≤ i)⟩
theorem turn_zipH {P : Program} {w : World} {K : PySem.W.Frag} {IT : Heap → Addr → Addr → Nat → Prop} {SS : Heap → Addr → Array Value → Prop} {SQ : Hp → Addr → List V → Prop} (Z : ZK P w K IT SS SQ) {es : List Expr} {m : Nat} {tp : Pos} {a b z TI TO i1 i2 : Addr} (D : ZipApart z TI TO i1 i2 a b) :
    TurnH P w K (.Tuple es m tp) (ItzG SQ a b) [z, TI, TO, i1, i2] z (fun i h => (IsZip h z TI TO .none ∧ IsPair h TI (.ref i1) (.ref i2) ∧ ∃ x y, IsPair h TO x y) ∧ IT h i1 a i ∧ IT h i2 b i) where
  mem := List.mem_cons_self
  obj := fun i h st c hc => by
    obtain ⟨⟨q1, q2, x, y, q3⟩, t1, t2⟩ := st
    obtain ⟨o1, v1, g1, d1⟩ := Z.there t1
    obtain ⟨o2, v2, g2, d2⟩ := Z.there t2
    simp only [List.mem_cons, List.not_mem_nil, or_false] at hc
    rcases hc with rfl | rfl | rfl | rfl | rfl
    · exact ⟨_, q1, fun v y => nomatch y⟩
    · exact ⟨_, q2, fun v y => nomatch y⟩
    · exact ⟨_, q3, fun v y => nomatch y⟩
    · exact ⟨o1, g1, fun v y => by rw [d1] at y; cases y⟩
    · exact ⟨o2, g2, fun v y => by rw [d2] at y; cases y⟩
  keep := fun i h h' st k => by
    obtain ⟨⟨q1, q2, x, y, q3⟩, t1, t2⟩ := st
    exact ⟨⟨k z (by simp) _ q1, k TI (by simp) _ q2, x, y, k TO (by simp) _ q3⟩, Z.at_ t1 fun o g => k i1 (by simp) o g, Z.at_ t2 fun o g => k i2 (by simp) o g⟩
  self := fun A i s Q E st k => wpAny_pyIter_zip st.1.1 k
  item := fun X hP hw hK hc i pins s σ H E I hf st hg => by
    subst hP hw
    obtain ⟨⟨q1, q2, x0, y0, q3⟩, t1, t2⟩ := st
    obtain ⟨xs, ys, x, y, ga, gb, gx, gy⟩ := hg
    obtain ⟨l1, r1, e1⟩ := Z.seq hK I ga
    obtain ⟨l2, r2, e2⟩ := Z.seq hK I gb
    obtain ⟨u, hu, ru⟩ := r1.get gx
    obtain ⟨v, hv, rv⟩ := r2.get gy
    have zl := Heap.lt_size q1
    refine Z.item D q1 q2 q3 t1 t2 e1 e2 (x := u) (y := v) (by simpa using hu) (by simpa using hv) fun h' b1 b2 b3 b4 b5 b6 b7 => ⟨_, rfl, wpAny_letOwnedTupleGo_zip (s := { s with heap := h' }) b1 fun h2 c1 c2 => ?_⟩
    have n5 := (c2.2 _ (Nat.ne_of_gt zl)).trans b5
    have I2 : L2.Inv X pins σ (upd H s.heap.objs.size (.tup [x, y])) { s with heap := h2 } := I.turnedNew (t' := s.toks) (ch := [z, TI, TO, i1, i2]) (fun c o hb g => by
      simp only [List.mem_cons, List.not_mem_nil, or_false, not_or] at hb
      exact (c2.2 c hb.1).trans (b7 c o hb.1 hb.2.2.1 hb.2.2.2.1 hb.2.2.2.2 g)) hf (Nat.le_refl _) ⟨by show 2 ≤ sizeLine; decide, [u, v], .cons ru (.cons rv .nil), _, n5, rfl, _, rfl⟩
    refine ⟨.ref s.heap.objs.size, _, I2, rfl, ⟨_, x, y, rfl, I.hok.fresh (Nat.le_refl _), rfl, fun l hl => Z.inj hK I ga hl ▸ gx, fun l hl => Z.inj hK I gb hl ▸ gy⟩, ⟨⟨c1, (c2.2 _ D.TIz).trans (b7 _ _ D.TIz D.TITO D.TIi1 D.TIi2 q2), u, v, (c2.2 _ D.TOz).trans b2⟩, Z.at_ b3 fun o g => (c2.2 _ D.i1z).trans g, Z.at_ b4 fun o g => (c2.2 _ D.i2z).trans g⟩, fun c hm => ?_⟩
    have cn := (hf c hm).1
    have lt : c < s.heap.objs.size := by
      obtain ⟨o1, _, g1, _⟩ := Z.there t1
      obtain ⟨o2, _, g2, _⟩ := Z.there t2
      simp only [List.mem_cons, List.not_mem_nil, or_false] at hm
      rcases hm with rfl | rfl | rfl | rfl | rfl
      · exact zl
      · exact Heap.lt_size q2
      · exact Heap.lt_size q3
      · exact Heap.lt_size g1
      · exact Heap.lt_size g2
    rw [upd_ne (Nat.ne_of_lt lt), cn]
  done := fun X hP hw hK hc i pins s σ H E I hf st hg => by
    subst hP hw
    obtain ⟨⟨q1, q2, x0, y0, q3⟩, t1, t2⟩ := st
    obtain ⟨xs, ys, ga, gb, hend⟩ := hg
    obtain ⟨l1, r1, e1⟩ := Z.seq hK I ga
    obtain ⟨l2, r2, e2⟩ := Z.seq hK I gb
    have s1 : l1.toArray.size = xs.length := by simp [r1.length]
    have s2 : l2.toArray.size = ys.length := by simp [r2.length]
    obtain ⟨p, ⟨hh, vs, dp, cp⟩, hp⟩ := hc
    have hot : HotAt X.A p.1 s.heap := ⟨hh, p.2, vs, (I.pin p (List.mem_append_left _ hp)).1, dp, cp⟩
    have np : ∀ c, c ∈ [z, TI, TO, i1, i2] → p.1 ≠ c := fun c hm => (hf c hm).2.2.2.2.2 p (List.mem_append_left _ hp)
    have S : ZipSep2 z TI TO i1 i2 [i1, a, p.1] [i2, b, p.1] := by
      have a0 := np z (by simp)
      have a2 := np TO (by simp)
      have a3 := np i1 (by simp)
      have a4 := np i2 (by simp)
      refine ⟨D.TIz, D.TOz, D.TITO, D.TIi1, by simp, ?_, ?_, D.TIi2, by simp, ?_, ?_, ?_, ?_⟩ <;> simp only [List.mem_cons, List.not_mem_nil, or_false, not_or]
      · exact ⟨D.i1z.symm, D.l1z.symm, a0.symm⟩
      · exact ⟨D.TOi1, D.l1TO.symm, a2.symm⟩
      · exact ⟨D.i2z.symm, D.l2z.symm, a0.symm⟩
      · exact ⟨D.TOi2, D.l2TO.symm, a2.symm⟩
      · exact ⟨D.i12, D.l2i1.symm, a3.symm⟩
      · exact ⟨D.i12.symm, D.l1i2.symm, a4.symm⟩
    have fin : ∀ n1 n2 : Nat, (n1 = xs.length ∨ (xs.length ≤ n1 ∧ i = n1)) → (n2 = ys.length ∨ (ys.length ≤ n2 ∧ i = n2)) → i ≤ n1 → i ≤ n2 → (i = n1 ∨ i = n2) → wpAny (model X.prog X.w) X.A (pyNext (.ref z)) (fun r s1 => r = none ∧ L2.Inv X pins σ H s1) E s := fun n1 n2 c1 c2 d1 d2 d3 =>
      wpAny_pyNext_zipD2_end S (Z.draw (A := X.A.in1) i1 a n1 D.l1i1 (np i1 (by simp)) l1.toArray) (Z.draw (A := X.A.in1) i2 b n2 D.l2i2 (np i2 (by simp)) l2.toArray) q1 q2 q3 ⟨⟨t1, e1, hot⟩, by rw [s1]; exact c1⟩ ⟨⟨t2, e2, hot⟩, by rw [s2]; exact c2⟩ d1 d2 d3
        fun h' tk k => ⟨rfl, I.turnedL (t' := tk) (ch := [z, TI, TO, i1, i2]) (fun c o hb g => by
          simp only [List.mem_cons, List.not_mem_nil, or_false, not_or] at hb
          exact k c o hb.1 hb.2.2.1 hb.2.2.2.1 hb.2.2.2.2 g) hf⟩
    by_cases u1 : xs.length ≤ i
    · by_cases u2 : ys.length ≤ i
      · exact fin i i (.inr ⟨u1, rfl⟩) (.inr ⟨u2, rfl⟩) (Nat.le_refl _) (Nat.le_refl _) (.inl rfl)
      · exact fin i ys.length (.inr ⟨u1, rfl⟩) (.inl rfl) (Nat.le_refl _) (by omega) (.inl rfl)
    · exact fin xs.length i (.inl rfl) (.inr ⟨by omega, rfl⟩) (by omega) (Nat.le_refl _) (.inr rfl)
end Ev
end
section
set_option maxRecDepth 100000
set_option maxHeartbeats 2000000
/-! EvH3: a list comprehension, all, a tuple's parts while an exception is handled. -/
namespace Ev
open PySem PySem.Spec PyProof.Rows L2 HotX L2H
/-- the block's context, the handled exception in it -/
abbrev blkH (X : Cx) (s : Shared) (H : Hp) (scope : Scope) (ce : Env) (fp : List Addr) (p : Addr × Obj) : Cx := { X.blk s H scope ce fp with pn := [p] }
section
variable {X : Cx}
theorem blkH_hot {s : Shared} {H : Hp} {scope : Scope} {ce : Env} {fp : List Addr} {p : Addr × Obj} (h : Hot1 X.A p) : HotC (blkH X s H scope ce fp p) := ⟨p, h, List.mem_cons_self⟩
theorem inv_blkH {s s' : Shared} {H H' : Hp} {scope : Scope} {ce : Env} {fp : List Addr} {p : Addr × Obj} {τ : L2.St} (J : L2.Inv (X.blk s H scope ce fp) [] τ H' s')
    (hp : s'.heap.get? p.1 = some p.2 ∧ H' p.1 = none ∧ p.1 ≠ ce.locals ∧ p.1 ∉ frs X.stack ∧ ∀ v, p.2.data ≠ .cell v) : L2.Inv (blkH X s H scope ce fp p) [] τ H' s' :=
  ⟨⟨J.ok.mod, J.ok.kind, J.ok.glob, J.ok.blt, J.ok.above, J.ok.inj, J.ok.has, J.ok.cab, J.ok.hd, J.ok.frames, J.ok.stk, J.ok.exf, J.ok.bs, J.ok.bsz, J.ok.noex, J.ok.exfs, J.ok.funs, J.ok.frf⟩,
    J.os, J.bare, J.base, J.loc, J.cell, J.free, J.freeC, fun q hq => by
      have e : q = p := by simpa using (show q ∈ [p] ++ ([] : List (Addr × Obj)) from hq)
      subst e
      exact hp, J.hok, J.len⟩
theorem lcH_core {pins : List (Addr × Obj)} {s : Shared} {τ : L2.St} {G : Hp} {Q : VK} {elt tg iter : Expr} {ifs : List Expr} {scope : Scope} {own : List (Str × Nat)} {pos pos' : Pos} {wi : TI} {g : TG} {tt : TT} {te : TE} {Qf : Value → Shared → Prop}
    (hc : HotC X) (nd : X.N.Nodup) (I : L2.Inv X pins τ G s) (hi : PIH X tg iter wi) (B : BlkOk X.N X.env.scope scope own)
    (hg : ∀ (s : Shared) (H : Hp) (C : Addr) (cl : List (Str × Addr)) (fp : List Addr) (p : Addr × Obj), Hot1 X.A p → PG (blkH X s H scope (compEnvC scope cl C X.env) fp p) tg g)
    (ht : ∀ (s : Shared) (H : Hp) (C : Addr) (cl : List (Str × Addr)) (fp : List Addr) (p : Addr × Obj), Hot1 X.A p → PTs (blkH X s H scope (compEnvC scope cl C X.env) fp p) ifs tt)
    (he : ∀ (s : Shared) (H : Hp) (C : Addr) (cl : List (Str × Addr)) (fp : List Addr) (p : Addr × Obj), Hot1 X.A p → PE (blkH X s H scope (compEnvC scope cl C X.env) fp p) elt te) (hs : ∀ x, foldedSetIterable iter X.env x = pure x)
    (h : tLc wi g tt te (own.map (·.2)) τ G Q)
    (hR : ∀ D C s' m G', L2.Inv X pins τ G' s' → Q (.ref D) G' → s'.heap.Ns C m → FpOk X pins G' C → compPost (model X.prog X.w) X.A X.xe none Qf (.ref D) C (.ok .next) s') :
    wpAny (model X.prog X.w) X.A (comprehension (.ListComp elt [⟨tg, iter, ifs, 0⟩] scope pos) scope X.env pos' (newList []) false (eval iter X.env) none) Qf X.xe s := by
  have clo : ∀ y ∈ scope.names, y.2 = .free → ∃ c, X.env.cells.lookup y.1 = some c := fun y hy e => (B.free y hy e).elim (fun k => I.ok.has _ (.inl k)) fun k => I.ok.has _ (.inr k)
  obtain ⟨p, hot, hp⟩ := hc
  have hp2 : ∀ pins : List (Addr × Obj), p ∈ X.pn ++ pins := fun pins => List.mem_append_left _ hp
  refine wpAny_comprehension_free (use := none) rfl hs (closure_ok clo) B.kind (fun y hy e => e ▸ B.uniq y hy) (thn (hi.run pins s τ G _ I h) fun _ s1 h1 => thn h1 fun itv s2 h2 => ?_)
  obtain ⟨it, fp, tn, J, G2, rfl, I2, T, st2, f2, q⟩ := h2
  refine wpAny_newObj_type (newEnv_comp ?_) (by show 0 ≤ sizeLine; exact Nat.zero_le _)
  generalize hD : s2.heap.objs.size = D
  obtain ⟨Wm, ⟨m0, w0⟩, turn⟩ := q D (I2.hok.fresh (Nat.le_of_eq hD))
  generalize es3 : ({ s2 with heap := s2.heap.push { cls := .type "list", data := .seq ([] : List Value).toArray } } : Shared) = s3
  have hp3 : s3.heap = s2.heap.push { cls := .type "list", data := .seq ([] : List Value).toArray } := by rw [← es3]
  have up3 : ∀ b o, s2.heap.get? b = some o → s3.heap.get? b = some o := fun b o g => by rw [hp3]; exact Heap.get?_push_of_some _ g
  have I3 : L2.Inv X pins τ (upd G2 D (.lst [])) s3 := by
    subst es3
    refine I2.laid (t' := s2.toks) (fun b o g => Heap.get?_push_of_some _ g) (Nat.le_of_eq hD) ⟨Nat.zero_le _, [], 0, .nil, ?_⟩
    subst hD
    exact Heap.get?_push_size _ rfl
  have below : ∀ b ∈ fp, b < D := fun b hb => by
    obtain ⟨o, g, _⟩ := T.obj _ _ st2 b hb
    exact hD ▸ Heap.lt_size g
  have f3 : ∀ b ∈ fp, FpOk X pins (upd G2 D (.lst [])) b ∧ b < s3.heap.objs.size := fun b hb =>
    ⟨⟨(upd_ne (Nat.ne_of_lt (below b hb))).trans (f2 b hb).1, (f2 b hb).2⟩, by rw [hp3, Heap.size_push, hD]; exact Nat.lt_succ_of_lt (below b hb)⟩
  have st3 : tn 0 s3.heap := T.keep _ _ _ st2 fun b _ o g => up3 b o g
  generalize eG : upd G2 D (.lst []) = G3 at I3 f3 w0
  generalize ecl : cellsFrom (s3.heap.objs.size + 1) scope.names (cloFrom X.env.cells scope.names []) = cl0
  have I4 := block_start I3 B nd f3
  rw [ecl] at I4
  show codeAny _ _ (.compStart (.ListComp elt [⟨tg, iter, ifs, 0⟩] scope pos) 0 (.ref it) (.ref D) (compEnvC scope cl0 s3.heap.objs.size X.env)) (compPost (model X.prog X.w) X.A X.xe none Qf (.ref D) s3.heap.objs.size) { s3 with heap := pushCells (s3.heap.push { cls := .type "dict", data := .dict #[] }) scope.names }
  have pP := I3.pin p (hp2 pins)
  have plt : p.1 < s3.heap.objs.size := Heap.lt_size pP.1
  have npf : ∀ b ∈ fp, p.1 ≠ b := fun b hb => (f2 b hb).2.2.2.2.2 p (hp2 pins)
  have gH := hg s3 G3 s3.heap.objs.size cl0 fp p hot
  have tH := ht s3 G3 s3.heap.objs.size cl0 fp p hot
  have eH := he s3 G3 s3.heap.objs.size cl0 fp p hot
  generalize ece : compEnvC scope cl0 s3.heap.objs.size X.env = ce at I4 gH tH eH ⊢
  have cL : ce.locals = s3.heap.objs.size := by subst ece; rfl
  generalize es4 : ({ s3 with heap := pushCells (s3.heap.push { cls := .type "dict", data := .dict #[] }) scope.names } : Shared) = s4 at I4 ⊢
  have up4 : ∀ b o, s3.heap.get? b = some o → s4.heap.get? b = some o := fun b o g => by rw [← es4]; exact pushCells_keeps _ _ _ _ (Heap.get?_push_of_some _ g)
  have I5 : L2.Inv (blkH X s3 G3 scope ce fp p) [] (wipe τ (own.map (·.2))) G3 s4 := inv_blkH I4 ⟨up4 _ _ pP.1, pP.2.1, by rw [cL]; exact Nat.ne_of_lt plt, fun z => (List.mem_cons.mp (I3.stkSub p.1 z)).elim pP.2.2.1 pP.2.2.2.1, pP.2.2.2.2⟩
  have stat : ∀ {τ' : L2.St} {G' : Hp} {s' : Shared}, L2.Inv (blkH X s3 G3 scope ce fp p) [] τ' G' s' → (∀ b ∈ fp, G' b = none) → ∀ b ∈ fp, FpOk (blkH X s3 G3 scope ce fp p) [] G' b := fun {τ' G' s'} J' hn b hb =>
    ⟨hn b hb, (J'.ok.exf b hb).1, J'.ok.exfs b hb, .inl hb, fun x c e => (J'.ok.exf b hb).2 x c e, fun r hr => by
      have e : r = p := by simpa using (show r ∈ [p] ++ ([] : List (Addr × Obj)) from hr)
      subst e
      exact npf b hb⟩
  have hcB : HotC (blkH X s3 G3 scope ce fp p) := blkH_hot hot
  have rest : codeAny (model X.prog X.w) X.A (.compLoop (.ListComp elt [⟨tg, iter, ifs, 0⟩] scope pos) 0 (.ref it) (.ref D) ce) (compPost (model X.prog X.w) X.A X.xe none Qf (.ref D) s3.heap.objs.size) s4 := by
    refine compLoop_any (fun n s' => ∃ i G', L2.Inv (blkH X s3 G3 scope ce fp p) [] (wipe τ (own.map (·.2))) G' s' ∧ tn i s'.heap ∧ (∀ b ∈ fp, G' b = none) ∧ Wm i n G') (fun n s5 hI => ?_) m0 ⟨0, G3, I5, T.keep _ _ _ st3 fun b _ o g => up4 b o g, fun b hb => (f3 b hb).1.1, w0⟩
    obtain ⟨i, G5, J5, st5, n5, w5⟩ := hI
    rcases turn i n G5 w5 with ⟨stop, qq⟩ | ⟨go, Nx, hNx, step⟩
    · refine thnF (T.done (blkH X s3 G3 scope ce fp p) rfl rfl rfl hcB i [] s5 _ G5 (fun _ _ => False) J5 (stat J5 n5) st5 stop) fun r s6 hr => ?_
      obtain ⟨rfl, J6⟩ := hr
      have back : L2.Inv X pins τ G5 s6 := I3.call' (ch := fp) J6.os J6.base J6.hok J6.bare fun b hb => (f3 b hb).1.2.2.2.elim fun a c => ⟨a, (f3 b hb).1.2.1, c.1, c.2⟩
      obtain ⟨m, hn, _⟩ := J6.loc
      have fr := J6.free
      replace hn : s6.heap.Ns ce.locals m := hn
      replace fr : G5 ce.locals = none := fr
      rw [cL] at hn fr
      exact hR D _ s6 m G5 back qq hn (I3.fpOk (Nat.le_refl _) fr)
    · refine thnF (T.item (blkH X s3 G3 scope ce fp p) rfl rfl rfl hcB i [] s5 _ G5 (fun _ _ => False) J5 (stat J5 n5) st5 go) fun r s6 hr => ?_
      obtain ⟨u, rfl, h6⟩ := hr
      refine thnF h6 fun _ s7 h7 => ?_
      obtain ⟨x, G7, J7, r7, y7, st7, n7⟩ := h7
      refine thnF (gH.run _ s7 _ G7 x u _ (J7.pinned (stat J7 n7) (T.obj _ _ st7)) r7 (step x G7 y7)) fun _ s8 h8 => ?_
      obtain ⟨τ8, G8, J8, hw, q8⟩ := h8
      refine thnF (tH.run _ s8 τ8 G8 _ J8 q8) fun b s9 h9 => ?_
      obtain ⟨G9, J9, q9⟩ := h9
      have next : ∀ {s' : Shared} {G' : Hp}, L2.Inv (blkH X s3 G3 scope ce fp p) ([] ++ pinsAt fp s7.heap) τ8 G' s' → Nx G' → ∃ m, m < n ∧ ∃ i G', L2.Inv (blkH X s3 G3 scope ce fp p) [] (wipe τ (own.map (·.2))) G' s' ∧ tn i s'.heap ∧ (∀ b ∈ fp, G' b = none) ∧ Wm i m G' := fun {s' G'} J' nx => by
        obtain ⟨m', lt, w'⟩ := hNx G' nx
        have stood : ∀ b ∈ fp, ∀ o, s7.heap.get? b = some o → s'.heap.get? b = some o ∧ G' b = none := fun b hb o g => by
          obtain ⟨a1, a2, _⟩ := J'.pin (b, o) (List.mem_append_right _ (List.mem_append_right _ (mem_pinsAt hb g)))
          exact ⟨a1, a2⟩
        refine ⟨m', lt, i + 1, G', (J'.unpinned (pins := [])).weak (by rw [← hw, wipe_length]) (fun j v e => (wipe_some (by rw [hw]; exact e)).1), T.keep _ _ _ st7 fun b hb o g => (stood b hb o g).1, fun b hb => ?_, w'⟩
        obtain ⟨o, g, _⟩ := T.obj _ _ st7 b hb
        exact (stood b hb o g).2
      cases b with
      | false => exact next J9 (by simpa using q9)
      | true =>
        rw [if_pos rfl] at q9 ⊢
        refine thnF (eH.run _ s9 τ8 G9 _ J9 q9) fun z s10 h10 => ?_
        obtain ⟨y, G10, J10, r10, acc, aD, az, nx⟩ := h10
        exact app_ok (X := blkH X s3 G3 scope ce fp p) J10 aD az r10 fun s11 J11 => next J11 nx
  refine codeAny_compStart_list rest (T.self X.A 0 _ _ _ (T.keep _ _ _ st3 fun b _ o g => up4 b o g) rest)
theorem pe_lcH {elt tg iter : Expr} {ifs : List Expr} {scope : Scope} {own : List (Str × Nat)} {pos : Pos} {wi : TI} {g : TG} {tt : TT} {te : TE} (hc : HotC X) (nd : X.N.Nodup) (hi : PIH X tg iter wi) (B : BlkOk X.N X.env.scope scope own)
    (hg : ∀ (s : Shared) (H : Hp) (C : Addr) (cl : List (Str × Addr)) (fp : List Addr) (p : Addr × Obj), Hot1 X.A p → PG (blkH X s H scope (compEnvC scope cl C X.env) fp p) tg g)
    (ht : ∀ (s : Shared) (H : Hp) (C : Addr) (cl : List (Str × Addr)) (fp : List Addr) (p : Addr × Obj), Hot1 X.A p → PTs (blkH X s H scope (compEnvC scope cl C X.env) fp p) ifs tt)
    (he : ∀ (s : Shared) (H : Hp) (C : Addr) (cl : List (Str × Addr)) (fp : List Addr) (p : Addr × Obj), Hot1 X.A p → PE (blkH X s H scope (compEnvC scope cl C X.env) fp p) elt te) (hs : ∀ x, foldedSetIterable iter X.env x = pure x) :
    PE X (.ListComp elt [⟨tg, iter, ifs, 0⟩] scope pos) (tLc wi g tt te (own.map (·.2))) := by
  constructor
  intro pins s τ G Q I h
  rw [eval_ListComp]
  refine lcH_core hc nd I hi B hg ht he hs h fun D C s' m G' J q hn f => ⟨m, hn, fun h2 sb => ⟨.ref D, G', ?_, rfl, q⟩⟩
  exact J.turned (t' := s'.toks) (fun b o hb g => (sb.2 b hb).trans g) f.1 f.2.1 f.2.2.2.1 f.2.2.2.2.1 f.2.2.2.2.2
theorem pg_tupH {es : List Expr} {k : Nat} {t : TGs} {n : Nat} {pos : Pos} (hc : HotC X) (h : PGs X es t) (hn : (assignEach es X.env).length = n) (hs : (assignEach es X.env).findIdx? (·.1) = none) : PG X (.Tuple es k pos) (gTup X.K n t) := by
  constructor
  intro pins s τ G v u Q I r hw
  obtain ⟨a, xs, rfl, hq, hl, hw⟩ := hw
  cases r
  obtain ⟨its, rv, ht, _⟩ := I.tuple hq
  obtain ⟨x1, hot⟩ := hc.at I
  refine assign_tup_hot hot (xs := its.toArray) ht (by rw [hn, ← hl, rv.length]; simp) hs fun h' hx => ?_
  exact h.run pins _ τ G xs _ Q (I.kept (t' := s.toks) fun b o g => hx b o (Nat.ne_of_lt (Heap.lt_size g)) g) rv hw
theorem cr_allH (hc : HotC X) : CallR X (.builtin "all") (rAll X.K) := by
  intro pins s τ G vs us Q I r h
  obtain ⟨a, bs, rfl, hs, q⟩ := h
  obtain ⟨its, rv, hl, _⟩ := I.list hs
  obtain ⟨x1, hot⟩ := hc.at I
  have hb := rv.bls
  rw [Vals.ref1 r]
  refine call_all_walk (iter_any hl.isList fun s2 e2 st hne => ?_)
  subst e2
  have lx : x1 < s.heap.objs.size := by
    obtain ⟨o, _, g, _⟩ := HotAt.there hot
    exact Heap.lt_size g
  have W : Walks X.prog X.w X.A.in1 s.heap.objs.size [s.heap.objs.size, a, x1] [s.heap.objs.size] its.toArray.size (fun i v => its.toArray[i]? = some v) (fun i h => h.IsListIter s.heap.objs.size a i ∧ h.IsList a its.toArray ∧ HotAt X.A.in1 x1 h) :=
    { sub := fun b hb => by simp at hb; simp [hb]
      frame := fun _ _ _ st k => ⟨st.1.at fun o g => k _ (by simp) o g, st.2.1.at fun o g => k a (by simp) o g, HotAt.on st.2.2 fun o g => k x1 (by simp) o g⟩
      item := fun i s' Q E hi st k => wpAny_pyNext_list_item st.1 st.2.1 (x := its.toArray[i]) (by simp [hi]) fun h' t u => k _ h' s'.toks (by simp [hi]) ⟨t, st.2.1.extBut u.extBut hne, HotAt.on st.2.2 fun o g => u.extBut _ _ (Nat.ne_of_lt lx) g⟩ fun b o hb g => u.extBut b o (fun y => hb (by simp [y])) g
      done := fun s' Q E st k => pyNext_list_hot st.2.2 (Nat.ne_of_lt lx) st.1 st.2.1 (by simp) fun h' u => k h' s'.toks fun b o hb g => u b o (fun y => hb (by simp [y])) g
      self := fun _ _ _ _ st k => wpAny_pyIter_listiter st.1 k }
  refine ⟨_, _, _, _, _, _, _, rfl, W, ⟨st.1, st.2, HotAt.on hot fun o g => Heap.get?_push_of_some _ g⟩, truth_bools hb, fun h' tk hk => ⟨.bl _, G, I.kept fun b o g => hk b o (fun y => ?_) (Heap.get?_push_of_some _ g), ?_, q⟩⟩
  · have e : b = s.heap.objs.size := by simpa using y
    exact absurd (e ▸ Heap.lt_size g) (Nat.lt_irrefl _)
  · show Value.bool _ = Value.bool _
    rw [← L2.all_range, List.size_toArray, hb, List.length_map]
theorem pi_zipH {e e2 : Expr} {ta : TA} {p pos tp : Pos} {es : List Expr} {m : Nat} (hg : Gl X "zip") (hm : X.mg "zip" = none) (ha : PA X [e, e2] ta) (hs : starEach [e, e2] X.env = (false, eval e X.env) :: starEach [e2] X.env) (hpl : (backTo pos (starEach [e2] X.env)).any (·.1) = false) :
    PIH X (.Tuple es m tp) (.Call (.Name "zip" p) [e, e2] [] pos) (RZ.iZipA X.K ta) := by
  constructor
  intro pins s τ G R I h
  refine Call_ (ld_blt I hg hm PyProof.Rows.boot_zip (PyProof.Rows.callWith_type1 (thn (ha.run pos pins s τ G _ I h) fun us s1 h1 => ?_) hs hpl))
  obtain ⟨vs, G1, I1, r1, a, b, xs, ys, rfl, q1⟩ := h1
  obtain ⟨u1, u2, rfl, ra, rb⟩ : ∃ u1 u2, us = [u1, u2] ∧ RelV (.ref a) u1 ∧ RelV (.ref b) u2 := by
    cases r1 with
    | cons r rr =>
      cases rr with
      | cons r' rr =>
        cases rr
        exact ⟨_, _, rfl, r, r'⟩
  obtain rfl : u1 = Value.ref a := ra
  obtain rfl : u2 = Value.ref b := rb
  have five : ∀ c, c ∈ [s1.heap.objs.size + 4, s1.heap.objs.size + 2, s1.heap.objs.size + 3, s1.heap.objs.size, s1.heap.objs.size + 1] → FpOk X pins G1 c := fun c hm => by
    have le : s1.heap.objs.size ≤ c := by
      simp only [List.mem_cons, List.not_mem_nil, or_false] at hm
      omega
    exact I1.fpOk le (I1.hok.fresh le)
  rcases q1 with ⟨gx, gy, q⟩ | ⟨gx, gy, q⟩
  · obtain ⟨l1, _, p1, _⟩ := I1.list gx
    obtain ⟨l2, _, p2, _⟩ := I1.list gy
    refine call_zip_2 p1.isList p2.isList fun h' c1 c2 c3 c4 c5 c6 c7 => wpAny_pyIter_zip c1 ⟨_, _, _, _, G1, rfl, I1.kept (t' := s1.toks) c7, turn_zipH zk_list (PySem.W.ktu_apart s1.heap.objs.size a b p1.lt p2.lt), ⟨⟨c1, c2, _, _, c3⟩, c4, c5⟩, five, q⟩
  · obtain ⟨l1, _, p1, _⟩ := I1.tuple gx
    obtain ⟨l2, _, p2, _⟩ := I1.tuple gy
    have t1 : a < s1.heap.objs.size := by obtain ⟨o, g, _⟩ := id p1; exact Heap.lt_size g
    have t2 : b < s1.heap.objs.size := by obtain ⟨o, g, _⟩ := id p2; exact Heap.lt_size g
    refine RZ.call_zipT (show s1.heap.IsTuple a l1.toArray from p1) (show s1.heap.IsTuple b l2.toArray from p2) fun h' c1 c2 c3 c4 c5 c6 c7 => wpAny_pyIter_zip c1 ⟨_, _, _, _, G1, rfl, I1.kept (t' := s1.toks) c7, turn_zipH zk_tup (PySem.W.ktu_apart s1.heap.objs.size a b t1 t2), ⟨⟨c1, c2, _, _, c3⟩, c4, c5⟩, five, q⟩
end
end Ev
end
section
set_option maxRecDepth 100000
set_option maxHeartbeats 2000000
/-! EvH4: enumerate of a tuple. -/
namespace Ev
open PySem PySem.Spec PyProof.Rows L2
theorem enum_one {v : Value} {o : Obj} {T : Heap → Prop} (B : Begins v o T) :
    Meets (Builtin.«enumerate.__new__» ⟨[.type "enumerate", v], []⟩) (fun _ R s => T s.heap ∧
      R (.ok (.ret (.ref (s.heap.push o).objs.size))) { s with heap := (s.heap.push o).push { cls := .type "enumerate", data := .fields #[.none, .bool false, .ref s.heap.objs.size, rawInt 0, .none, .none] } }) :=
  .of_wp fun prog w A R s h => by
    obtain ⟨hp, g, d, tk, os⟩ := s
    obtain ⟨g1, g2⟩ := h
    have hsub := sub_enumerate
    have st : ∀ {A' : Around} {E : Value → Shared → Prop} {Q : Value → Shared → Prop}, Q (.ref hp.objs.size) ⟨hp.push o, g, d, tk, os⟩ → wpAny (model prog w) A' (pyIter v) Q E ⟨hp, g, d, tk, os⟩ := fun q => B.iter prog w _ _ ⟨hp, g, d, tk, os⟩ _ g1 q
    wp_walk using st
    refine wpAny_stack_any fun ks => wpAny_pure ?_
    split
    · rename_i c _ _ _ _ _
      cases (c == Value.type "enumerate")
      all_goals (wp_walk using st; exact ⟨_, rfl, g2⟩)
    · wp_walk using st
      exact ⟨_, rfl, g2⟩
section
variable {prog : Program} {w : World} {A : Around} {E : Value → Shared → Prop} {s : Shared}
theorem call_enum1 {v : Value} {o : Obj} {T : Heap → Prop} {Q : Value → Shared → Prop} (B : Begins v o T) (g : T s.heap)
    (k : ∀ h', IsEnum h' (s.heap.objs.size + 1) s.heap.objs.size 0 .none → h'.get? s.heap.objs.size = some o → (∀ b o, s.heap.get? b = some o → h'.get? b = some o) → Q (.ref (s.heap.objs.size + 1)) { s with heap := h' }) :
    wpAny (model prog w) A (call (.type "enumerate") [v]) Q E s := by
  have sz : (s.heap.push o).objs.size = s.heap.objs.size + 1 := Heap.size_push ..
  refine callType_new F.called_enumerate (by decide) (F.typeCall_enumerate_1 _) (F.newCall_enumerate_1 _) (fun obj => F.args_object_init_2 obj _) F.entry_enumerate_new (enum_one B) ⟨g, ?_⟩
  rw [sz]
  have ge := Heap.get?_push_size (s.heap.push o) (o := { cls := .type "enumerate", data := .fields #[.none, .bool false, .ref s.heap.objs.size, rawInt 0, .none, .none] }) rfl
  rw [sz] at ge
  exact ⟨⟨_, ge, rfl⟩, k _ ge (Heap.get?_push_of_some _ (Heap.get?_push_size _ B.free)) fun b o q => Heap.get?_push_of_some _ (Heap.get?_push_of_some _ q)⟩
end
theorem draws_tup {prog : Program} {w : World} {A : Around} (hh : A.handled = none) (it l : Addr) (n : Nat) (hne : l ≠ it) (xs : Array Value) :
    Draws prog w A it [it, l] n (fun i v => xs[i]? = some v) (fun i h => (h.IsTupleIter it l i ∧ h.IsTuple l xs) ∧ (n = xs.size ∨ (xs.size ≤ n ∧ i = n))) where
  live := fun _ _ st => st.1.1.elim fun o g => ⟨o, g.1⟩
  frame := fun _ _ _ st k => ⟨⟨st.1.1.at fun o g => k it (by simp) o g, st.1.2.at fun o g => k l (by simp) o g⟩, st.2⟩
  item := fun i s Q E hi st k => by
    have hn : n = xs.size := st.2.elim id fun y => by omega
    exact wpAny_nextOf_tuple_item st.1.1 st.1.2 (x := xs[i]) (by simp) fun h' t u => k _ h' s.toks (by first | (simp; done) | (simp; omega)) ⟨⟨t, st.1.2.extBut u.extBut hne⟩, .inl hn⟩ u
  done := fun s Q E st k => wpAny_nextOf_tuple_end hh st.1.1 st.1.2 (by simp; omega) k
/-- the tuple at a, its items with their numbers -/
def IteT (K : PySem.W.Frag) (a : Addr) : L2.It :=
  ⟨fun i H => ∃ (xs : List V) (x : V), SqT K H a xs ∧ xs[i]? = some x, fun i H v H' => ∃ T x, v = .ref T ∧ H T = none ∧ H' = upd H T (.tup [.int (i : Nat), x]) ∧ ∀ xs, SqT K H a xs → xs[i]? = some x, fun i H => ∃ xs : List V, SqT K H a xs ∧ xs.length ≤ i⟩
theorem turn_enumT {P : Program} {w : World} {K : PySem.W.Frag} {es : List Expr} {m : Nat} {tp : Pos} (a e it : Addr) (na : a ≠ it) (ne : e ≠ it) (nae : e ≠ a) :
    Turn P w K (.Tuple es m tp) (IteT K a) [e, it] e (fun i h => (∃ old, IsEnum h e it ((i : Nat) : Int) old) ∧ h.IsTupleIter it a i) where
  mem := List.mem_cons_self
  obj := fun i h st b hb => by
    obtain ⟨⟨old, g⟩, o, go, _, d⟩ := st
    simp only [List.mem_cons, List.not_mem_nil, or_false] at hb
    rcases hb with rfl | rfl
    · exact ⟨_, g, fun v y => nomatch y⟩
    · exact ⟨o, go, fun v y => by rw [d] at y; cases y⟩
  keep := fun i h h' st k => ⟨st.1.elim fun old g => ⟨old, k e (by simp) _ g⟩, st.2.at fun o g => k it (by simp) o g⟩
  self := fun A i s Q E st k => st.1.elim fun old g => wpAny_pyIter_enum g k
  item := fun X hP hw hK hc i pins s σ H E I hf st hg => by
    subst hP hw hK
    obtain ⟨⟨old, g⟩, ti⟩ := st
    obtain ⟨xs, x, hq, hx⟩ := hg
    obtain ⟨its, rv, p, _⟩ := I.tuple hq
    obtain ⟨u, hu, ru⟩ := rv.get hx
    have le := Heap.lt_size g
    have hlt : i < its.toArray.size := by
      have := (List.getElem?_eq_some_iff.mp hu).1
      simpa using this
    refine wpAny_pyNext_enum_itemC (Draws.tuple (A := X.A.in1) (I.ok.hd hc) it a na its.toArray) g ⟨ti, p⟩ hlt ne (by simp [ne, nae]) fun y h' tk py eo st' gt sz k => ?_
    obtain rfl : u = y := by
      have py : its.toArray[i]? = some y := py
      simp only [List.getElem?_toArray] at py
      rw [hu] at py
      exact Option.some.inj py
    refine ⟨_, rfl, wpAny_letOwnedTupleGo_enum (s := { s with heap := h', toks := tk + 1 }) eo fun h2 ge sb => ?_⟩
    have gt2 := (sb.2 _ (Nat.ne_of_gt le)).trans gt
    have I2 : L2.Inv X pins σ (upd H s.heap.objs.size (.tup [.int (i : Nat), x])) { s with heap := h2, toks := tk + 1 } := I.turnedNew (ch := [e, it]) (fun b o hb q => by
      simp only [List.mem_cons, List.not_mem_nil, or_false, not_or] at hb
      exact (sb.2 b hb.1).trans (k b o hb.1 hb.2 q)) hf (Nat.le_refl _) ⟨by show 2 ≤ sizeLine; decide, [.int i tk, u], .cons ⟨_, rfl⟩ (.cons ru .nil), _, gt2, rfl, _, rfl⟩
    refine ⟨.ref s.heap.objs.size, _, I2, rfl, ⟨_, x, rfl, I.hok.fresh (Nat.le_refl _), rfl, fun ys hy => I.tuple_inj hq hy ▸ hx⟩, ⟨⟨u, ?_⟩, st'.1.at fun o q => (sb.2 it ne.symm).trans q⟩, fun b hb => ?_⟩
    · have e1 : ((i + 1 : Nat) : Int) = (i : Int) + 1 := by omega
      rw [e1]
      exact ge
    · have bn := (hf b hb).1
      have lt : b < s.heap.objs.size := by
        obtain ⟨o, q, _⟩ := ti
        simp only [List.mem_cons, List.not_mem_nil, or_false] at hb
        rcases hb with rfl | rfl
        · exact le
        · exact Heap.lt_size q
      rw [upd_ne (Nat.ne_of_lt lt), bn]
  done := fun X hP hw hK hc i pins s σ H E I hf st hg => by
    subst hP hw hK
    obtain ⟨⟨old, g⟩, ti⟩ := st
    obtain ⟨xs, hq, hx⟩ := hg
    obtain ⟨its, rv, p, _⟩ := I.tuple hq
    have hn : its.toArray.size ≤ i := by simp [← rv.length]; exact hx
    have f := (hf it (by simp)).2
    refine wpAny_pyNext_enum_endD (draws_tup (A := X.A.in1) (I.ok.hd hc) it a i na its.toArray) g ⟨⟨ti, p⟩, .inr ⟨hn, rfl⟩⟩ fun h' k => ⟨rfl, I.turned (t' := s.toks) (fun b o hb q => k b o hb q) (hf it (by simp)).1 f.1 f.2.2.1 f.2.2.2.1 f.2.2.2.2⟩
def iEnumA (K : PySem.W.Frag) (ta : TA) : TI := fun σ H R => ta σ H fun vs H1 => ∃ a xs, vs = [.ref a] ∧ ((SqL K H1 a xs ∧ R (Ite K a) H1) ∨ (SqT K H1 a xs ∧ R (IteT K a) H1))
theorem pi_enumA {X : Cx} {e : Expr} {ta : TA} {p pos tp : Pos} {es : List Expr} {m : Nat} (hg : Gl X "enumerate") (hm : X.mg "enumerate" = none) (ha : PA X [e] ta) (hs : starEach [e] X.env = [(false, eval e X.env)]) :
    PI X (.Tuple es m tp) (.Call (.Name "enumerate" p) [e] [] pos) (iEnumA X.K ta) := by
  constructor
  intro pins s τ G R I h
  refine Call_ (ld_blt I hg hm PyProof.Rows.boot_enumerate (PyProof.Rows.callWith_type1 (thn (ha.run pos pins s τ G _ I h) fun us s1 h1 => ?_) hs rfl))
  obtain ⟨vs, G1, I1, r1, a, xs, rfl, q1⟩ := h1
  obtain ⟨u, rfl, ra⟩ : ∃ u, us = [u] ∧ RelV (.ref a) u := by
    cases r1 with
    | cons r rr =>
      cases rr
      exact ⟨_, rfl, r⟩
  obtain rfl : u = Value.ref a := ra
  have two : ∀ b, b ∈ [s1.heap.objs.size + 1, s1.heap.objs.size] → FpOk X pins G1 b := fun b hm => by
    have le : s1.heap.objs.size ≤ b := by
      simp only [List.mem_cons, List.not_mem_nil, or_false] at hm
      omega
    exact I1.fpOk le (I1.hok.fresh le)
  rcases q1 with ⟨gx, q⟩ | ⟨gx, q⟩
  · obtain ⟨l1, _, p1, _⟩ := I1.list gx
    exact call_enumerate_list p1.isList fun h' ge gi _ k => wpAny_pyIter_enum ge ⟨_, _, _, _, G1, rfl, I1.kept (t' := s1.toks) k, turn_enum a (s1.heap.objs.size + 1) s1.heap.objs.size, ⟨⟨_, ge⟩, gi, Nat.succ_ne_self _⟩, two, q⟩
  · obtain ⟨l1, _, p1, _⟩ := I1.tuple gx
    have lt : a < s1.heap.objs.size := by obtain ⟨o, g, _⟩ := id p1; exact Heap.lt_size g
    exact call_enum1 (begins_tuple a l1.toArray) p1 fun h' ge gi k => wpAny_pyIter_enum ge ⟨_, _, _, _, G1, rfl, I1.kept (t' := s1.toks) k, turn_enumT a (s1.heap.objs.size + 1) s1.heap.objs.size (Nat.ne_of_lt lt) (Nat.succ_ne_self _) (Nat.ne_of_gt (Nat.lt_succ_of_lt lt)), ⟨⟨_, ge⟩, ⟨_, gi, rfl, rfl⟩⟩, two, q⟩
end Ev
end
section
set_option maxRecDepth 100000
set_option maxHeartbeats 2000000
/-! EvH5: exceptions whose context is None, made by own __init__, let out of a lambda. -/
namespace Ev
open PySem PySem.Spec PyProof.Rows L2 LamX
theorem takesN0 {X : Cx} : L2N.Takes X (fun _ _ _ _ => False) := fun _ _ ⟨_, _, _, _, _, _, _, _, _, _, _, _, _, _, _, _, z⟩ => z.elim
/-- C(e, ..) -/
theorem pmk_oexN {X : Cx} {CX : CXT} {x : Str} {C fI : Addr} {k : Nat} {fd : FuncData} {ps : List Str} {sp : Sp} {e : Expr} {es : List Expr} {ta : TA} {p pos : Pos} (T : OexC X.K C) (i1 : W.findIn X.K (.ref C) "__init__" = some (some (.ref fI))) (i2 : W.typeIn X.K (.ref fI) = some (.type "function"))
    (F0 : FnOk X.prog X.w X.K X.mg X.base CX k fI fd ps sp) (hr : Room (k + 1) X.A) (hb : Binds X.K fd ps []) (hx : Passes CX X (fun _ _ _ => False)) (hg : Gl X x) (hm : X.mg x = some (.ref C)) (ha : PA X (e :: es) ta)
    (hdb : (x == ("__debug__" : Str)) = false) (he : starEach (e :: es) X.env = (false, eval e X.env) :: starEach es X.env) (hpl : (backTo pos (starEach es X.env)).any (·.1) = false) : L2N.PMk X (.Call (.Name x p) (e :: es) [] pos) (tMkO C sp [] ta) := by
  intro pins s τ G Q I h
  obtain ⟨nm, q, N, bs, bm, sn, sub, ab, col, dd, k0, k1, k2, k3, k5, hC, hbm⟩ := T.cls
  refine wpAny_Call_Name_kw (ld_glob I hg hm (W.callWith_K (h₀ := X.base) I.ok.mod.kin T.kC (thn (ha.run pos pins s τ G _ I h) fun us s1 ⟨vs, G1, I1, r1, lv, q1⟩ => ⟨I1.kIn, ?_⟩) he hpl) hdb)
  show wpAny _ _ (call (.ref C) us) _ _ _
  obtain ⟨hp, g, dr, tk, os⟩ := s1
  generalize ea0 : hp.objs.size + 1 = a
  have le : hp.objs.size ≤ a := by subst ea0; exact Nat.le_succ _
  have na := I1.hok.fresh le
  have q2 := q1 a na
  rw [List.append_nil] at q2
  generalize eh1 : (hp.push (W.kdv_tup us)).push (HandSPX.excO C hp.objs.size) = h1
  have up : ∀ b o, hp.get? b = some o → h1.get? b = some o := fun b o g => by subst eh1; exact Heap.get?_push_of_some _ (Heap.get?_push_of_some _ g)
  have gA : h1.get? a = some (HandSPX.excO C hp.objs.size) := by subst eh1 ea0; heap_get
  have I2 : L2.Inv X pins τ (upd G1 a (exo a C none)) ⟨h1, g, dr, tk, os⟩ := I1.laid (t' := tk) (a := a) (o := exo a C none) (h' := h1) up le (exo_ok gA)
  have r2 : Vals (V.ref a :: vs) (Value.ref a :: us) := .cons rfl r1
  have ln : (Value.ref a :: us).length = ps.length := r2.length.symm.trans (F0.len _ _ _ _ q2)
  have small : us.length ≤ sizeLine := by
    rw [← Paired.length r1, sizeLine_eq]
    omega
  have b2 := hb _ (Value.ref a :: us) I2.kIn (by rw [List.append_nil]; exact ln)
  rw [List.append_nil] at b2
  have run := F0.run _ X.stack _ _ ⟨Value.ref a :: us, []⟩ (Value.ref a :: us) _ _ (fun _ _ _ => False) (hr.make C us []) (I2.env0.make C us []) b2 r2 q2
  subst eh1 ea0
  refine wpAny_call (HandSPX.call_own F.excBase_ValueError (fun Y => HandSPX.refsVE_contains Y bm hbm) (I1.kIn _ _ hC) (W.looks_findIn I1.kIn i1) (fun self => W.bind_fn I1.kIn self i2) small (codeAny_mono run fun r s' hq => ?_))
  cases r with
  | error er => exact hx pins τ _ _ er s' I2 hq
  | ok fl =>
    cases fl with
    | ret u =>
      obtain ⟨v, G2, os2, bare2, un2, hok2, rv, rfl, d, fs, ea, ed, hd1, q3⟩ := hq
      obtain ⟨h2, g2, d2, t2, os'⟩ := s'
      obtain ⟨t0, Gh, J, kG, ge, hoe, nd⟩ := mk_end0 (d2 := d2) (t2 := t2) I1 le up un2 hok2 os2 bare2 ea ed hd1
      exact ⟨rv, _, _, _, ⟨Gh, g2, d2, t2, os'⟩, _, .ref C, some d, rfl, J, kG, ge, hoe, ⟨rfl, rfl, fun vs hv => by cases hv; rfl⟩, rfl, rfl, nd, rfl, bare2, raises_own T.exC T.tyC, q3⟩
    | next => exact hq.elim
    | brk => exact hq.elim
    | cont => exact hq.elim
/-- the lambda's body, its exceptions with context None -/
abbrev lamCxN (X : Cx) (A : Around) (outer : List Env) (s : Shared) (H : Hp) (E : XK) (sc : Scope) (f c' : Addr) : Cx :=
  (lamCx X A outer s H E sc f c').tr [] fun e s' => wpAny (model X.prog X.w) (A.deeper (lamEnv X sc s.heap.objs.size f c')) (leaving (lamEnv X sc s.heap.objs.size f c') e) (fun _ s'' => L2N.CX X.prog X.w outer H s E e s'') (fun e' s'' => L2N.CX X.prog X.w outer H s E e' s'') s'
section
variable {X : Cx} {pins : List (Addr × Obj)} {τ : L2.St} {G : Hp} {s : Shared}
theorem pe_actN {CXg : CXT} {Eg : XK} {Ng : List Str} {qg : Str} {sg : Scope} {g f c' : Addr} {cdg pm ctv : Value} {ar : Arguments} {bd : Expr} {sc : Scope} {k i : Nat} {a : Str} {pn : List (Addr × Obj)} {xe : Value → Shared → Prop} {Wz : WX} {E : XK} {tb : TE} {p1 p2 : Pos}
    (I : L2.Inv X pins τ G s) (L : LamS X.env.scope sc) (gf : s.heap.get? f = some (W.kla_obj "<lambda>" (X.env.qual ++ "<lambda>") ar bd sc (cloFrom X.env.cells sc.names []) pm c' ctv)) (nf : G f = none) (ff : f ∉ frs X.stack)
    (hbind : bindArgs (W.kla_fn "<lambda>" (X.env.qual ++ "<lambda>") ar bd sc (cloFrom X.env.cells sc.names []) pm (.ref c') ctv) ⟨[], []⟩ = pure [])
    (tk : L2N.Takes ((cxOf CXg X.prog X.w X.K X.mg X.base Ng qg sg g cdg X.A X.stack s G Eg).tr pn xe) Wz) (hr : Room (k + 1) (X.A.deeper (envOfC qg sg s.heap.objs.size g cdg)))
    (hbody : ∀ (A : Around) (outer : List Env) (s : Shared) (H : Hp), Room k (A.deeper (lamEnv X sc s.heap.objs.size f c')) → PE (lamCxN X A outer s H E sc f c') bd tb)
    (hN : Ng[i]? = some a) (hv : Vis sg a) (hd : (a == ("__debug__" : Str)) = false) (hcd : (a == ("__classdict__" : Str)) = false) :
    PE ((cxOf CXg X.prog X.w X.K X.mg X.base Ng qg sg g cdg X.A X.stack s G Eg).tr pn xe) (.Call (.Name a p1) [] [] p2) (fun σZ HZ Q => (∀ cls d H', E cls d H' → Wz cls d σZ H') ∧ σZ[i]? = some (some (.ref f)) ∧ HZ c' = some (CodeO c' (X.env.qual ++ "<lambda>")) ∧ tb τ HZ Q) := by
  constructor
  intro pinsZ sZ σZ HZ Q IZ h
  obtain ⟨hW, hs, hc, ht⟩ := h
  refine wpAny_Call_Name_kw (thn ((pe_var (pos := p1) (i := i) hN hv hd hcd).run pinsZ sZ σZ HZ (fun v H1 => v = .ref f ∧ H1 = HZ) IZ ⟨.ref f, hs, rfl, rfl⟩) fun u s1 ⟨v, H1, I1, r1, e1, e2⟩ => ?_)
  subst e1 e2
  obtain rfl : u = Value.ref f := r1
  have g1 := I1.base.keep f _ gf nf ff fun z => nomatch (show f ∈ ([] : List Addr) from z)
  refine W.callWith_F0 ⟨_, _, _, _, g1⟩ (wpAny_call ?_)
  have un : Un (frs X.stack) [] G H1 s.heap s1.heap := I1.base
  obtain ⟨⟨oc, vs, t, hoc, hdc, hvc⟩, _, _⟩ := I1.hok c' _ hc
  have rc : codeAny (model X.prog X.w) (X.A.deeper (envOfC qg sg s.heap.objs.size g cdg)) (.call (.ref f) ⟨[], []⟩) (CR (L2N.CX X.prog X.w) (envOfC qg sg s.heap.objs.size g cdg :: X.stack) X.prog X.w H1 s1 Q E) s1 := by
    refine W.kla_callFunE hr.depth g1 rfl L.co L.gen rfl ⟨c', oc, vs, t, rfl, hoc, hdc, hvc⟩ ?_
    rw [hbind]
    refine wpAny_pure (wpAny_newFunctionEnv (fun y hy => (L.own y hy).2) (fun y hy => nomatch hy) (fun h1 hns sb => ⟨I1.nolimit.fresh _ sb, ?_⟩) L.kind)
    show codeAny _ _ (.expr bd (lamEnv X sc s1.heap.objs.size f c')) _ _
    have J0 := lam_start2 (E := E) (f := f) (c' := c') (tk := s1.toks + ([] : List (Str × Value)).length) I L I1.env0 hr.hd un hns fun b o y => sb.extBut b o (Nat.ne_of_lt (Heap.lt_size y)) (Heap.get?_push_of_some _ y)
    have J := J0.toTry (fun e s' => wpAny (model X.prog X.w) ((X.A.deeper (envOfC qg sg s.heap.objs.size g cdg)).deeper (lamEnv X sc s1.heap.objs.size f c')) (leaving (lamEnv X sc s1.heap.objs.size f c') e) (fun _ s'' => L2N.CX X.prog X.w (envOfC qg sg s.heap.objs.size g cdg :: X.stack) H1 s1 E e s'') (fun e' s'' => L2N.CX X.prog X.w (envOfC qg sg s.heap.objs.size g cdg :: X.stack) H1 s1 E e' s'') s')
    refine W.kla_codeExpr (wpAny_mono ((hbody _ _ s1 H1 (hr.deeper _)).run [] _ _ H1 Q J ht) (fun v s' hq => ?_) fun e s' hq => hq)
    obtain ⟨w', H', J', rv, q⟩ := hq
    exact ⟨w', H', J'.os, J'.bare, J'.base, J'.hok, rv, q⟩
  refine codeAny_mono rc fun r s' hq => ?_
  cases r with
  | error e => exact tk e s' (L2N.XE.of_call I1 hW hq)
  | ok fl =>
    cases fl with
    | ret u => exact I1.after hq
    | next => exact hq.elim
    | brk => exact hq.elim
    | cont => exact hq.elim
end
/-- the def that calls what it got first -/
def GivesN (X : Cx) (Ng : List Str) (x : Str) (sg : Scope) (g : Addr) (cdg : Value) (bg : List Stmt) (a : Str) (q : Str) (ws : List V) (TT : (XK → Hp → VK → Prop) → Hp → VK → Prop) : Prop :=
  ∀ (f c' : Addr) (s : Shared) (H : Hp) (Q : VK) (tl : XK → Hp → VK → Prop),
    (∀ (W : WX) (pn : List (Addr × Obj)) (xe : Value → Shared → Prop) (E : XK) (p1 p2 : Pos), L2N.Takes ((cxOf C8.CX0 X.prog X.w X.K X.mg X.base Ng x sg g cdg X.A X.stack s H C8.E0).tr pn xe) W →
      PE ((cxOf C8.CX0 X.prog X.w X.K X.mg X.base Ng x sg g cdg X.A X.stack s H C8.E0).tr pn xe) (.Call (.Name a p1) [] [] p2) (fun σZ HZ Q => (∀ cls d H', E cls d H' → W cls d σZ H') ∧ σZ[0]? = some (some (.ref f)) ∧ HZ c' = some (CodeO c' q) ∧ tl E HZ Q)) →
    H c' = some (CodeO c' q) → TT tl H Q → ∃ t, PSs (cxOf C8.CX0 X.prog X.w X.K X.mg X.base Ng x sg g cdg X.A X.stack s H C8.E0).nox bg t ∧ t { nx := fun _ H' => Q .non H', rt := Q } (L2.start Ng (.ref f :: ws)) H
end Ev
end
section
/-! Ev0: an evaluator over plain data for the part of Python that the program is written in. -/
namespace Ev
open PySem

/-- immutable data; `ref n`: the n-th cell; `gf k`: the k-th global def or class; `flst`: a list that nobody changes -/
inductive D where
  | non | bl (b : Bool) | int (i : Int) | str (s : Str) | ty (n : String) | gf (k : Nat)
  | tup (l : List D) | flst (l : List D) | ref (n : Nat)
  deriving Inhabited
/-- the content of a mutable object -/
inductive C where
  | lst (l : List D) | dic (kvs : List (D × D))
  /-- a table of code objects of the name q; it is the j-th cell -/
  | tbl (j : Nat) (q : Str)
  deriving Inhabited
/-- what a slot holds: nothing, data, or an object that this slot alone owns -/
inductive W where
  | none | d (x : D) | c (x : C)
  deriving Inhabited
/-- what an expression yields: data, a new object, or the object that slot i owns -/
inductive Av where
  | d (x : D) | c (x : C) | s (i : Nat)
  deriving Inhabited

inductive R (α : Type) where
  | ok (a : α) (σ : List W) (h : List C)
  | ex (c : Nat) (d : D) (σ : List W) (h : List C)
  | bad
abbrev M (α : Type) := List W → List C → R α
def R.bnd {α β : Type} : R α → (α → M β) → R β
  | .ok a σ h, f => f a σ h
  | .ex c d σ h, _ => .ex c d σ h
  | .bad, _ => .bad
def ret {α : Type} (a : α) : M α := fun σ h => .ok a σ h
def bnd {α β : Type} (m : M α) (f : α → M β) : M β := fun σ h => (m σ h).bnd f
def fail {α : Type} : M α := fun _ _ => .bad
def ofO {α : Type} : Option α → M α
  | some a => ret a
  | none => fail
/-- a call's end -/
inductive RC where
  | ok (w : W) (h : List C)
  | ex (c : Nat) (d : D) (h : List C)
  | bad
/-- a statement's end -/
inductive F where
  | nx (σ : List W) (h : List C)
  | rt (w : W) (h : List C)
  | bk (σ : List W) (h : List C)
  | ct (σ : List W) (h : List C)
  | ex (c : Nat) (d : D) (σ : List W) (h : List C)
  | bad

/-! ### data -/
mutual
def beqD : D → D → Bool
  | .non, .non => true
  | .bl a, .bl b => a == b
  | .int a, .int b => a == b
  | .str a, .str b => decide (a = b)
  | .ty a, .ty b => a == b
  | .gf a, .gf b => a == b
  | .tup a, .tup b => beqDs a b
  | .flst a, .flst b => beqDs a b
  | .ref a, .ref b => a == b
  | .non, _ | .bl _, _ | .int _, _ | .str _, _ | .ty _, _ | .gf _, _ | .tup _, _ | .flst _, _ | .ref _, _ => false
def beqDs : List D → List D → Bool
  | [], [] => true
  | a :: as, b :: bs => beqD a b && beqDs as bs
  | _, _ => false
end
mutual
theorem beqD_refl : ∀ a : D, beqD a a = true
  | .non => rfl
  | .bl a => by simp [beqD]
  | .int a => by simp [beqD]
  | .str a => by simp [beqD]
  | .ty a => by simp [beqD]
  | .gf a => by simp [beqD]
  | .tup a => by simp [beqD, beqDs_refl a]
  | .flst a => by simp [beqD, beqDs_refl a]
  | .ref a => by simp [beqD]
theorem beqDs_refl : ∀ a : List D, beqDs a a = true
  | [] => rfl
  | a :: as => by simp [beqDs, beqD_refl a, beqDs_refl as]
end
mutual
theorem beqD_eq : ∀ {a b : D}, beqD a b = true → a = b
  | .non, b, h => by cases b <;> simp_all [beqD]
  | .bl _, b, h => by cases b <;> simp_all [beqD]
  | .int _, b, h => by cases b <;> simp_all [beqD]
  | .str _, b, h => by cases b <;> simp_all [beqD]
  | .ty _, b, h => by cases b <;> simp_all [beqD]
  | .gf _, b, h => by cases b <;> simp_all [beqD]
  | .ref _, b, h => by cases b <;> simp_all [beqD]
  | .tup l, b, h => by cases b <;> simp [beqD] at h; exact congrArg _ (beqDs_eq h)
  | .flst l, b, h => by cases b <;> simp [beqD] at h; exact congrArg _ (beqDs_eq h)
theorem beqDs_eq : ∀ {a b : List D}, beqDs a b = true → a = b
  | [], b, h => by cases b <;> simp_all [beqDs]
  | a :: as, b, h => by
    cases b with
    | nil => simp [beqDs] at h
    | cons b bs =>
      simp only [beqDs, Bool.and_eq_true] at h
      rw [beqD_eq h.1, beqDs_eq h.2]
end
def beqKv : List (D × D) → List (D × D) → Bool
  | [], [] => true
  | a :: as, b :: bs => beqD a.1 b.1 && beqD a.2 b.2 && beqKv as bs
  | _, _ => false
theorem beqKv_refl : ∀ a, beqKv a a = true
  | [] => rfl
  | a :: as => by simp [beqKv, beqD_refl, beqKv_refl as]
theorem beqKv_eq : ∀ {a b}, beqKv a b = true → a = b
  | [], b, h => by cases b <;> simp_all [beqKv]
  | (x, y) :: as, b, h => by
    cases b with
    | nil => simp [beqKv] at h
    | cons b bs =>
      obtain ⟨u, v⟩ := b
      simp only [beqKv, Bool.and_eq_true] at h
      rw [beqD_eq h.1.1, beqD_eq h.1.2, beqKv_eq h.2]
def beqC : C → C → Bool
  | .lst a, .lst b => beqDs a b
  | .dic a, .dic b => beqKv a b
  | .tbl i p, .tbl j q => i == j && decide (p = q)
  | _, _ => false
theorem beqC_refl (a : C) : beqC a a = true := by cases a <;> simp [beqC, beqDs_refl, beqKv_refl]
theorem beqC_eq {a b : C} (h : beqC a b = true) : a = b := by
  cases a <;> cases b <;> simp [beqC] at h
  · rw [beqDs_eq h]
  · rw [beqKv_eq h]
  · rw [h.1, h.2]
-- all cells that are told are below n
mutual
def refsD (n : Nat) : D → Bool
  | .tup l | .flst l => refsDs n l
  | .ref m => decide (m < n)
  | .non | .bl _ | .int _ | .str _ | .ty _ | .gf _ => true
def refsDs (n : Nat) : List D → Bool
  | [] => true
  | a :: as => refsD n a && refsDs n as
end
def refsC (n : Nat) : C → Bool
  | .lst l => refsDs n l
  | .dic kvs => kvs.all fun p => refsD n p.1 && refsD n p.2
  | .tbl j _ => decide (j < n)
def refsW (n : Nat) : W → Bool
  | .none => true
  | .d x => refsD n x
  | .c x => refsC n x
def isTb : C → Bool
  | .tbl _ _ => true
  | _ => false
/-- the cells of h0 stand in h, or tell no cell from n on -/
def closedB (n : Nat) : List C → List C → Bool
  | [], h => h.all fun c => !isTb c
  | c :: h0, c' :: h => (beqC c c' || refsC n c') && closedB n h0 h
  | _ :: _, [] => false
/-- behind a call: the callee's own cells are let go where nobody tells them; a lone list that is handed back is a new object -/
def fin (h0 : List C) (w : W) (h : List C) : RC :=
  if h.length ≤ h0.length then .ok w h
  else if closedB h0.length h0 h then
    if refsW h0.length w then .ok w (h.take h0.length)
    else match w with
      | .d (.ref m) => match h[m]? with
        | some c => if refsC h0.length c && !isTb c then .ok (.c c) (h.take h0.length) else .ok w h
        | none => .ok w h
      | _ => .ok w h
  else .ok w h
def finX (h0 : List C) (c : Nat) (d : D) (h : List C) : RC :=
  if h.length ≤ h0.length then .ex c d h
  else if closedB h0.length h0 h && refsD h0.length d then .ex c d (h.take h0.length)
  else .ex c d h

/-! ### reading -/
inductive Vw where
  | d (x : D) | c (x : C)
def vwD (h : List C) : D → Option Vw
  | .ref n => match h[n]? with
    | some (.lst l) => some (.c (.lst l))
    | some (.dic k) => some (.c (.dic k))
    | _ => none
  | .flst l => some (.d (.flst l))
  | .non => some (.d .non)
  | .bl b => some (.d (.bl b))
  | .int i => some (.d (.int i))
  | .str s => some (.d (.str s))
  | .ty n => some (.d (.ty n))
  | .gf k => some (.d (.gf k))
  | .tup l => some (.d (.tup l))
def vw (σ : List W) (h : List C) : Av → Option Vw
  | .d x => vwD h x
  | .c x => some (.c x)
  | .s i => match σ[i]? with
    | some (.c x) => some (.c x)
    | some (.d x) => vwD h x
    | _ => none
def view (a : Av) : M Vw := fun σ h => match vw σ h a with
  | some v => .ok v σ h
  | none => .bad
def seqOf : Vw → Option (List D)
  | .c (.lst l) => some l
  | .d (.tup l) => some l
  | .d (.flst l) => some l
  | _ => none
-- the data of a comparison
mutual
def pd : D → Option PyData
  | .non => some .none
  | .bl b => some (.bool b)
  | .int i => some (.int i)
  | .str s => some (.str s)
  | .tup l => (pds l).map .tuple
  | .flst l => (pds l).map .list
  | .ty _ | .gf _ | .ref _ => none
def pds : List D → Option (List PyData)
  | [] => some []
  | a :: as => match pd a, pds as with
    | some x, some xs => some (x :: xs)
    | _, _ => none
end
def pdV : Vw → Option PyData
  | .d x => pd x
  | .c (.lst l) => (pds l).map .list
  | .c (.dic _) => none
  | .c (.tbl _ _) => none
/-- Python's index -/
def ixN (n : Nat) (i : Int) : Option Nat :=
  if 0 ≤ i then (if i < n then some i.toNat else none) else if -(n : Int) ≤ i then some (i + n).toNat else none
def atI {α : Type} (xs : List α) (i : Int) : Option α := (ixN xs.length i).bind fun j => xs[j]?
/-- a slice's end -/
def sIx (n d : Nat) : Option Int → Nat
  | none => d
  | some i => if i < 0 then (i + n).toNat else min i.toNat n
def cut {α : Type} (xs : List α) (lo hi : Option Int) : List α :=
  (xs.drop (sIx xs.length 0 lo)).take (sIx xs.length xs.length hi - sIx xs.length 0 lo)
/-- keys of dicts: ints and texts alone, or tuples of them alone -/
def keyOk : D → Bool
  | .int _ | .str _ => true
  | _ => false
def getK (kvs : List (D × D)) (k : D) : Option D := (kvs.find? fun p => beqD p.1 k).map (·.2)
def putK (kvs : List (D × D)) (k v : D) : List (D × D) :=
  if kvs.any fun p => beqD p.1 k then kvs.map fun p => if beqD p.1 k then (p.1, v) else p else kvs ++ [(k, v)]
def delK (kvs : List (D × D)) (k : D) : List (D × D) := kvs.filter fun p => !beqD p.1 k

/-! ### from values to data, to slots -/
def toD : Av → M D
  | .d x => ret x
  | .c x => fun σ h => .ok (.ref h.length) σ (h ++ [x])
  | .s i => fun σ h => match σ[i]? with
    | some (.c x) => .ok (.ref h.length) (σ.set i (.d (.ref h.length))) (h ++ [x])
    | some (.d x) => .ok x σ h
    | _ => .bad
def toDs : List Av → M (List D)
  | [] => ret []
  | a :: as => bnd (toD a) fun x => bnd (toDs as) fun xs => ret (x :: xs)
def toW : Av → M W
  | .d x => ret (.d x)
  | .c x => ret (.c x)
  | .s i => fun σ h => match σ[i]? with
    | some (.c x) => .ok (.c x) (σ.set i .none) h
    | some (.d x) => .ok (.d x) σ h
    | _ => .bad
def toArg : Av → M W
  | .d x => ret (.d x)
  | .c x => ret (.c x)
  | .s i => bnd (toD (.s i)) fun x => ret (.d x)
def toArgs : List Av → M (List W)
  | [] => ret []
  | a :: as => bnd (toArg a) fun x => bnd (toArgs as) fun xs => ret (x :: xs)
def ofW : W → M Av
  | .none => fail
  | .d x => ret (.d x)
  | .c x => ret (.c x)
/-- an object that may be changed: by its slot, by its cell -/
def change (a : Av) (f : C → Option (C × Av)) : M Av := fun σ h => match a with
  | .s i => match σ[i]? with
    | some (.c x) => match f x with
      | some (y, r) => .ok r (σ.set i (.c y)) h
      | none => .bad
    | some (.d (.ref n)) => match h[n]? with
      | some x => match f x with
        | some (y, r) => .ok r σ (h.set n y)
        | none => .bad
      | none => .bad
    | _ => .bad
  | .d (.ref n) => match h[n]? with
    | some x => match f x with
      | some (y, r) => .ok r σ (h.set n y)
      | none => .bad
    | none => .bad
  | _ => .bad
end Ev
end
section
/-! Ev1: the syntax and the evaluator. -/
namespace Ev
open PySem

/-- operations on values -/
inductive O where
  | bin (op : Operator) | cmp (op : CmpOp) | isn | notn | neg
  | len | int | abs | isi | list | tuple | all | any | sum | min | max | gcd | idx | sli (lo hi : Bool)
/-- methods that change an object -/
inductive Mt where
  | append | extend | pop | popAt
inductive Tg where
  | n (i : Nat) | t (is : List Nat)
-- what an except suite hands back: constants, the exception's field, tuples of these
mutual
inductive SE where
  | c (d : D) | fld | tup (l : SEs)
inductive SEs where
  | nil | cons (e : SE) (es : SEs)
end
mutual
inductive Ex where
  | var (i : Nat) | cst (x : D) | op (o : O) (es : Exs)
  | and_ (a b : Ex) | or_ (a b : Ex) | not_ (a : Ex) | ite (c a b : Ex) | chain (o1 o2 : CmpOp) (a b c : Ex)
  | tup (es : Exs) | lst (es : Exs) | dict (ks : List D) (es : Exs)
  | call (k : Nat) (es : Exs)
  | callk (k : Nat) (perm : List Nat) (es : Exs)
  /-- what slot i holds is called, one of the defs cs -/
  | callv (i : Nat) (cs : List Nat) (es : Exs)
  /-- list(range(..)) -/
  | lrng (es : Exs)
  | mth (m : Mt) (o : Ex) (es : Exs)
  | slc (a b c : Ex)
  /-- g(lambda: body), g a def that catches: its clauses, what it hands back else; the maker's table is the t-th cell -/
  | lam (g t : Nat) (q : Str) (body : Ex) (hs : List (Nat × SE)) (aft : SE)
  /-- g(lambda: body, x), x in slot i; g's clauses: by which class, which def is asked about the field and x, what then, what else; g's end -/
  | lam2 (g t : Nat) (q : Str) (i : Nat) (body : Ex) (hs : List (Nat × Nat × D × D)) (aft : D)
  | comp (own : List Nat) (tg : Tg) (it : It) (tests : Exs) (elt : Ex)
inductive Exs where
  | nil | cons (e : Ex) (es : Exs)
inductive It where
  | seq (e : Ex) | rng (es : Exs) | enum (es : Exs) | zip (es : Exs)
end
mutual
inductive Sm where
  | skip | asg (i : Nat) (e : Ex) | asgH (i : Nat) (e : Ex) | unp (is : List Nat) (e : Ex) | par (i j : Nat) (es : Exs)
  | aug (i : Nat) (op : Operator) (e : Ex) | sidx (e o i : Ex) | aidx (o i : Ex) (op : Operator) (e : Ex)
  | expr (e : Ex) | ret (e : Ex) | retn | ifs (c : Ex) (a b : Sms) | for_ (tg : Tg) (it : It) (b : Sms) | whl (c : Ex) (b : Sms)
  | brk | cont | rais (k : Nat) (e : Ex)
inductive Sms where
  | nil | cons (s : Sm) (ss : Sms)
end

mutual
def seD (x : D) : SE → D
  | .c d => d
  | .fld => x
  | .tup l => .tup (seDs x l)
def seDs (x : D) : SEs → List D
  | .nil => []
  | .cons e es => seD x e :: seDs x es
end
/-- behind a caught call -/
def caught (hs : List (Nat × SE)) (aft : SE) : R Av → R Av
  | .ok _ σ h => .ok (.d (seD .non aft)) σ h
  | .ex c d σ h => match hs.lookup c with
    | some e => .ok (.d (seD d e)) σ h
    | none => .bad
  | .bad => .bad
/-- the t-th cell is the table that tells q -/
def isTab (t : Nat) (q : Str) (h : List C) : Bool := match h[t]? with
  | some (.tbl j p) => j == t && decide (p = q)
  | _ => false
/-! ### operations -/
def SZ : Nat := 16777216
def mulOk (i j : Int) : Bool := decide (i.natAbs.log2 + j.natAbs.log2 < 1000000)
def lexL (f g : D → D → Bool) : List D → List D → Bool
  | [], [] => false
  | [], _ :: _ => true
  | _ :: _, [] => false
  | x :: xs, y :: ys => if f x y then lexL f g xs ys else g x y
def binI (op : Operator) (i j : Int) : Option Int :=
  match op with
  | .Add => some (i + j)
  | .Sub => some (i - j)
  | .Mult => if mulOk i j then some (i * j) else none
  | .FloorDiv => if 0 < j ∧ j.natAbs.log2 < 9000 then some (i / j) else none
  | .Mod => if 0 < j then some (i % j) else none
  | .Pow => if 0 ≤ j ∧ j ≤ 1000000 ∧ i.natAbs < 2 ^ 64 then some (i ^ j.toNat) else none
  | .LShift => if 0 ≤ j ∧ j ≤ 1000000 ∧ i.natAbs < 2 ^ 64 then some (i * 2 ^ j.toNat) else none
  | .RShift => if 0 ≤ j then some (i / 2 ^ j.toNat) else none
  | .BitAnd => some (Builtin.bitAnd i j)
  | .BitOr => some (Builtin.bitOr i j)
  | .BitXor => some (Builtin.bitXor i j)
  | _ => none
def binV (op : Operator) : Vw → Vw → Option Av
  | .d (.int i), .d (.int j) => (binI op i j).map fun k => .d (.int k)
  | .c (.lst a), .c (.lst b) => match op with
    | .Add => if a.length + b.length ≤ SZ then some (.c (.lst (a ++ b))) else none
    | _ => none
  | .c (.lst a), .d (.int k) => match op with
    | .Mult => if -(2 ^ 63) ≤ k ∧ k < 2 ^ 63 ∧ a.length * k.toNat ≤ SZ then some (.c (.lst (List.replicate k.toNat a).flatten)) else none
    | _ => none
  | .d (.tup a), .d (.tup b) => match op with
    | .Add => if a.length + b.length ≤ SZ then some (.d (.tup (a ++ b))) else none
    | _ => none
  | _, _ => none
def cmpI (op : CmpOp) (i j : Int) : Option Bool :=
  match op with
  | .Lt => some (decide (i < j))
  | .LtE => some (decide (i ≤ j))
  | .Gt => some (decide (j < i))
  | .GtE => some (decide (j ≤ i))
  | _ => none
def eqV (a b : Vw) : Option Bool :=
  match pdV a, pdV b with
  | some x, some y => if SeqAt.shaped x && SeqAt.shaped y then some (PyData.eqv x y) else none
  | _, _ => none
/-- is a among the items b -/
def flatP : PyData → Bool
  | .none => true
  | .bool _ => true
  | .int _ => true
  | .str _ => true
  | _ => false
def inL (lst : Bool) (a : Vw) (l : List D) : Option Bool := match pdV a, pds l with
  | some x, some xs =>
    if flatP x && xs.all flatP then some (xs.any fun z => PyData.eqv z x)
    else if lst && SeqAt.shaped x && SeqAt.shaped (.list xs) then some (xs.any fun z => PyData.eqv z x) else none
  | _, _ => none
def inV (a b : Vw) : Option Bool :=
  match b with
  | .c (.dic kvs) => match a with
    | .d k => if keyOk k then some (getK kvs k).isSome else none
    | _ => none
  | .c (.lst l) => inL true a l
  | .d (.flst l) => inL true a l
  | .d (.tup l) => inL false a l
  | _ => none
def cmpV (op : CmpOp) (a b : Vw) : Option Bool :=
  match op with
  | .Eq => eqV a b
  | .NotEq => (eqV a b).map (!·)
  | .In => inV a b
  | .NotIn => (inV a b).map (!·)
  | _ => match a, b with
    | .d (.int i), .d (.int j) => cmpI op i j
    | _, _ => none
def boolsOf : List D → Option (List Bool)
  | [] => some []
  | .bl b :: r => (boolsOf r).map (b :: ·)
  | _ :: _ => none
def intsOf : List D → Option (List Int)
  | [] => some []
  | .int b :: r => (intsOf r).map (b :: ·)
  | _ :: _ => none
def maxI : Int → List Int → Int
  | m, [] => m
  | m, x :: xs => maxI (if x > m then x else m) xs
def minI : Int → List Int → Int
  | m, [] => m
  | m, x :: xs => minI (if x < m then x else m) xs
/-- isinstance with a built-in type -/
def isIn (n : String) : Vw → Option Bool
  | .d .non => some (n == "NoneType")
  | .d (.bl _) => some (n == "bool" || n == "int")
  | .d (.int _) => some (n == "int")
  | .d (.str _) => some (n == "str")
  | .d (.tup _) => some (n == "tuple")
  | .d (.flst _) => some (n == "list")
  | .c (.lst _) => some (n == "list")
  | .c (.dic _) => some (n == "dict")
  | _ => none
def isnV : Vw → Vw → Option Bool
  | .d x, .d .non => some (match x with | .non => true | _ => false)
  | .c _, .d .non => some false
  | _, _ => none
def negV : Vw → Option Av
  | .d (.int i) => some (.d (.int (-i)))
  | _ => none
def lenV : Vw → Option Av
  | .c (.dic kvs) => some (.d (.int kvs.length))
  | v => (seqOf v).map fun l => .d (.int l.length)
def intV : Vw → Option Av
  | .d (.int i) => some (.d (.int i))
  | .d (.bl b) => some (.d (.int (if b then 1 else 0)))
  | _ => none
def absV : Vw → Option Av
  | .d (.int i) => some (.d (.int (if i < 0 then -i else i)))
  | _ => none
def isiV (v : Vw) : Vw → Option Av
  | .d (.ty n) => if ["int", "bool", "tuple", "list", "str", "dict"].contains n then (isIn n v).map fun b => .d (.bl b) else none
  | _ => none
def listV (v : Vw) : Option Av := (seqOf v).map fun l => .c (.lst l)
def tupleV (v : Vw) : Option Av := (seqOf v).map fun l => .d (.tup l)
def allV : Vw → Option Av
  | .c (.lst l) => (boolsOf l).map fun bs => .d (.bl (bs.all id))
  | _ => none
def anyV : Vw → Option Av
  | .c (.lst l) => (boolsOf l).map fun bs => .d (.bl (bs.any id))
  | _ => none
def sumV : Vw → Option Av
  | .c (.lst l) => (intsOf l).map fun ns => .d (.int ns.sum)
  | _ => none
def minV : Vw → Vw → Option Av
  | .d (.int i), .d (.int j) => some (.d (.int (if j < i then j else i)))
  | _, _ => none
def maxV : Vw → Vw → Option Av
  | .d (.int i), .d (.int j) => some (.d (.int (if j > i then j else i)))
  | _, _ => none
def gcdV : Vw → Vw → Option Av
  | .d (.int i), .d (.int j) => some (.d (.int (Nat.gcd i.natAbs j.natAbs : Nat)))
  | _, _ => none
def idxV (v : Vw) : Vw → Option Av
  | .d (.int i) => match v with
    | .c (.dic kvs) => (getK kvs (.int i)).map .d
    | v => (seqOf v).bind fun l => (atI l i).map .d
  | .d (.str s) => match v with
    | .c (.dic kvs) => (getK kvs (.str s)).map .d
    | _ => none
  | _ => none
/-- the data are alike, plain and not deep -/
def okB (l : List D) : Bool := match pds l with
  | some ps => ps.all (fun x => (match x with | .none => false | _ => true) && ps.all (W.alike x)) && PyData.canLayAll0 ps && decide (PyData.depthAll ps ≤ 60)
  | none => false
def ltD (a b : D) : Bool := match pd a, pd b with
  | some x, some y => W.dataLt x y
  | _, _ => false
def bestD (lt : D → D → Bool) (d : D) (ds : List D) : D := ds.foldl (fun a y => if lt y a then y else a) d
def minL (v : Vw) : Option Av := (seqOf v).bind fun l => match l with
  | [] => none
  | d :: ds => if okB (d :: ds) then some (.d (bestD ltD d ds)) else none
def maxL (v : Vw) : Option Av := (seqOf v).bind fun l => match l with
  | [] => none
  | d :: ds => if okB (d :: ds) then some (.d (bestD (fun y a => ltD a y) d ds)) else none
def cutV (v : Vw) (lo hi : Option Int) : Option Av := match v with
  | .c (.lst l) => some (.c (.lst (cut l lo hi)))
  | .d (.tup l) => some (.d (.tup (cut l lo hi)))
  | .d (.flst l) => some (.c (.lst (cut l lo hi)))
  | _ => none
def slLo (v : Vw) : Vw → Option Av
  | .d (.int i) => cutV v (some i) none
  | _ => none
def slHi (v : Vw) : Vw → Option Av
  | .d (.int i) => cutV v none (some i)
  | _ => none
def op1 : O → Vw → Option Av
  | .neg, v => negV v
  | .len, v => lenV v
  | .int, v => intV v
  | .abs, v => absV v
  | .list, v => listV v
  | .tuple, v => tupleV v
  | .all, v => allV v
  | .any, v => anyV v
  | .sum, v => sumV v
  | .min, v => minL v
  | .max, v => maxL v
  | .sli false false, v => cutV v none none
  | _, _ => none
def op2 : O → Vw → Vw → Option Av
  | .bin op, a, b => binV op a b
  | .cmp op, a, b => (cmpV op a b).map fun k => .d (.bl k)
  | .isn, a, b => (isnV a b).map fun k => .d (.bl k)
  | .notn, a, b => (isnV a b).map fun k => .d (.bl (!k))
  | .isi, a, b => isiV a b
  | .min, a, b => minV a b
  | .max, a, b => maxV a b
  | .gcd, a, b => gcdV a b
  | .idx, a, b => idxV a b
  | .sli true false, v, b => slLo v b
  | .sli false true, v, b => slHi v b
  | _, _, _ => none
def op3 : O → Vw → Vw → Vw → Option Av
  | .sli true true, v, .d (.int i), .d (.int j) => cutV v (some i) (some j)
  | _, _, _, _ => none
def opf (o : O) : List Vw → Option Av
  | [a] => op1 o a
  | [a, b] => op2 o a b
  | [a, b, c] => op3 o a b c
  | _ => none

def views : List Av → M (List Vw)
  | [] => ret []
  | a :: as => bnd (view a) fun v => bnd (views as) fun vs => ret (v :: vs)
def osem (o : O) (as : List Av) : M Av := bnd (views as) fun vs => ofO (opf o vs)
def isT : Av → M Bool := fun a => bnd (view a) fun v => match v with
  | .d (.bl b) => ret b
  | _ => fail
/-- what the methods do -/
def mtf : Mt → C → List D → Option (C × Av)
  | .append, .lst l, [x] => if l.length < SZ then some (.lst (l ++ [x]), .d .non) else none
  | .pop, .lst l, [] => match l.getLast? with
    | some x => some (.lst l.dropLast, .d x)
    | none => none
  | .popAt, .lst l, [.int i] => if -(2 ^ 63) ≤ i ∧ i < 2 ^ 63 then match ixN l.length i with
      | some j => (l[j]?).map fun x => (.lst (l.eraseIdx j), .d x)
      | none => none
    else none
  | _, _, _ => none
/-- extend reads its argument as it stands -/
def msem (m : Mt) (o : Av) (as : List Av) : M Av := match m, as with
  | .extend, [a] => bnd (view a) fun v => match v with
    | .c (.lst ys) => change o fun c => match c with
      | .lst l => if l.length + ys.length ≤ SZ then some (.lst (l ++ ys), .d .non) else none
      | _ => none
    | _ => fail
  | .extend, _ => fail
  | m, as => bnd (toDs as) fun ds => change o fun c => mtf m c ds
/-- a store o[i] = v -/
def storeC (i : Vw) (v : D) : C → Option (C × Av)
  | .lst l => match i with
    | .d (.int k) => (ixN l.length k).map fun j => (.lst (l.set j v), .d .non)
    | _ => none
  | .dic kvs => match i with
    | .d k => if keyOk k && decide (kvs.length < SZ) then some (.dic (putK kvs k v), .d .non) else none
    | _ => none
  | .tbl _ _ => none

/-! ### targets, loops -/
def setAll : List Nat → List D → List W → Option (List W)
  | [], [], σ => some σ
  | i :: is, x :: xs, σ => setAll is xs (σ.set i (.d x))
  | _, _, _ => none
def bindT : Tg → D → M Unit
  | .n i, x => fun σ h => .ok () (σ.set i (.d x)) h
  | .t is, x => fun σ h => match x with
    | .tup l => match setAll is l σ with
      | some σ' => .ok () σ' h
      | none => .bad
    | _ => .bad
def wipeW (σ : List W) : List Nat → List W
  | [] => σ
  | i :: is => (wipeW σ is).set i .none
def keepW (σ0 : List W) : List Nat → List W → List W
  | [], σ => σ
  | i :: is, σ => keepW σ0 is (σ.set i (σ0.getD i .none))
def lstOf : Vw → Option (List D)
  | .c (.lst l) => some l
  | .d (.flst l) => some l
  | _ => none
def tupOf : Vw → Option (List D)
  | .d (.tup l) => some l
  | _ => none
/-- the source of a loop stands as it stood -/
def stands1 (a : Av) (l : List D) (σ : List W) (h : List C) : Bool :=
  match a with
  | .c _ => true
  | .d (.tup _) => true
  | .d (.flst _) => true
  | a => match (vw σ h a).bind lstOf with
    | some l' => beqDs l' l
    | none => false
def stands (src : List Av) (ls : List (List D)) (σ : List W) (h : List C) : Bool :=
  match src, ls with
  | [], [] => true
  | a :: src, l :: ls => stands1 a l σ h && stands src ls σ h
  | _, _ => false
def rngD (lo : Int) : Nat → List D
  | 0 => []
  | n + 1 => .int lo :: rngD (lo + 1) n
def enumD (i : Nat) : List D → List D
  | [] => []
  | x :: xs => .tup [.int i, x] :: enumD (i + 1) xs
def zipD : List D → List D → List D
  | x :: xs, y :: ys => .tup [x, y] :: zipD xs ys
  | _, _ => []
/-- a slot's own object that a for loop walks becomes a cell -/
def fix1 : Av → M Av
  | .s i => bnd (toD (.s i)) fun x => ret (.d x)
  | a => ret a
def fixA (fx : Bool) (a : Av) : M Av := if fx then fix1 a else ret a
def fixAs (fx : Bool) : List Av → M (List Av)
  | [] => ret []
  | a :: as => bnd (fixA fx a) fun b => bnd (fixAs fx as) fun bs => ret (b :: bs)
def noS : List Av → Bool
  | [] => true
  | .s _ :: _ => false
  | _ :: as => noS as
/-- a comprehension's items; the slots in own are the comprehension's -/
def compL (own : List Nat) (tg : Tg) (test : M Bool) (elt : M Av) (ok : List W → List C → Bool) : List D → M (List D)
  | [] => ret []
  | x :: xs => bnd (bindT tg x) fun _ => bnd test fun b =>
      if b then bnd elt fun a => bnd (toD a) fun y => bnd wp fun _ => bnd (compL own tg test elt ok xs) fun ys => ret (y :: ys)
      else bnd wp fun _ => compL own tg test elt ok xs
where
  wp : M Unit := fun σ h => if ok (wipeW σ own) h then .ok () (wipeW σ own) h else .bad
/-- no slot of the comprehension's owns an object -/
def ownFree (own : List Nat) (σ : List W) : Bool := own.all fun i => match σ[i]? with
  | some (.c _) => false
  | _ => true
def wiping (own : List Nat) (ok : List W → List C → Bool) (m : M (List D)) : M (List D) := fun σ h =>
  if ok (wipeW σ own) h && ownFree own σ then match m (wipeW σ own) h with
    | .ok a σ' h' => .ok a (keepW σ own σ') h'
    | .ex _ _ _ _ => .bad
    | .bad => .bad
  else .bad
/-- a for loop -/
def forL (tg : Tg) (body : List W → List C → F) (ok : List W → List C → Bool) : List D → List W → List C → F
  | [], σ, h => .nx σ h
  | x :: xs, σ, h => match bindT tg x σ h with
    | .ok _ σ1 h1 => match body σ1 h1 with
      | .nx σ2 h2 => if ok σ2 h2 then forL tg body ok xs σ2 h2 else .bad
      | .ct σ2 h2 => if ok σ2 h2 then forL tg body ok xs σ2 h2 else .bad
      | .bk σ2 h2 => .nx σ2 h2
      | .rt w h2 => .rt w h2
      | .ex c d σ2 h2 => .ex c d σ2 h2
      | .bad => .bad
    | .ex c d σ1 h1 => .ex c d σ1 h1
    | .bad => .bad
def whlL (test : M Bool) (body : List W → List C → F) : Nat → List W → List C → F
  | 0, _, _ => .bad
  | n + 1, σ, h => match test σ h with
    | .ok true σ1 h1 => match body σ1 h1 with
      | .nx σ2 h2 => whlL test body n σ2 h2
      | .ct σ2 h2 => whlL test body n σ2 h2
      | .bk σ2 h2 => .nx σ2 h2
      | .rt w h2 => .rt w h2
      | .ex c d σ2 h2 => .ex c d σ2 h2
      | .bad => .bad
    | .ok false σ1 h1 => .nx σ1 h1
    | .ex c d σ1 h1 => .ex c d σ1 h1
    | .bad => .bad
def whFuel : Nat := 1000000000

abbrev CF := Nat → List W → List C → RC
def RC.toR : RC → List W → R Av
  | .ok w h, σ => match w with
    | .d x => .ok (.d x) σ h
    | .c x => .ok (.c x) σ h
    | .none => .bad
  | .ex c d h, σ => .ex c d σ h
  | .bad, _ => .bad
def callK (cf : CF) (k : Nat) (ws : List W) : M Av := fun σ h => (cf k ws h).toR σ
/-- behind a call that is caught, the clauses asking a def -/
def caught2 (cf : CF) (hs : List (Nat × Nat × D × D)) (aft y : D) : R Av → R Av
  | .ok _ σ h => .ok (.d aft) σ h
  | .ex c d σ h => match hs.lookup c with
    | some p => match cf p.1 [.d d, .d y] h with
      | .ok (.d (.bl z)) h' => .ok (.d (if z then p.2.1 else p.2.2)) σ h'
      | _ => .bad
    | none => .bad
  | .bad => .bad
def permL {α : Type} (perm : List Nat) (l : List α) : List α := perm.filterMap fun i => l[i]?
def nodupB : List Nat → Bool
  | [] => true
  | x :: xs => !xs.contains x && nodupB xs
def permW (ws : List W) (perm : List Nat) : Option (List W) :=
  if nodupB perm && perm.all fun i => decide (i < ws.length) then some (permL perm ws) else none
/-- a value that is a list -/
def chkL (a : Av) : M Unit := bnd (view a) fun v => match v with
  | .c (.lst _) => ret ()
  | _ => fail
def intOf : Av → M Int
  | .d (.int i) => ret i
  | _ => fail
def srcOf (a : Av) : Vw → Av
  | .d x => .d x
  | .c _ => a
def rngOf : List Vw → Option (List D)
  | [.d (.int j)] => if -(2 ^ 62) ≤ j ∧ j ≤ SZ then some (rngD 0 j.toNat) else none
  | [.d (.int i), .d (.int j)] => if -(2 ^ 62) ≤ i ∧ i < 2 ^ 62 ∧ -(2 ^ 62) ≤ j ∧ j < 2 ^ 62 ∧ j - i ≤ SZ then some (rngD i (j - i).toNat) else none
  | _ => none
mutual
def ev (cf : CF) : Ex → M Av
  | .var i => fun σ h => match σ[i]? with
    | some (.d x) => .ok (.d x) σ h
    | some (.c _) => .ok (.s i) σ h
    | _ => .bad
  | .cst x => ret (.d x)
  | .op o es => bnd (evs cf es) fun as => osem o as
  | .and_ a b => bnd (bnd (ev cf a) isT) fun c => if c then ev cf b else ret (.d (.bl false))
  | .or_ a b => bnd (bnd (ev cf a) isT) fun c => if c then ret (.d (.bl true)) else ev cf b
  | .not_ a => bnd (bnd (ev cf a) isT) fun c => ret (.d (.bl (!c)))
  | .ite c a b => bnd (bnd (ev cf c) isT) fun k => if k then ev cf a else ev cf b
  | .chain o1 o2 a b c => bnd (ev cf a) fun x => bnd (ev cf b) fun y => bnd (bnd (osem (.cmp o1) [x, y]) isT) fun k =>
      if k then bnd (ev cf c) fun z => osem (.cmp o2) [y, z] else ret (.d (.bl false))
  | .tup es => bnd (evs cf es) fun as => bnd (toDs as) fun ds => ret (.d (.tup ds))
  | .lst es => bnd (evs cf es) fun as => bnd (toDs as) fun ds => ret (.c (.lst ds))
  | .dict ks es => bnd (evs cf es) fun as => bnd (toDs as) fun ds => ret (.c (.dic ((ks.zip ds).foldl (fun kvs p => putK kvs p.1 p.2) [])))
  | .call k es => bnd (evs cf es) fun as => bnd (toArgs as) fun ws => callK cf k ws
  | .callk k perm es => bnd (evs cf es) fun as => bnd (toArgs as) fun ws => bnd (ofO (permW ws perm)) fun vs => callK cf k vs
  | .callv i cs es => fun σ h => match σ[i]? with
    | some (.d (.gf k)) => if cs.contains k then bnd (evs cf es) (fun as => bnd (toArgs as) fun ws => callK cf k ws) σ h else .bad
    | _ => .bad
  | .lrng es => bnd (evs cf es) fun as => bnd (views as) fun vs => ofO ((rngOf vs).map fun l => Av.c (.lst l))
  | .lam2 _ t q i body hs aft => fun σ h => if isTab t q h then match σ[i]? with
    | some (.d y) => caught2 cf hs aft y (ev cf body σ h)
    | _ => .bad
    else .bad
  | .slc a b c => bnd (ev cf a) fun x => bnd (ev cf b) fun y => bnd (intOf y) fun i => bnd (ev cf c) fun z => bnd (intOf z) fun j => bnd (view x) fun u => ofO (cutV u (some i) (some j))
  | .lam _ t q body hs aft => fun σ h => if isTab t q h then caught hs aft (ev cf body σ h) else .bad
  | .mth m o es => bnd (ev cf o) fun x => bnd (chkL x) fun _ => bnd (evs cf es) fun as => msem m x as
  | .comp own tg it tests elt => bnd (evIt cf false it) fun s => bnd (wiping own (stands s.1 s.2.1) (compL own tg (evT cf tests) (ev cf elt) (stands s.1 s.2.1) s.2.2)) fun ys => ret (.c (.lst ys))
def evs (cf : CF) : Exs → M (List Av)
  | .nil => ret []
  | .cons e es => bnd (ev cf e) fun a => bnd (evs cf es) fun as => ret (a :: as)
/-- tests of a comprehension -/
def evT (cf : CF) : Exs → M Bool
  | .nil => ret true
  | .cons e es => bnd (bnd (ev cf e) isT) fun b => if b then evT cf es else ret false
/-- what is walked: the sources, their items, the items that come -/
def evIt (cf : CF) (fx : Bool) : It → M (List Av × List (List D) × List D)
  | .seq e => bnd (bnd (ev cf e) (fixA fx)) fun a => bnd (view a) fun v => match seqOf v with
    | some l => ret ([srcOf a v], [l], l)
    | none => fail
  | .rng es => bnd (evs cf es) fun as => bnd (views as) fun vs => match rngOf vs with
    | some l => ret ([], [], l)
    | none => fail
  | .enum es => bnd (bnd (evs cf es) (fixAs fx)) fun as => bnd (views as) fun vs => match as, vs with
    | [a], [v] => match lstOf v with
      | some l => ret ([srcOf a v], [l], enumD 0 l)
      | none => match tupOf v with
        | some l => ret ([srcOf a v], [l], enumD 0 l)
        | none => fail
    | _, _ => fail
  | .zip es => bnd (bnd (evs cf es) (fixAs fx)) fun as => bnd (views as) fun vs => match as, vs with
    | [a, b], [v, u] => match lstOf v, lstOf u with
      | some l, some r => ret ([srcOf a v, srcOf b u], [l, r], zipD l r)
      | _, _ => match tupOf v, tupOf u with
        | some l, some r => ret ([srcOf a v, srcOf b u], [l, r], zipD l r)
        | _, _ => fail
    | _, _ => fail
end
def R.toF {α : Type} : R α → (α → List W → List C → F) → F
  | .ok a σ h, f => f a σ h
  | .ex c d σ h, _ => .ex c d σ h
  | .bad, _ => .bad
/-- an operator with = : on ints alone -/
def dOf : Av → Option D
  | .d x => some x
  | _ => none
/-- what is read for o[i] op= e -/
def getV (o i : Vw) : Option Vw := match o with
  | .c _ => match idxV o i with
    | some (.d x) => some (.d x)
    | _ => none
  | _ => none
def augI : Operator → Int → Int → Option Int
  | .Add, i, j => binI .Add i j
  | .Sub, i, j => binI .Sub i j
  | .Mult, i, j => binI .Mult i j
  | .FloorDiv, i, j => binI .FloorDiv i j
  | .Mod, i, j => binI .Mod i j
  | _, _, _ => none
def augV (op : Operator) (a b : Vw) : Option Av := match a, b with
  | .d (.int i), .d (.int j) => (augI op i j).map fun k => .d (.int k)
  | _, _ => none
mutual
def evS (cf : CF) : Sm → List W → List C → F
  | .skip, σ, h => .nx σ h
  | .asg i e, σ, h => (bnd (ev cf e) toW σ h).toF fun w σ h => .nx (σ.set i w) h
  | .asgH i e, σ, h => (bnd (ev cf e) toD σ h).toF fun x σ h => .nx (σ.set i (.d x)) h
  | .unp is e, σ, h => (bnd (bnd (ev cf e) toD) (bindT (.t is)) σ h).toF fun _ σ h => .nx σ h
  | .par i j es, σ, h => (bnd (evs cf es) toArgs σ h).toF fun ws σ h => match ws with
    | [a, b] => .nx ((σ.set i a).set j b) h
    | _ => .bad
  | .aug i op e, σ, h => match σ[i]? with
    | some (.d (.int x)) => (bnd (bnd (ev cf e) view) (fun v => ofO (augV op (.d (.int x)) v)) σ h).toF fun a σ h => match a with
      | .d y => .nx (σ.set i (.d y)) h
      | _ => .bad
    | _ => .bad
  | .sidx e o i, σ, h => (bnd (bnd (ev cf e) toD) (fun x => bnd (ev cf o) fun a => bnd (bnd (ev cf i) view) fun v => change a (storeC v x)) σ h).toF fun _ σ h => .nx σ h
  | .aidx o i op e, σ, h => (bnd (ev cf o) (fun a => bnd (ev cf i) fun j => bnd (view a) fun av => bnd (view j) fun jv => bnd (ofO (getV av jv)) fun xv => bnd (ev cf e) fun y => bnd (view y) fun yv => bnd (ofO (augV op xv yv)) fun z =>
      bnd (ofO (dOf z)) fun zd => change a (storeC jv zd)) σ h).toF fun _ σ h => .nx σ h
  | .expr e, σ, h => (ev cf e σ h).toF fun _ σ h => .nx σ h
  | .ret e, σ, h => (bnd (ev cf e) toW σ h).toF fun w _ h => .rt w h
  | .retn, _, h => .rt (.d .non) h
  | .ifs c a b, σ, h => (bnd (ev cf c) isT σ h).toF fun k σ h => if k then evSs cf a σ h else evSs cf b σ h
  | .for_ tg it b, σ, h => (evIt cf true it σ h).toF fun s σ h => if noS s.1 then forL tg (evSs cf b) (stands s.1 s.2.1) s.2.2 σ h else .bad
  | .whl c b, σ, h => whlL (bnd (ev cf c) isT) (evSs cf b) whFuel σ h
  | .brk, σ, h => .bk σ h
  | .cont, σ, h => .ct σ h
  | .rais k e, σ, h => (bnd (ev cf e) toD σ h).toF fun x σ h => .ex k x σ h
def evSs (cf : CF) : Sms → List W → List C → F
  | .nil, σ, h => .nx σ h
  | .cons s ss, σ, h => match evS cf s σ h with
    | .nx σ h => evSs cf ss σ h
    | .rt w h => .rt w h
    | .bk σ h => .bk σ h
    | .ct σ h => .ct σ h
    | .ex c d σ h => .ex c d σ h
    | .bad => .bad
end
/-- a def: how many parameters, how many slots, the body -/
structure Fn where
  np : Nat
  n : Nat
  body : Sms
def F.toRC (h0 : List C) : F → RC
  | .nx _ h => fin h0 (.d .non) h
  | .rt w h => fin h0 w h
  | .ex c d _ h => finX h0 c d h
  | _ => .bad
def evCall (P : Nat → Option Fn) : Nat → CF
  | 0 => fun _ _ _ => .bad
  | n + 1 => fun k ws h => match P k with
    | some f => if ws.length = f.np then (evSs (evCall P n) f.body (ws ++ List.replicate (f.n - f.np) .none) h).toRC h else .bad
    | none => .bad
end Ev
end
section
set_option maxRecDepth 100000
set_option maxHeartbeats 1000000
/-! Ev2: how the evaluator's data lie in the abstract heap. -/
namespace Ev
open PySem L2

/-- an object that may change -/
def MutO : HO → Prop
  | .lst _ => True
  | .dK _ => True
  | .tbl _ => True
  | _ => False
/-- what does not change stays -/
def Stay (H H' : Hp) : Prop := ∀ a o, H a = some o → ¬ MutO o → H' a = some o
theorem Stay.refl (H : Hp) : Stay H H := fun _ _ e _ => e
theorem Stay.trans {H H1 H2 : Hp} (a : Stay H H1) (b : Stay H1 H2) : Stay H H2 := fun x o e m => b x o (a x o e m) m

/-- the tables' numbers among the addresses -/
def tabBase : Nat := 1000000
section
variable (K : PySem.W.Frag) (ga : Nat → Addr)
/-- a list that nobody changes -/
def SqF (H : Hp) (a : Addr) (xs : List V) : Prop :=
  (∃ o, H a = some (.frz o (.lst xs))) ∨
    ∃ (o : Obj) (its : Array Value) (n : Nat), K.lookup a = some o ∧ o.cls = .type "list" ∧ o.dict = none ∧ o.data = .seq its n ∧ its.size ≤ sizeLine ∧ Vals xs its.toList
mutual
def RD (ρ : List Addr) (H : Hp) : D → V → Prop
  | .non, v => v = .non
  | .bl b, v => v = .bl b
  | .int i, v => v = .int i
  | .str s, v => v = .str s
  | .ty n, v => v = .ty n
  | .gf k, v => v = .ref (ga k)
  | .ref n, v => ∃ a, ρ[n]? = some a ∧ v = .ref a
  | .tup l, v => ∃ a xs, v = .ref a ∧ SqT K H a xs ∧ RDs ρ H l xs ∧ l.length ≤ SZ
  | .flst l, v => ∃ a xs, v = .ref a ∧ SqF K H a xs ∧ RDs ρ H l xs ∧ l.length ≤ SZ
def RDs (ρ : List Addr) (H : Hp) : List D → List V → Prop
  | [], xs => xs = []
  | d :: ds, xs => ∃ v vs, xs = v :: vs ∧ RD ρ H d v ∧ RDs ρ H ds vs
end
/-- a dict's key -/
def keyD : D → Option Key
  | .int i => some (.inl i)
  | .str s => some (.inr s)
  | _ => none
def RKv (ρ : List Addr) (H : Hp) : List (D × D) → List (Key × V) → Prop
  | [], ks => ks = []
  | p :: ps, ks => ∃ k v r, ks = (k, v) :: r ∧ keyD p.1 = some k ∧ RD K ga ρ H p.2 v ∧ RKv ρ H ps r
def RO (ρ : List Addr) (H : Hp) : C → HO → Prop
  | .lst l, o => ∃ xs, o = .lst xs ∧ RDs K ga ρ H l xs ∧ l.length ≤ SZ
  | .dic kvs, o => ∃ ks, o = .dK ks ∧ RKv K ga ρ H kvs ks
  | .tbl _ _, _ => False
/-- a cell's content: an object, or a table -/
def TbR (ρ : List Addr) (H : Hp) (j : Nat) (q : Str) (o : HO) : Prop :=
  ρ[j]? = some (ga (tabBase + j)) ∧ ∃ ps, o = .tbl ps ∧ PySem.TriplesOk ps.toList ∧ ∀ (pos : Pos) (cv : Value), PySem.codeAmong pos ps.toList = some cv → ∃ c, cv = .ref c ∧ H c = some (LamX.CodeO c q)
def ROc (ρ : List Addr) (H : Hp) (c : C) (o : HO) : Prop := RO K ga ρ H c o ∨ ∃ j q, c = .tbl j q ∧ TbR ga ρ H j q o
structure SR (ρ : List Addr) (σd : List W) (hd : List C) (σ : List (Option V)) (H : Hp) : Prop where
  len : σd.length = σ.length
  slotD : ∀ (i : Nat) (x : D), σd[i]? = some (W.d x) → ∃ v, σ[i]? = some (some v) ∧ RD K ga ρ H x v
  slotC : ∀ (i : Nat) (c : C), σd[i]? = some (W.c c) → ∃ a o, σ[i]? = some (some (V.ref a)) ∧ H a = some o ∧ RO K ga ρ H c o
  inj : ∀ (i j : Nat) (c c' : C) (a : Addr), σd[i]? = some (W.c c) → σd[j]? = some (W.c c') → σ[i]? = some (some (V.ref a)) → σ[j]? = some (some (V.ref a)) → i = j
  off : ∀ (i : Nat) (c : C) (a : Addr), σd[i]? = some (W.c c) → σ[i]? = some (some (V.ref a)) → a ∉ ρ
  nd : ρ.Nodup
  lenH : ρ.length = hd.length
  cell : ∀ (n : Nat) (c : C), hd[n]? = some c → ∃ a o, ρ[n]? = some a ∧ H a = some o ∧ ROc K ga ρ H c o
  tin : True
end
/-- what may be changed from here -/
def Fp (ρ : List Addr) (σd : List W) (σ : List (Option V)) (a : Addr) : Prop := a ∈ ρ ∨ ∃ (i : Nat) (c : C), σd[i]? = some (W.c c) ∧ σ[i]? = some (some (V.ref a))
/-- kept; of a table: that it stands -/
def Kp (H' : Hp) (a : Addr) (o : HO) : Prop := H' a = some o ∨ ((∃ ps, o = .tbl ps) ∧ ∃ qs, H' a = some (.tbl qs))
theorem Kp.of {H' : Hp} {a : Addr} {o : HO} (k : Kp H' a o) (n : ∀ ps, o ≠ .tbl ps) : H' a = some o := k.elim id fun ⟨⟨ps, z⟩, _⟩ => absurd z (n ps)
theorem Kp.ne {H' : Hp} {a : Addr} {o : HO} (k : Kp H' a o) (z : H' a = none) : False := by
  rcases k with k | ⟨_, _, k⟩ <;> rw [z] at k <;> cases k
theorem Kp.trans {H1 H2 : Hp} {a : Addr} {o : HO} (k : Kp H1 a o) (h : ∀ u, H1 a = some u → Kp H2 a u) : Kp H2 a o := by
  rcases k with k | ⟨e, qs, k⟩
  · exact h o k
  · rcases h _ k with z | ⟨_, z⟩
    · exact .inr ⟨e, _, z⟩
    · exact .inr ⟨e, z⟩
structure Step (ρ : List Addr) (σd : List W) (σ : List (Option V)) (H : Hp) (ρ' : List Addr) (σd' : List W) (σ' : List (Option V)) (H' : Hp) : Prop where
  pre : ∃ t, ρ' = ρ ++ t
  keep : ∀ a o, H a = some o → ¬ Fp ρ σd σ a → Kp H' a o
  new : ∀ a, Fp ρ' σd' σ' a → Fp ρ σd σ a ∨ H a = none
theorem Step.refl {ρ σd σ H} : Step ρ σd σ H ρ σd σ H := ⟨⟨[], by simp⟩, fun _ _ e _ => .inl e, fun _ e => .inl e⟩
theorem Step.trans {ρ σd σ H ρ1 σd1 σ1 H1 ρ2 σd2 σ2 H2} (a : Step ρ σd σ H ρ1 σd1 σ1 H1) (b : Step ρ1 σd1 σ1 H1 ρ2 σd2 σ2 H2) : Step ρ σd σ H ρ2 σd2 σ2 H2 := by
  obtain ⟨⟨t, rfl⟩, k1, n1⟩ := a
  obtain ⟨⟨u, rfl⟩, k2, n2⟩ := b
  refine ⟨⟨t ++ u, by simp⟩, fun x o e nf => ?_, fun x f => ?_⟩
  · refine (k1 x o e nf).trans fun u hu => k2 x u hu fun f => ?_
    rcases n1 x f with z | z
    · exact nf z
    · rw [z] at e; cases e
  · by_cases hf : Fp ρ σd σ x
    · exact .inl hf
    · rcases n2 x f with z | z
      · exact n1 x z
      · cases e : H x with
        | none => exact .inr rfl
        | some o => exact ((k1 x o e hf).ne z).elim

section
variable {K : PySem.W.Frag} {ga : Nat → Addr} {ρ ρ' : List Addr} {σd σd' : List W} {hd hd' : List C} {σ σ' : List (Option V)} {H H' : Hp}
theorem RO.mut {c : C} {o : HO} (r : RO K ga ρ H c o) : MutO o := by
  cases c with
  | lst l => obtain ⟨_, rfl, _⟩ := r; trivial
  | dic l => obtain ⟨_, rfl, _⟩ := r; trivial
  | tbl j q => exact r.elim
theorem RO.nt {c : C} {o : HO} (r : RO K ga ρ H c o) : ∀ ps, o ≠ .tbl ps := by
  cases c with
  | lst l => obtain ⟨_, rfl, _⟩ := r; intro ps z; cases z
  | dic l => obtain ⟨_, rfl, _⟩ := r; intro ps z; cases z
  | tbl j q => exact r.elim
theorem ROc.mut {c : C} {o : HO} (r : ROc K ga ρ H c o) : MutO o := by
  rcases r with r | ⟨j, q, rfl, _, _, rfl, _⟩
  · exact r.mut
  · trivial
theorem SR.fp (s : SR K ga ρ σd hd σ H) {a : Addr} (f : Fp ρ σd σ a) : ∃ o, H a = some o ∧ MutO o := by
  rcases f with f | ⟨i, c, h1, h2⟩
  · obtain ⟨n, hn⟩ := List.getElem?_of_mem f
    have hl : n < hd.length := by rw [← s.lenH]; exact (List.getElem?_eq_some_iff.mp hn).1
    obtain ⟨a', o, e1, e2, r⟩ := s.cell n hd[n] (List.getElem?_eq_getElem hl)
    rw [hn] at e1; cases e1
    exact ⟨o, e2, r.mut⟩
  · obtain ⟨a', o, e1, e2, r⟩ := s.slotC i c h1
    rw [h2] at e1; cases e1
    exact ⟨o, e2, r.mut⟩
theorem Step.stay (s : SR K ga ρ σd hd σ H) (t : Step ρ σd σ H ρ' σd' σ' H') : Stay H H' := fun a o e m =>
  (t.keep a o e fun f => by
    obtain ⟨o', e', m'⟩ := s.fp f
    rw [e] at e'; cases e'
    exact m m').of fun ps z => by subst z; exact m trivial
theorem sqT_stay {a : Addr} {xs : List V} (k : Stay H H') (h : SqT K H a xs) : SqT K H' a xs := by
  rcases h with (h | ⟨o, h⟩) | h
  · exact .inl (.inl (k _ _ h fun z => z))
  · exact .inl (.inr ⟨o, k _ _ h fun z => z⟩)
  · exact .inr h
theorem sqF_stay {a : Addr} {xs : List V} (k : Stay H H') (h : SqF K H a xs) : SqF K H' a xs := by
  rcases h with ⟨o, h⟩ | h
  · exact .inl ⟨o, k _ _ h fun z => z⟩
  · exact .inr h
theorem sqF_l {a : Addr} {xs : List V} (h : SqF K H a xs) : SqL K H a xs := by
  rcases h with ⟨o, h⟩ | h
  · exact .inl (.inr ⟨o, h⟩)
  · exact .inr h
mutual
theorem RD.mono (hp : ∃ t, ρ' = ρ ++ t) (k : Stay H H') : ∀ (x : D) {v : V}, RD K ga ρ H x v → RD K ga ρ' H' x v
  | .non, _, r => by simpa [RD] using r
  | .bl _, _, r => by simpa [RD] using r
  | .int _, _, r => by simpa [RD] using r
  | .str _, _, r => by simpa [RD] using r
  | .ty _, _, r => by simpa [RD] using r
  | .gf _, _, r => by simpa [RD] using r
  | .ref n, _, r => by
    simp only [RD] at r ⊢
    obtain ⟨a, e, rfl⟩ := r
    obtain ⟨t, rfl⟩ := hp
    have hn : n < ρ.length := (List.getElem?_eq_some_iff.mp e).1
    exact ⟨a, by rw [List.getElem?_append_left hn]; exact e, rfl⟩
  | .tup l, _, r => by
    simp only [RD] at r ⊢
    obtain ⟨a, xs, rfl, h, q, z⟩ := r
    exact ⟨a, xs, rfl, sqT_stay k h, RDs.mono hp k l q, z⟩
  | .flst l, _, r => by
    simp only [RD] at r ⊢
    obtain ⟨a, xs, rfl, h, q, z⟩ := r
    exact ⟨a, xs, rfl, sqF_stay k h, RDs.mono hp k l q, z⟩
theorem RDs.mono (hp : ∃ t, ρ' = ρ ++ t) (k : Stay H H') : ∀ (l : List D) {xs : List V}, RDs K ga ρ H l xs → RDs K ga ρ' H' l xs
  | [], _, r => by simpa [RDs] using r
  | d :: ds, _, r => by
    simp only [RDs] at r ⊢
    obtain ⟨v, vs, rfl, h, q⟩ := r
    exact ⟨v, vs, rfl, RD.mono hp k d h, RDs.mono hp k ds q⟩
end
theorem RKv.mono (hp : ∃ t, ρ' = ρ ++ t) (k : Stay H H') : ∀ (l : List (D × D)) {ks : List (Key × V)}, RKv K ga ρ H l ks → RKv K ga ρ' H' l ks
  | [], _, r => r
  | p :: ps, _, ⟨kk, v, r, e, h1, h2, h3⟩ => ⟨kk, v, r, e, h1, RD.mono hp k _ h2, RKv.mono hp k ps h3⟩
theorem RO.mono (hp : ∃ t, ρ' = ρ ++ t) (k : Stay H H') {c : C} {o : HO} (r : RO K ga ρ H c o) : RO K ga ρ' H' c o := by
  cases c with
  | lst l => obtain ⟨xs, e, q, z⟩ := r; exact ⟨xs, e, RDs.mono hp k l q, z⟩
  | dic l => obtain ⟨xs, e, q⟩ := r; exact ⟨xs, e, RKv.mono hp k l q⟩
  | tbl j q => exact r.elim
theorem ROc.mono (hp : ∃ t, ρ' = ρ ++ t) (k : Stay H H') {c : C} {o : HO} (r : ROc K ga ρ H c o) : ROc K ga ρ' H' c o := by
  rcases r with r | ⟨j, q, rfl, e, ps, e2, t, h⟩
  · exact .inl (r.mono hp k)
  · refine .inr ⟨j, q, rfl, ?_, ps, e2, t, fun pos cv hc => ?_⟩
    · obtain ⟨u, rfl⟩ := hp
      rw [List.getElem?_append_left (List.getElem?_eq_some_iff.mp e).1]
      exact e
    · obtain ⟨c, e3, e4⟩ := h pos cv hc
      exact ⟨c, e3, k c _ e4 fun m => m⟩
theorem RDs.length : ∀ {l : List D} {xs : List V}, RDs K ga ρ H l xs → xs.length = l.length
  | [], _, r => by simp only [RDs] at r; subst r; rfl
  | d :: ds, _, r => by
    simp only [RDs] at r
    obtain ⟨v, vs, rfl, _, q⟩ := r
    simp [RDs.length q]
theorem RDs.get : ∀ {l : List D} {xs : List V} {n : Nat} {x : D}, RDs K ga ρ H l xs → l[n]? = some x → ∃ v, xs[n]? = some v ∧ RD K ga ρ H x v
  | [], _, _, _, _, e => by simp at e
  | d :: ds, _, n, x, r, e => by
    simp only [RDs] at r
    obtain ⟨v, vs, rfl, h, q⟩ := r
    cases n with
    | zero => simp at e; subst e; exact ⟨v, rfl, h⟩
    | succ n => simpa using RDs.get q (by simpa using e)
theorem RDs.append : ∀ {l m : List D} {xs ys : List V}, RDs K ga ρ H l xs → RDs K ga ρ H m ys → RDs K ga ρ H (l ++ m) (xs ++ ys)
  | [], _, _, _, r, q => by simp only [RDs] at r; subst r; exact q
  | d :: ds, m, _, ys, r, q => by
    simp only [RDs] at r
    obtain ⟨v, vs, rfl, h, r⟩ := r
    simp only [List.cons_append, RDs]
    exact ⟨v, vs ++ ys, rfl, h, RDs.append r q⟩
theorem RDs.nil : RDs K ga ρ H [] [] := by simp [RDs]
theorem RDs.cons {d : D} {ds : List D} {v : V} {vs : List V} (h : RD K ga ρ H d v) (q : RDs K ga ρ H ds vs) : RDs K ga ρ H (d :: ds) (v :: vs) := by
  simp only [RDs]; exact ⟨v, vs, rfl, h, q⟩
theorem RDs.take : ∀ {l : List D} {xs : List V} (n : Nat), RDs K ga ρ H l xs → RDs K ga ρ H (l.take n) (xs.take n)
  | _, _, 0, _ => by simp [RDs]
  | [], _, n + 1, r => by simp only [RDs] at r; subst r; simp [RDs]
  | d :: ds, _, n + 1, r => by
    simp only [RDs] at r
    obtain ⟨v, vs, rfl, h, q⟩ := r
    simp only [List.take_succ_cons]
    exact RDs.cons h (RDs.take n q)
theorem RDs.drop : ∀ {l : List D} {xs : List V} (n : Nat), RDs K ga ρ H l xs → RDs K ga ρ H (l.drop n) (xs.drop n)
  | _, _, 0, r => by simpa using r
  | [], _, n + 1, r => by simp only [RDs] at r; subst r; simp [RDs]
  | d :: ds, _, n + 1, r => by
    simp only [RDs] at r
    obtain ⟨v, vs, rfl, h, q⟩ := r
    simpa using RDs.drop n q
theorem RDs.set : ∀ {l : List D} {xs : List V} {x : D} {v : V} (n : Nat), RD K ga ρ H x v → RDs K ga ρ H l xs → RDs K ga ρ H (l.set n x) (xs.set n v)
  | [], _, _, _, _, _, r => by simp only [RDs] at r; subst r; simp [RDs]
  | d :: ds, _, x, v, 0, h, r => by
    simp only [RDs] at r
    obtain ⟨w, vs, rfl, _, q⟩ := r
    exact RDs.cons h q
  | d :: ds, _, x, v, n + 1, h, r => by
    simp only [RDs] at r
    obtain ⟨w, vs, rfl, h', q⟩ := r
    exact RDs.cons h' (RDs.set n h q)

/-- a state's data stand where the heap stands, but for what may change -/
theorem SR.stayed (s : SR K ga ρ σd hd σ H) (k : Stay H H') (hm : ∀ a, Fp ρ σd σ a → H' a = H a) (tb : True) : SR K ga ρ σd hd σ H' where
  tin := tb
  len := s.len
  slotD := fun i x e => by
    obtain ⟨v, h, r⟩ := s.slotD i x e
    exact ⟨v, h, RD.mono ⟨[], by simp⟩ k x r⟩
  slotC := fun i c e => by
    obtain ⟨a, o, h1, h2, r⟩ := s.slotC i c e
    exact ⟨a, o, h1, by rw [hm a (.inr ⟨i, c, e, h1⟩)]; exact h2, r.mono ⟨[], by simp⟩ k⟩
  inj := s.inj
  off := s.off
  nd := s.nd
  lenH := s.lenH
  cell := fun n c e => by
    obtain ⟨a, o, h1, h2, r⟩ := s.cell n c e
    exact ⟨a, o, h1, by rw [hm a (.inl (List.mem_of_getElem? h1))]; exact h2, r.mono ⟨[], by simp⟩ k⟩
theorem stay_new {p : Addr} {o : HO} (hp : H p = none) : Stay H (upd H p o) := fun a u e _ => by rw [upd_ne (ne_of_none e hp)]; exact e
/-- a new object -/
theorem SR.fresh {p : Addr} {o : HO} (s : SR K ga ρ σd hd σ H) (hp : H p = none) (nt : ∀ ps, o ≠ .tbl ps) : SR K ga ρ σd hd σ (upd H p o) :=
  s.stayed (stay_new hp) (fun a f => by
    obtain ⟨o', e, _⟩ := s.fp f
    exact upd_ne (ne_of_none e hp)) trivial
theorem Step.fresh {p : Addr} {o : HO} (hp : H p = none) : Step ρ σd σ H ρ σd σ (upd H p o) :=
  ⟨⟨[], by simp⟩, fun a u e _ => .inl (by rw [upd_ne (ne_of_none e hp)]; exact e), fun a f => .inl f⟩
theorem SR.nofp {p : Addr} (s : SR K ga ρ σd hd σ H) (hp : H p = none) : ¬ Fp ρ σd σ p := fun f => by
  obtain ⟨o, e, _⟩ := s.fp f
  rw [hp] at e; cases e
/-- a slot is stored with data -/
theorem SR.setD {i : Nat} {x : D} {v : V} (s : SR K ga ρ σd hd σ H) (r : RD K ga ρ H x v) : SR K ga ρ (σd.set i (.d x)) hd (σ.set i (some v)) H := by
  have old : ∀ {j : Nat} {w : W}, (σd.set i (.d x))[j]? = some w → (j = i ∧ w = .d x ∧ i < σd.length) ∨ (j ≠ i ∧ σd[j]? = some w) := fun {j w} e => by
    by_cases hj : j = i
    · subst hj
      rw [List.getElem?_set] at e
      simp only [if_true] at e
      split at e
      · exact .inl ⟨rfl, (Option.some.inj e).symm, by assumption⟩
      · cases e
    · rw [List.getElem?_set_ne (Ne.symm hj)] at e
      exact .inr ⟨hj, e⟩
  refine ⟨by simpa using s.len, fun j y e => ?_, fun j c e => ?_, fun j l c c' a e1 e2 e3 e4 => ?_, fun j c a e1 e2 => ?_, s.nd, s.lenH, s.cell, s.tin⟩
  · rcases old e with ⟨rfl, z, hl⟩ | ⟨hj, e⟩
    · cases z
      exact ⟨v, by rw [List.getElem?_set_self (by rw [← s.len]; exact hl)], r⟩
    · rw [List.getElem?_set_ne (Ne.symm hj)]
      exact s.slotD j y e
  · rcases old e with ⟨rfl, z, hl⟩ | ⟨hj, e⟩
    · cases z
    · rw [List.getElem?_set_ne (Ne.symm hj)]
      exact s.slotC j c e
  · rcases old e1 with ⟨rfl, z, hl⟩ | ⟨hj, e1⟩
    · cases z
    · rcases old e2 with ⟨rfl, z, hl⟩ | ⟨hl, e2⟩
      · cases z
      · rw [List.getElem?_set_ne (Ne.symm hj)] at e3
        rw [List.getElem?_set_ne (Ne.symm hl)] at e4
        exact s.inj j l c c' a e1 e2 e3 e4
  · rcases old e1 with ⟨rfl, z, hl⟩ | ⟨hj, e1⟩
    · cases z
    · rw [List.getElem?_set_ne (Ne.symm hj)] at e2
      exact s.off j c a e1 e2
/-- a slot is forgotten (its value in the frame may be any) -/
theorem SR.drop {i : Nat} {w : Option V} (s : SR K ga ρ σd hd σ H) : SR K ga ρ (σd.set i .none) hd (σ.set i w) H := by
  have old : ∀ {j : Nat} {w : W}, (σd.set i .none)[j]? = some w → w ≠ .none → j ≠ i ∧ σd[j]? = some w := fun {j w} e hw => by
    by_cases hj : j = i
    · subst hj
      rw [List.getElem?_set] at e
      simp only [if_true] at e
      split at e
      · exact absurd (Option.some.inj e).symm hw
      · cases e
    · rw [List.getElem?_set_ne (Ne.symm hj)] at e
      exact ⟨hj, e⟩
  refine ⟨by simpa using s.len, fun j y e => ?_, fun j c e => ?_, fun j l c c' a e1 e2 e3 e4 => ?_, fun j c a e1 e2 => ?_, s.nd, s.lenH, s.cell, s.tin⟩
  · obtain ⟨hj, e⟩ := old e (by simp)
    rw [List.getElem?_set_ne (Ne.symm hj)]
    exact s.slotD j y e
  · obtain ⟨hj, e⟩ := old e (by simp)
    rw [List.getElem?_set_ne (Ne.symm hj)]
    exact s.slotC j c e
  · obtain ⟨hj, e1⟩ := old e1 (by simp)
    obtain ⟨hl, e2⟩ := old e2 (by simp)
    rw [List.getElem?_set_ne (Ne.symm hj)] at e3
    rw [List.getElem?_set_ne (Ne.symm hl)] at e4
    exact s.inj j l c c' a e1 e2 e3 e4
  · obtain ⟨hj, e1⟩ := old e1 (by simp)
    rw [List.getElem?_set_ne (Ne.symm hj)] at e2
    exact s.off j c a e1 e2
/-- .. its value in the frame kept -/
theorem SR.drop' {i : Nat} (s : SR K ga ρ σd hd σ H) : SR K ga ρ (σd.set i .none) hd σ H := by
  have h := s.drop (i := i) (w := (σ[i]?).getD none)
  by_cases hi : i < σ.length
  · have e : σ.set i ((σ[i]?).getD none) = σ := by
      rw [List.getElem?_eq_getElem hi]
      simp
    rw [e] at h
    exact h
  · have e : σ.set i ((σ[i]?).getD none) = σ := List.set_eq_of_length_le (by omega)
    rw [e] at h
    exact h
/-- a slot gets an object of its own -/
theorem SR.setC {i : Nat} {c : C} {a : Addr} {o : HO} (s : SR K ga ρ σd hd σ H) (ha : H a = some o) (r : RO K ga ρ H c o) (nf : ¬ Fp ρ σd σ a) : SR K ga ρ (σd.set i (.c c)) hd (σ.set i (some (V.ref a))) H := by
  have old : ∀ {j : Nat} {w : W}, (σd.set i (.c c))[j]? = some w → (j = i ∧ w = .c c ∧ i < σd.length) ∨ (j ≠ i ∧ σd[j]? = some w) := fun {j w} e => by
    by_cases hj : j = i
    · subst hj
      rw [List.getElem?_set] at e
      simp only [if_true] at e
      split at e
      · exact .inl ⟨rfl, (Option.some.inj e).symm, by assumption⟩
      · cases e
    · rw [List.getElem?_set_ne (Ne.symm hj)] at e
      exact .inr ⟨hj, e⟩
  have self : i < σd.length → (σ.set i (some (V.ref a)))[i]? = some (some (V.ref a)) := fun hl => List.getElem?_set_self (by rw [← s.len]; exact hl)
  refine ⟨by simpa using s.len, fun j y e => ?_, fun j c' e => ?_, fun j l c1 c2 b e1 e2 e3 e4 => ?_, fun j c' b e1 e2 => ?_, s.nd, s.lenH, s.cell, s.tin⟩
  · rcases old e with ⟨rfl, z, hl⟩ | ⟨hj, e⟩
    · cases z
    · rw [List.getElem?_set_ne (Ne.symm hj)]
      exact s.slotD j y e
  · rcases old e with ⟨rfl, z, hl⟩ | ⟨hj, e⟩
    · cases z
      exact ⟨a, o, self hl, ha, r⟩
    · rw [List.getElem?_set_ne (Ne.symm hj)]
      exact s.slotC j c' e
  · rcases old e1 with ⟨rfl, z, hl⟩ | ⟨hj, e1⟩
    · rw [self hl] at e3; cases e3
      rcases old e2 with ⟨rfl, z, hl⟩ | ⟨hl2, e2⟩
      · rfl
      · rw [List.getElem?_set_ne (Ne.symm hl2)] at e4
        exact absurd (Or.inr ⟨l, c2, e2, e4⟩) nf
    · rw [List.getElem?_set_ne (Ne.symm hj)] at e3
      rcases old e2 with ⟨rfl, z, hl⟩ | ⟨hl2, e2⟩
      · rw [self hl] at e4; cases e4
        exact absurd (show Fp ρ σd σ a from Or.inr ⟨j, c1, by assumption, e3⟩) nf
      · rw [List.getElem?_set_ne (Ne.symm hl2)] at e4
        exact s.inj j l c1 c2 b e1 e2 e3 e4
  · rcases old e1 with ⟨rfl, z, hl⟩ | ⟨hj, e1⟩
    · rw [self hl] at e2; cases e2
      exact fun hm => nf (.inl hm)
    · rw [List.getElem?_set_ne (Ne.symm hj)] at e2
      exact s.off j c' b e1 e2
/-- a lone object becomes a cell -/
theorem SR.push {c : C} {a : Addr} {o : HO} (s : SR K ga ρ σd hd σ H) (ha : H a = some o) (r : RO K ga ρ H c o) (nf : ¬ Fp ρ σd σ a) : SR K ga (ρ ++ [a]) σd (hd ++ [c]) σ H := by
  have mono : ∃ t, ρ ++ [a] = ρ ++ t := ⟨[a], rfl⟩
  refine ⟨s.len, fun i x e => ?_, fun i c e => ?_, s.inj, fun i c b e1 e2 hm => ?_, ?_, by simp [s.lenH], fun n c' e => ?_, trivial⟩
  · obtain ⟨v, h, r⟩ := s.slotD i x e
    exact ⟨v, h, RD.mono mono (Stay.refl H) x r⟩
  · obtain ⟨b, u, h1, h2, r⟩ := s.slotC i c e
    exact ⟨b, u, h1, h2, r.mono mono (Stay.refl H)⟩
  · rcases List.mem_append.mp hm with hm | hm
    · exact s.off i c b e1 e2 hm
    · simp at hm
      subst hm
      exact nf (.inr ⟨i, c, e1, e2⟩)
  · refine List.nodup_append.mpr ⟨s.nd, by simp, fun x hx y hy e => ?_⟩
    simp at hy
    subst hy e
    exact nf (.inl hx)
  · by_cases hn : n < hd.length
    · rw [List.getElem?_append_left hn] at e
      obtain ⟨b, u, h1, h2, r⟩ := s.cell n c' e
      exact ⟨b, u, by rw [List.getElem?_append_left (by rw [s.lenH]; exact hn)]; exact h1, h2, r.mono mono (Stay.refl H)⟩
    · have hn' : n = hd.length := by
        have := (List.getElem?_eq_some_iff.mp e).1
        simp at this
        omega
      subst hn'
      simp at e
      subst e
      refine ⟨a, o, ?_, ha, .inl (r.mono mono (Stay.refl H))⟩
      rw [← s.lenH]
      simp
/-- a slot's own object becomes a cell -/
theorem SR.promote {i : Nat} {c : C} {a : Addr} (s : SR K ga ρ σd hd σ H) (hi : σd[i]? = some (W.c c)) (ha : σ[i]? = some (some (V.ref a))) : SR K ga (ρ ++ [a]) (σd.set i (.d (.ref hd.length))) (hd ++ [c]) σ H := by
  obtain ⟨a', o, h1, h2, r⟩ := s.slotC i c hi
  rw [ha] at h1; cases h1
  have hlt : i < σd.length := (List.getElem?_eq_some_iff.mp hi).1
  have nf : ¬ Fp ρ (σd.set i .none) σ a := by
    rintro (hm | ⟨j, c', e1, e2⟩)
    · exact s.off i c a hi ha hm
    · have hj : j ≠ i := fun z => by
        subst z
        rw [List.getElem?_set_self hlt] at e1
        cases e1
      rw [List.getElem?_set_ne (Ne.symm hj)] at e1
      exact hj (s.inj j i c' c a e1 hi e2 ha)
  have s1 := (s.drop' (i := i)).push h2 r nf
  have s2 := s1.setD (i := i) (x := .ref hd.length) (v := .ref a) (by
    simp only [RD]
    exact ⟨a, by rw [← s.lenH]; simp, rfl⟩)
  rw [List.set_set] at s2
  have e : σ.set i (some (V.ref a)) = σ := by
    have hi' : i < σ.length := by rw [← s.len]; exact hlt
    rw [List.getElem?_eq_getElem hi'] at ha
    have e2 : σ[i] = some (.ref a) := Option.some.inj ha
    rw [← e2]
    simp
  rw [e] at s2
  exact s2
theorem fp_promote {i : Nat} {c : C} {a b : Addr} (s : SR K ga ρ σd hd σ H) (hi : σd[i]? = some (W.c c)) (ha : σ[i]? = some (some (V.ref a))) (f : Fp (ρ ++ [a]) (σd.set i (.d (.ref hd.length))) σ b) : Fp ρ σd σ b := by
  rcases f with f | ⟨j, c', e1, e2⟩
  · rcases List.mem_append.mp f with f | f
    · exact .inl f
    · simp at f
      subst f
      exact .inr ⟨i, c, hi, ha⟩
  · by_cases hj : j = i
    · subst hj
      rw [List.getElem?_set_self (List.getElem?_eq_some_iff.mp hi).1] at e1
      cases e1
    · rw [List.getElem?_set_ne (Ne.symm hj)] at e1
      exact .inr ⟨j, c', e1, e2⟩
theorem Step.promote {i : Nat} {c : C} {a : Addr} (s : SR K ga ρ σd hd σ H) (hi : σd[i]? = some (W.c c)) (ha : σ[i]? = some (some (V.ref a))) : Step ρ σd σ H (ρ ++ [a]) (σd.set i (.d (.ref hd.length))) σ H :=
  ⟨⟨[a], rfl⟩, fun _ _ e _ => .inl e, fun _ f => .inl (fp_promote s hi ha f)⟩
/-- a changeable object's content is changed: a slot's -/
theorem SR.putS {i : Nat} {c c' : C} {a : Addr} {o : HO} (s : SR K ga ρ σd hd σ H) (hi : σd[i]? = some (W.c c)) (ha : σ[i]? = some (some (V.ref a))) (r : RO K ga ρ H c' o) : SR K ga ρ (σd.set i (.c c')) hd σ (upd H a o) := by
  have hlt : i < σd.length := (List.getElem?_eq_some_iff.mp hi).1
  obtain ⟨a', o0, h1, h2, r0⟩ := s.slotC i c hi
  rw [ha] at h1; cases h1
  have nf : ¬ Fp ρ (σd.set i .none) σ a := by
    rintro (hm | ⟨j, c', e1, e2⟩)
    · exact s.off i c a hi ha hm
    · have hj : j ≠ i := fun z => by
        subst z
        rw [List.getElem?_set_self hlt] at e1
        cases e1
      rw [List.getElem?_set_ne (Ne.symm hj)] at e1
      exact hj (s.inj j i c' c a e1 hi e2 ha)
  have k : Stay H (upd H a o) := fun b u e m => by
    by_cases hb : b = a
    · subst hb
      rw [h2] at e; cases e
      exact absurd r0.mut m
    · rw [upd_ne hb]; exact e
  have s1 := (s.drop' (i := i)).stayed k (fun b f => upd_ne fun z => nf (z ▸ f)) trivial
  have s2 := s1.setC (i := i) (c := c') (a := a) (o := o) upd_same (r.mono ⟨[], by simp⟩ k) nf
  rw [List.set_set] at s2
  have e : σ.set i (some (V.ref a)) = σ := by
    have hi' : i < σ.length := by rw [← s.len]; exact hlt
    rw [List.getElem?_eq_getElem hi'] at ha
    have e2 : σ[i] = some (.ref a) := Option.some.inj ha
    rw [← e2]
    simp
  rw [e] at s2
  exact s2
/-- .. a cell's -/
theorem SR.putH {n : Nat} {c c' : C} {a : Addr} {o : HO} (s : SR K ga ρ σd hd σ H) (hn : hd[n]? = some c) (ha : ρ[n]? = some a) (r : RO K ga ρ H c' o) : SR K ga ρ σd (hd.set n c') σ (upd H a o) := by
  obtain ⟨a', o0, h1, h2, r0⟩ := s.cell n c hn
  rw [ha] at h1; cases h1
  have hm : a ∈ ρ := List.mem_of_getElem? ha
  have k : Stay H (upd H a o) := fun b u e m => by
    by_cases hb : b = a
    · subst hb
      rw [h2] at e; cases e
      exact absurd r0.mut m
    · rw [upd_ne hb]; exact e
  refine ⟨s.len, fun i x e => ?_, fun i c e => ?_, s.inj, s.off, s.nd, by simpa using s.lenH, fun j cj e => ?_, trivial⟩
  · obtain ⟨v, h, q⟩ := s.slotD i x e
    exact ⟨v, h, RD.mono ⟨[], by simp⟩ k x q⟩
  · obtain ⟨b, u, e1, e2, q⟩ := s.slotC i c e
    refine ⟨b, u, e1, ?_, q.mono ⟨[], by simp⟩ k⟩
    have nb : b ≠ a := fun z => s.off i c b e e1 (by rw [z]; exact hm)
    rw [upd_ne nb]
    exact e2
  · by_cases hj : j = n
    · subst hj
      rw [List.getElem?_set_self (List.getElem?_eq_some_iff.mp hn).1] at e
      cases e
      exact ⟨a, o, ha, upd_same, .inl (r.mono ⟨[], by simp⟩ k)⟩
    · rw [List.getElem?_set_ne (Ne.symm hj)] at e
      obtain ⟨b, u, e1, e2, q⟩ := s.cell j cj e
      refine ⟨b, u, e1, ?_, q.mono ⟨[], by simp⟩ k⟩
      rw [upd_ne fun z => ?_]
      · exact e2
      · subst z
        obtain ⟨hj1, x1⟩ := List.getElem?_eq_some_iff.mp e1
        obtain ⟨hn1, x2⟩ := List.getElem?_eq_some_iff.mp ha
        exact hj ((List.getElem_inj s.nd).mp (x1.trans x2.symm))
theorem fp_set {i : Nat} {c c' : C} {b : Addr} (hi : σd[i]? = some (W.c c)) : Fp ρ (σd.set i (.c c')) σ b ↔ Fp ρ σd σ b := by
  have hlt : i < σd.length := (List.getElem?_eq_some_iff.mp hi).1
  constructor
  · rintro (f | ⟨j, c2, e1, e2⟩)
    · exact .inl f
    · by_cases hj : j = i
      · subst hj; exact .inr ⟨j, c, hi, e2⟩
      · rw [List.getElem?_set_ne (Ne.symm hj)] at e1
        exact .inr ⟨j, c2, e1, e2⟩
  · rintro (f | ⟨j, c2, e1, e2⟩)
    · exact .inl f
    · by_cases hj : j = i
      · subst hj; exact .inr ⟨j, c', List.getElem?_set_self hlt, e2⟩
      · exact .inr ⟨j, c2, by rw [List.getElem?_set_ne (Ne.symm hj)]; exact e1, e2⟩
theorem Step.putS {i : Nat} {c c' : C} {a : Addr} {o : HO} (hi : σd[i]? = some (W.c c)) (ha : σ[i]? = some (some (V.ref a))) : Step ρ σd σ H ρ (σd.set i (.c c')) σ (upd H a o) :=
  ⟨⟨[], by simp⟩, fun b u e nf => by
    have nb : b ≠ a := fun z => nf (.inr ⟨i, c, hi, by rw [z]; exact ha⟩)
    exact .inl (by rw [upd_ne nb]; exact e), fun b f => .inl ((fp_set hi).mp f)⟩
theorem Step.putH {n : Nat} {a : Addr} {o : HO} (ha : ρ[n]? = some a) : Step ρ σd σ H ρ σd σ (upd H a o) :=
  ⟨⟨[], by simp⟩, fun b u e nf => by
    have nb : b ≠ a := fun z => nf (.inl (by rw [z]; exact List.mem_of_getElem? ha))
    exact .inl (by rw [upd_ne nb]; exact e), fun b f => .inl f⟩
end
end Ev
end
section
set_option maxRecDepth 100000
set_option maxHeartbeats 1000000
/-! Ev3: what an expression's evaluation means for its reading. -/
namespace Ev
open PySem L2

section
variable (K : PySem.W.Frag) (ga : Nat → Addr)
def AvR (ρ : List Addr) (σd : List W) (σ : List (Option V)) (H : Hp) : Av → V → Prop
  | .d x, v => RD K ga ρ H x v
  | .c c, v => ∃ a o, v = .ref a ∧ H a = some o ∧ RO K ga ρ H c o ∧ ¬ Fp ρ σd σ a
  | .s i, v => σ[i]? = some (some v)
/-- the new objects of a row of values -/
def Tm : List Av → List V → Addr → Prop
  | [], _, _ => False
  | _ :: _, [], _ => False
  | a :: as, v :: vs, b => (∃ c, a = .c c ∧ v = .ref b) ∨ Tm as vs b
def AvsR (ρ : List Addr) (σd : List W) (σ : List (Option V)) (H : Hp) : List Av → List V → Prop
  | [], vs => vs = []
  | a :: as, vs => ∃ v ws, vs = v :: ws ∧ AvR K ga ρ σd σ H a v ∧ AvsR ρ σd σ H as ws ∧ ∀ b, (∃ c, a = .c c ∧ v = .ref b) → ¬ Tm as ws b
/-- an expression's value; a row of values -/
def RelA (ρ : List Addr) (σd : List W) (σ : List (Option V)) (H : Hp) (ρ' : List Addr) (σd' : List W) (H' : Hp) (a : Av) (v : V) : Prop :=
  AvR K ga ρ' σd' σ H' a v ∧ ∀ b, Tm [a] [v] b → Fp ρ σd σ b ∨ H b = none
def RelL (ρ : List Addr) (σd : List W) (σ : List (Option V)) (H : Hp) (ρ' : List Addr) (σd' : List W) (H' : Hp) (a : List Av) (v : List V) : Prop :=
  AvsR K ga ρ' σd' σ H' a v ∧ ∀ b, Tm a v b → Fp ρ σd σ b ∨ H b = none
def RelB (ρ : List Addr) (σd : List W) (σ : List (Option V)) (H : Hp) (ρ' : List Addr) (σd' : List W) (H' : Hp) (a b : Bool) : Prop := a = b
variable (fld : Nat → Str)
def TG {α β : Type} (Rel : List Addr → List W → List (Option V) → Hp → List Addr → List W → Hp → α → β → Prop) (Wx : WX) (m : M α) (σ : List (Option V)) (H : Hp) (Q : β → Hp → Prop) : Prop :=
  ∃ ρ σd hd, SR K ga ρ σd hd σ H ∧ match m σd hd with
    | .ok a σd' hd' => ∀ ρ' H' b, SR K ga ρ' σd' hd' σ H' → Step ρ σd σ H ρ' σd' σ H' → Rel ρ σd σ H ρ' σd' H' a b → Q b H'
    | .ex c d σd' hd' => ∀ ρ' H' (dx : Addr) v, SR K ga ρ' σd' hd' σ H' → Step ρ σd σ H ρ' σd' σ H' → RD K ga ρ' H' d v → H' dx = some (.xd [(fld c, v)]) → Wx (.ref (ga c)) (some dx) σ H'
    | .bad => False
abbrev TA1 (Wx : WX) (m : M Av) : TE := TG K ga fld (RelA K ga) Wx m
abbrev TL1 (Wx : WX) (m : M (List Av)) : TA := TG K ga fld (RelL K ga) Wx m
abbrev TB1 (Wx : WX) (m : M Bool) : TT := TG K ga fld RelB Wx m
end

section
variable {K : PySem.W.Frag} {ga : Nat → Addr} {fld : Nat → Str} {ρ ρ' : List Addr} {σd σd' : List W} {hd hd' : List C} {σ : List (Option V)} {H H' : Hp} {Wx : WX}
theorem AvR.step (s : SR K ga ρ σd hd σ H) (t : Step ρ σd σ H ρ' σd' σ H') : ∀ {a : Av} {v : V}, AvR K ga ρ σd σ H a v → AvR K ga ρ' σd' σ H' a v
  | .d x, v, r => RD.mono t.pre (t.stay s) x r
  | .s i, v, r => r
  | .c c, v, ⟨a, o, e, h, r, nf⟩ => ⟨a, o, e, (t.keep a o h nf).of r.nt, r.mono t.pre (t.stay s), fun f => (t.new a f).elim nf fun z => by rw [z] at h; cases h⟩
theorem AvsR.step (s : SR K ga ρ σd hd σ H) (t : Step ρ σd σ H ρ' σd' σ H') : ∀ {as : List Av} {vs : List V}, AvsR K ga ρ σd σ H as vs → AvsR K ga ρ' σd' σ H' as vs
  | [], _, r => r
  | a :: as, _, ⟨v, ws, e, h, q, d⟩ => ⟨v, ws, e, h.step s t, q.step s t, d⟩
theorem AvsR.tm : ∀ {as : List Av} {vs : List V} {b : Addr}, AvsR K ga ρ σd σ H as vs → Tm as vs b → (∃ o, H b = some o) ∧ ¬ Fp ρ σd σ b
  | [], _, _, _, f => f.elim
  | a :: as, _, b, ⟨v, ws, e, h, q, _⟩, f => by
    subst e
    rcases f with ⟨c, rfl, rfl⟩ | f
    · obtain ⟨x, o, e, h1, r, nf⟩ := h
      cases e
      exact ⟨⟨o, h1⟩, nf⟩
    · exact q.tm f
theorem AvsR.length : ∀ {as : List Av} {vs : List V}, AvsR K ga ρ σd σ H as vs → vs.length = as.length
  | [], _, r => by rw [show _ = [] from r]; rfl
  | a :: as, _, ⟨v, ws, e, h, q, _⟩ => by subst e; simp [q.length]

/-! ### rows of expressions -/
theorem tl_nil {σ H Q} {Wx : WX} (h : TL1 K ga fld Wx (ret []) σ H Q) : Q [] H := by
  obtain ⟨ρ, σd, hd, s, h⟩ := h
  exact h ρ H [] s Step.refl ⟨rfl, fun b f => f.elim⟩
theorem tl_cons {σ H Q} {Wx : WX} {m : M Av} {ms : M (List Av)} (h : TL1 K ga fld Wx (bnd m fun a => bnd ms fun as => ret (a :: as)) σ H Q) :
    TA1 K ga fld Wx m σ H fun x H1 => TL1 K ga fld Wx ms σ H1 fun xs H2 => Q (x :: xs) H2 := by
  obtain ⟨ρ, σd, hd, s, h⟩ := h
  refine ⟨ρ, σd, hd, s, ?_⟩
  unfold bnd at h
  cases e1 : m σd hd with
  | bad => simp [e1, R.bnd] at h
  | ex c d σ1 h1 => simpa [e1, R.bnd] using h
  | ok a σ1 h1 =>
    simp only [e1, R.bnd] at h
    intro ρ1 H1 x s1 t1 r1
    refine ⟨ρ1, σ1, h1, s1, ?_⟩
    cases e2 : ms σ1 h1 with
    | bad => simp [e2, R.bnd] at h
    | ex c d σ2 h2 =>
      simp only [e2, R.bnd] at h
      exact fun ρ2 H2 dx v s2 t2 r2 e => h ρ2 H2 dx v s2 (t1.trans t2) r2 e
    | ok as σ2 h2 =>
      simp only [e2, R.bnd, ret] at h
      intro ρ2 H2 xs s2 t2 r2
      refine h ρ2 H2 (x :: xs) s2 (t1.trans t2) ⟨⟨x, xs, rfl, r1.1.step s1 t2, r2.1, fun b hb f => ?_⟩, fun b f => ?_⟩
      · have z : AvsR K ga ρ1 σ1 σ H1 [a] [x] := ⟨x, [], rfl, r1.1, rfl, fun _ _ f => f.elim⟩
        obtain ⟨⟨o, ho⟩, nf⟩ := z.tm (b := b) (.inl hb)
        rcases r2.2 b f with k | k
        · exact nf k
        · rw [k] at ho; cases ho
      · rcases f with f | f
        · exact r1.2 b (.inl f)
        · rcases r2.2 b f with k | k
          · exact t1.new b k
          · by_cases hf : Fp ρ σd σ b
            · exact .inl hf
            · cases e : H b with
              | none => exact .inr rfl
              | some o => exact ((t1.keep b o e hf).ne k).elim
theorem tl_two {σ H Q} {Wx : WX} {m n : M Av} (h : TL1 K ga fld Wx (bnd m fun a => bnd (bnd n fun b => bnd (ret []) fun bs => ret (b :: bs)) fun as => ret (a :: as)) σ H Q) :
    TA1 K ga fld Wx m σ H fun x H1 => TA1 K ga fld Wx n σ H1 fun y H2 => Q [x, y] H2 := by
  have h1 := tl_cons h
  obtain ⟨ρ, σd, hd, s, h1⟩ := h1
  refine ⟨ρ, σd, hd, s, ?_⟩
  cases e1 : m σd hd with
  | bad => simp [e1] at h1
  | ex c d σ1 h1' => simpa [e1] using h1
  | ok a σ1 h1' =>
    simp only [e1] at h1
    intro ρ1 H1 x s1 t1 r1
    have h2 := tl_cons (h1 ρ1 H1 x s1 t1 r1)
    obtain ⟨ρ2, σ2, hd2, s2, h2⟩ := h2
    refine ⟨ρ2, σ2, hd2, s2, ?_⟩
    cases e2 : n σ2 hd2 with
    | bad => simp [e2] at h2
    | ex c d σ3 h3 => simpa [e2] using h2
    | ok b σ3 h3 =>
      simp only [e2] at h2
      exact fun ρ3 H3 y s3 t3 r3 => tl_nil (h2 ρ3 H3 y s3 t3 r3)
theorem tl_one {σ H Q} {Wx : WX} {m : M Av} (h : TL1 K ga fld Wx (bnd m fun a => bnd (ret []) fun as => ret (a :: as)) σ H Q) :
    TA1 K ga fld Wx m σ H fun x H1 => Q [x] H1 := by
  have h1 := tl_cons h
  obtain ⟨ρ, σd, hd, s, h1⟩ := h1
  refine ⟨ρ, σd, hd, s, ?_⟩
  cases e1 : m σd hd with
  | bad => simp [e1] at h1
  | ex c d σ1 h1' => simpa [e1] using h1
  | ok a σ1 h1' =>
    simp only [e1] at h1
    exact fun ρ1 H1 x s1 t1 r1 => tl_nil (h1 ρ1 H1 x s1 t1 r1)

/-! ### ghost steps: what is told becomes data -/
/-- a value in the heap as it stands becomes data -/
theorem toD_ok (s : SR K ga ρ σd hd σ H) {a : Av} {v : V} (r : AvR K ga ρ σd σ H a v) {x : D} (e : toD a σd hd = .ok x σd' hd') :
    ∃ ρ', SR K ga ρ' σd' hd' σ H ∧ (∃ t, ρ' = ρ ++ t) ∧ RD K ga ρ' H x v ∧ ∀ b, Fp ρ' σd' σ b → Fp ρ σd σ b ∨ Tm [a] [v] b := by
  cases a with
  | d y =>
    simp only [toD, ret, R.ok.injEq] at e
    obtain ⟨rfl, rfl, rfl⟩ := e
    exact ⟨ρ, s, ⟨[], by simp⟩, r, fun b f => .inl f⟩
  | c c =>
    simp only [toD, R.ok.injEq] at e
    obtain ⟨rfl, rfl, rfl⟩ := e
    obtain ⟨p, o, rfl, h, q, nf⟩ := r
    refine ⟨ρ ++ [p], s.push h q nf, ⟨[p], rfl⟩, ?_, fun b f => ?_⟩
    · simp only [RD]
      exact ⟨p, by rw [← s.lenH]; simp, rfl⟩
    · rcases f with f | f
      · rcases List.mem_append.mp f with f | f
        · exact .inl (.inl f)
        · simp at f
          subst f
          exact .inr (.inl ⟨c, rfl, rfl⟩)
      · exact .inl (.inr f)
  | s i =>
    simp only [toD] at e
    cases h : σd[i]? with
    | none => simp [h] at e
    | some w =>
      cases w with
      | none => simp [h] at e
      | d y =>
        simp only [h, R.ok.injEq] at e
        obtain ⟨rfl, rfl, rfl⟩ := e
        obtain ⟨u, h1, q⟩ := s.slotD i y h
        have hv : σ[i]? = some (some v) := r
        rw [h1] at hv; cases hv
        exact ⟨ρ, s, ⟨[], by simp⟩, q, fun b f => .inl f⟩
      | c c =>
        simp only [h, R.ok.injEq] at e
        obtain ⟨rfl, rfl, rfl⟩ := e
        obtain ⟨p, o, h1, h2, q⟩ := s.slotC i c h
        have hv : σ[i]? = some (some v) := r
        rw [h1] at hv; cases hv
        refine ⟨ρ ++ [p], s.promote h h1, ⟨[p], rfl⟩, ?_, fun b f => .inl (fp_promote s h h1 f)⟩
        simp only [RD]
        exact ⟨p, by rw [← s.lenH]; simp, rfl⟩
theorem toD_no {a : Av} {c : Nat} {d : D} : toD a σd hd ≠ .ex c d σd' hd' := by
  intro e
  cases a with
  | d y => simp [toD, ret] at e
  | c c => simp [toD] at e
  | s i =>
    simp only [toD] at e
    split at e <;> cases e
theorem AvsR.ghost (hp : ∃ t, ρ' = ρ ++ t) : ∀ {as : List Av} {vs : List V}, (∀ b, Fp ρ' σd' σ b → Fp ρ σd σ b ∨ ¬ Tm as vs b) → AvsR K ga ρ σd σ H as vs → AvsR K ga ρ' σd' σ H as vs
  | [], _, _, r => r
  | a :: as, _, hf, ⟨v, ws, e, h, q, d⟩ => by
    subst e
    refine ⟨v, ws, rfl, ?_, AvsR.ghost hp (fun b f => (hf b f).imp id fun n z => n (.inr z)) q, d⟩
    cases a with
    | d x => exact RD.mono hp (Stay.refl H) x h
    | s i => exact h
    | c c =>
      obtain ⟨p, o, rfl, h1, h2, nf⟩ := h
      exact ⟨p, o, rfl, h1, h2.mono hp (Stay.refl H), fun f => (hf p f).elim nf fun n => n (.inl ⟨c, rfl, rfl⟩)⟩
theorem toDs_ok : ∀ {as : List Av} {vs : List V} {ρ : List Addr} {σd : List W} {hd : List C} {xs : List D} {σd' : List W} {hd' : List C}, SR K ga ρ σd hd σ H → AvsR K ga ρ σd σ H as vs → toDs as σd hd = .ok xs σd' hd' →
    ∃ ρ', SR K ga ρ' σd' hd' σ H ∧ (∃ t, ρ' = ρ ++ t) ∧ RDs K ga ρ' H xs vs ∧ ∀ b, Fp ρ' σd' σ b → Fp ρ σd σ b ∨ Tm as vs b
  | [], vs, ρ, σd, hd, xs, _, _, s, r, e => by
    simp only [toDs, ret, R.ok.injEq] at e
    obtain ⟨rfl, rfl, rfl⟩ := e
    have r : vs = [] := r
    subst r
    exact ⟨ρ, s, ⟨[], by simp⟩, RDs.nil, fun b f => .inl f⟩
  | a :: as, vs, ρ, σd, hd, xs, _, _, s, ⟨v, ws, ev, h, q, d⟩, e => by
    subst ev
    simp only [toDs, bnd] at e
    cases e1 : toD a σd hd with
    | bad => simp [e1, R.bnd] at e
    | ex c d σ1 h1 => exact absurd e1 toD_no
    | ok x σ1 h1 =>
      simp only [e1, R.bnd, bnd] at e
      cases e2 : toDs as σ1 h1 with
      | bad => simp [e2, R.bnd] at e
      | ex c d σ2 h2 => simp [e2, R.bnd] at e
      | ok ys σ2 h2 =>
        simp only [e2, R.bnd, ret, R.ok.injEq] at e
        obtain ⟨rfl, rfl, rfl⟩ := e
        obtain ⟨ρ1, s1, p1, r1, f1⟩ := toD_ok s h e1
        have q1 : AvsR K ga ρ1 σ1 σ H as ws := AvsR.ghost p1 (fun b f => (f1 b f).imp id fun z => by
          rcases z with z | z
          · exact d b z
          · exact z.elim) q
        obtain ⟨ρ2, s2, p2, r2, f2⟩ := toDs_ok s1 q1 e2
        refine ⟨ρ2, s2, ?_, RDs.cons (RD.mono p2 (Stay.refl H) x r1) r2, fun b f => ?_⟩
        · obtain ⟨t, rfl⟩ := p1
          obtain ⟨u, rfl⟩ := p2
          exact ⟨t ++ u, by simp⟩
        · rcases f2 b f with z | z
          · rcases f1 b z with z | z
            · exact .inl z
            · rcases z with z | z
              · exact .inr (.inl z)
              · exact z.elim
          · exact .inr (.inr z)
theorem toDs_no : ∀ {as : List Av} {σd : List W} {hd : List C} {c : Nat} {d : D} {σd' : List W} {hd' : List C}, toDs as σd hd ≠ .ex c d σd' hd'
  | [], _, _, _, _, _, _, e => by simp [toDs, ret] at e
  | a :: as, σd, hd, c, d, _, _, e => by
    simp only [toDs, bnd] at e
    cases e1 : toD a σd hd with
    | bad => simp [e1, R.bnd] at e
    | ex c d σ1 h1 => exact toD_no e1
    | ok x σ1 h1 =>
      simp only [e1, R.bnd, bnd] at e
      cases e2 : toDs as σ1 h1 with
      | bad => simp [e2, R.bnd] at e
      | ex c' d' σ2 h2 =>
        simp only [e2, R.bnd, R.ex.injEq] at e
        obtain ⟨rfl, rfl, rfl, rfl⟩ := e
        exact toDs_no e2
      | ok ys σ2 h2 => simp [e2, R.bnd, ret] at e
/-- a ghost step as a step of the state -/
theorem ghostStep {N : Addr → Prop} (hp : ∃ t, ρ' = ρ ++ t) (hf : ∀ b, Fp ρ' σd' σ b → Fp ρ σd σ b ∨ N b) {ρ0 σd0 H0} (t : Step ρ0 σd0 σ H0 ρ σd σ H) (hn : ∀ b, N b → Fp ρ0 σd0 σ b ∨ H0 b = none) : Step ρ0 σd0 σ H0 ρ' σd' σ H := by
  obtain ⟨⟨u, rfl⟩, k, n⟩ := t
  obtain ⟨w, rfl⟩ := hp
  exact ⟨⟨u ++ w, by simp⟩, k, fun b f => (hf b f).elim (n b) (hn b)⟩

/-! ### views -/
def VwR (K : PySem.W.Frag) (ga : Nat → Addr) (ρ : List Addr) (H : Hp) : Vw → V → Prop
  | .d x, v => RD K ga ρ H x v
  | .c c, v => ∃ a o, v = .ref a ∧ H a = some o ∧ RO K ga ρ H c o
theorem vwD_ok (s : SR K ga ρ σd hd σ H) {x : D} {v : V} (r : RD K ga ρ H x v) {u : Vw} (e : vwD hd x = some u) : VwR K ga ρ H u v := by
  cases x with
  | ref n =>
    simp only [vwD] at e
    cases h : hd[n]? with
    | none => simp [h] at e
    | some c =>
      rw [h] at e
      obtain ⟨a, o, e1, e2, q⟩ := s.cell n c h
      simp only [RD] at r
      obtain ⟨b, e3, rfl⟩ := r
      rw [e1] at e3; cases e3
      rcases q with q | ⟨j, q', rfl, _⟩
      · cases c with
        | lst l => cases e; exact ⟨a, o, rfl, e2, q⟩
        | dic l => cases e; exact ⟨a, o, rfl, e2, q⟩
        | tbl _ _ => exact q.elim
      · cases e
  | _ =>
    simp only [vwD, Option.some.injEq] at e
    subst e
    exact r
theorem vw_ok (s : SR K ga ρ σd hd σ H) {a : Av} {v : V} (r : AvR K ga ρ σd σ H a v) {u : Vw} (e : vw σd hd a = some u) : VwR K ga ρ H u v := by
  cases a with
  | d x => exact vwD_ok s r e
  | c c =>
    simp only [vw, Option.some.injEq] at e
    subst e
    obtain ⟨p, o, rfl, h1, h2, _⟩ := r
    exact ⟨p, o, rfl, h1, h2⟩
  | s i =>
    have r : σ[i]? = some (some v) := r
    simp only [vw] at e
    cases h : σd[i]? with
    | none => simp [h] at e
    | some w =>
      cases w with
      | none => simp [h] at e
      | d y =>
        simp only [h] at e
        obtain ⟨u', h1, q⟩ := s.slotD i y h
        rw [r] at h1; cases h1
        exact vwD_ok s q e
      | c c =>
        simp only [h, Option.some.injEq] at e
        subst e
        obtain ⟨p, o, h1, h2, q⟩ := s.slotC i c h
        rw [r] at h1; cases h1
        exact ⟨p, o, rfl, h2, q⟩
abbrev VwsR (K : PySem.W.Frag) (ga : Nat → Addr) (ρ : List Addr) (H : Hp) : List Vw → List V → Prop := Paired (VwR K ga ρ H)
theorem views_ok (s : SR K ga ρ σd hd σ H) : ∀ {as : List Av} {vs : List V}, AvsR K ga ρ σd σ H as vs → views as σd hd = .bad ∨ ∃ us, views as σd hd = .ok us σd hd ∧ VwsR K ga ρ H us vs
  | [], vs, r => by
    have r : vs = [] := r
    subst r
    exact .inr ⟨[], rfl, .nil⟩
  | a :: as, vs, ⟨v, ws, e, h, q, d⟩ => by
    subst e
    simp only [views, bnd, view]
    cases e1 : vw σd hd a with
    | none => exact .inl rfl
    | some u =>
      rcases views_ok s q with e2 | ⟨us, e2, h2⟩
      · exact .inl (by simp [R.bnd, bnd, e2])
      · exact .inr ⟨u :: us, by simp [R.bnd, bnd, e2, ret], .cons (vw_ok s h e1) h2⟩

/-! ### operations -/
/-- a value that came of an operation: the heap as it stood, or with one new object -/
def Res (K : PySem.W.Frag) (ga : Nat → Addr) (ρ : List Addr) (H H' : Hp) : Av → V → Prop
  | .d x, v => RD K ga ρ H' x v
  | .c c, v => ∃ p o, v = .ref p ∧ H p = none ∧ H' p = some o ∧ RO K ga ρ H' c o
  | .s _, _ => False
def Gr (H H' : Hp) : Prop := H' = H ∨ ∃ p o, H p = none ∧ (∀ ps, o ≠ .tbl ps) ∧ H' = upd H p o
/-- a reading r answers as the operation o does -/
def OpOk (K : PySem.W.Frag) (ga : Nat → Addr) (o : O) (r : List V → Hp → VK → Prop) : Prop :=
  ∀ (ρ : List Addr) (H : Hp) (us : List Vw) (vs : List V) (av : Av) (Q : VK), (∀ a, a ∈ ρ → ∃ o, H a = some o) → VwsR K ga ρ H us vs → opf o us = some av → (∀ v H', Gr H H' → Res K ga ρ H H' av v → Q v H') → r vs H Q
theorem res_ok (s : SR K ga ρ σd hd σ H) {av : Av} {v : V} (g : Gr H H') (r : Res K ga ρ H H' av v) : SR K ga ρ σd hd σ H' ∧ Step ρ σd σ H ρ σd σ H' ∧ AvR K ga ρ σd σ H' av v ∧ ∀ b, Tm [av] [v] b → H b = none := by
  have hs : SR K ga ρ σd hd σ H' ∧ Step ρ σd σ H ρ σd σ H' := by
    rcases g with rfl | ⟨p, o, hp, nt, rfl⟩
    · exact ⟨s, Step.refl⟩
    · exact ⟨s.fresh hp nt, Step.fresh hp⟩
  refine ⟨hs.1, hs.2, ?_, fun b f => ?_⟩
  · cases av with
    | d x => exact r
    | s i => exact r.elim
    | c c =>
      obtain ⟨p, o, rfl, hp, h1, h2⟩ := r
      exact ⟨p, o, rfl, h1, h2, s.nofp hp⟩
  · rcases f with ⟨c, rfl, rfl⟩ | f
    · obtain ⟨p, o, e, hp, _⟩ := r
      cases e
      exact hp
    · exact f.elim
theorem op_T {o : O} {r : List V → Hp → VK → Prop} (ok : OpOk K ga o r) {ms : M (List Av)} {σ H Q} (h : TA1 K ga fld Wx (bnd ms (osem o)) σ H Q) : TL1 K ga fld Wx ms σ H fun vs H1 => r vs H1 Q := by
  obtain ⟨ρ, σd, hd, s, h⟩ := h
  refine ⟨ρ, σd, hd, s, ?_⟩
  unfold bnd at h
  cases e1 : ms σd hd with
  | bad => simp [e1, R.bnd] at h
  | ex c d σ1 h1 => simpa [e1, R.bnd] using h
  | ok as σ1 h1 =>
    simp only [e1, R.bnd] at h
    intro ρ1 H1 vs s1 t1 r1
    simp only [osem, bnd] at h
    rcases views_ok s1 r1.1 with e2 | ⟨us, e2, hu⟩
    · simp [e2, R.bnd] at h
    · simp only [e2, R.bnd] at h
      cases e3 : opf o us with
      | none => simp [e3, ofO, fail] at h
      | some av =>
        simp only [e3, ofO, ret] at h
        refine ok ρ1 H1 us vs av Q (fun a ha => ?_) hu e3 fun v H' g q => ?_
        · obtain ⟨o, e, _⟩ := s1.fp (.inl ha)
          exact ⟨o, e⟩
        · obtain ⟨s2, t2, a2, n2⟩ := res_ok s1 g q
          refine h ρ1 H' v s2 (t1.trans t2) ⟨a2, fun b f => ?_⟩
          have k := n2 b f
          by_cases hf : Fp ρ σd σ b
          · exact .inl hf
          · cases e : H b with
            | none => exact .inr rfl
            | some o => exact ((t1.keep b o e hf).ne k).elim
end
end Ev
end
section
set_option maxRecDepth 100000
set_option maxHeartbeats 2000000
/-! Ev4: each operation answers as the evaluator says. -/
namespace Ev
open PySem L2

section
variable {K : PySem.W.Frag} {ga : Nat → Addr} {ρ : List Addr} {H : Hp}
theorem szl : SZ = sizeLine := by rw [sizeLine_eq]; rfl
theorem Gr.self : Gr H H := .inl rfl
theorem gr_new {p : Addr} {o : HO} (hp : H p = none) (nt : ∀ ps, o ≠ .tbl ps := by intro ps z; cases z) : Gr H (upd H p o) := .inr ⟨p, o, hp, nt, rfl⟩
theorem vi {i : Int} {v : V} (h : VwR K ga ρ H (.d (.int i)) v) : v = .int i := by simpa [VwR, RD] using h
theorem vb {b : Bool} {v : V} (h : VwR K ga ρ H (.d (.bl b)) v) : v = .bl b := by simpa [VwR, RD] using h
theorem vn {v : V} (h : VwR K ga ρ H (.d .non) v) : v = .non := by simpa [VwR, RD] using h
theorem vt {n : String} {v : V} (h : VwR K ga ρ H (.d (.ty n)) v) : v = .ty n := by simpa [VwR, RD] using h
theorem vs_ {s : Str} {v : V} (h : VwR K ga ρ H (.d (.str s)) v) : v = .str s := by simpa [VwR, RD] using h
theorem vtupZ {l : List D} {v : V} (h : VwR K ga ρ H (.d (.tup l)) v) : ∃ a xs, v = .ref a ∧ SqT K H a xs ∧ RDs K ga ρ H l xs ∧ l.length ≤ SZ := by simpa [VwR, RD] using h
theorem vflZ {l : List D} {v : V} (h : VwR K ga ρ H (.d (.flst l)) v) : ∃ a xs, v = .ref a ∧ SqF K H a xs ∧ RDs K ga ρ H l xs ∧ l.length ≤ SZ := by simpa [VwR, RD] using h
theorem vlstZ {l : List D} {v : V} (h : VwR K ga ρ H (.c (.lst l)) v) : ∃ a xs, v = .ref a ∧ H a = some (.lst xs) ∧ RDs K ga ρ H l xs ∧ l.length ≤ SZ := by
  obtain ⟨a, o, e, h1, xs, rfl, r⟩ := h
  exact ⟨a, xs, e, h1, r⟩
theorem vtup {l : List D} {v : V} (h : VwR K ga ρ H (.d (.tup l)) v) : ∃ a xs, v = .ref a ∧ SqT K H a xs ∧ RDs K ga ρ H l xs := by
  obtain ⟨a, xs, h1, h2, h3, _⟩ := vtupZ h
  exact ⟨a, xs, h1, h2, h3⟩
theorem vfl {l : List D} {v : V} (h : VwR K ga ρ H (.d (.flst l)) v) : ∃ a xs, v = .ref a ∧ SqF K H a xs ∧ RDs K ga ρ H l xs := by
  obtain ⟨a, xs, h1, h2, h3, _⟩ := vflZ h
  exact ⟨a, xs, h1, h2, h3⟩
theorem vlst {l : List D} {v : V} (h : VwR K ga ρ H (.c (.lst l)) v) : ∃ a xs, v = .ref a ∧ H a = some (.lst xs) ∧ RDs K ga ρ H l xs := by
  obtain ⟨a, xs, h1, h2, h3, _⟩ := vlstZ h
  exact ⟨a, xs, h1, h2, h3⟩
theorem vdic {l : List (D × D)} {v : V} (h : VwR K ga ρ H (.c (.dic l)) v) : ∃ a ks, v = .ref a ∧ H a = some (.dK ks) ∧ RKv K ga ρ H l ks := by
  obtain ⟨a, o, e, h1, xs, rfl, r⟩ := h
  exact ⟨a, xs, e, h1, r⟩
theorem seq_ok {u : Vw} {v : V} {l : List D} (h : VwR K ga ρ H u v) (e : seqOf u = some l) : ∃ a xs, v = .ref a ∧ (SqL K H a xs ∨ SqT K H a xs) ∧ RDs K ga ρ H l xs := by
  cases u with
  | c c =>
    cases c with
    | tbl j q => simp [seqOf] at e
    | lst l' =>
      simp only [seqOf, Option.some.injEq] at e
      subst e
      obtain ⟨a, xs, e1, h1, r⟩ := vlst h
      exact ⟨a, xs, e1, .inl (SqL.of h1), r⟩
    | dic _ => simp [seqOf] at e
  | d x =>
    cases x with
    | tup l' =>
      simp only [seqOf, Option.some.injEq] at e
      subst e
      obtain ⟨a, xs, e1, h1, r⟩ := vtup h
      exact ⟨a, xs, e1, .inr h1, r⟩
    | flst l' =>
      simp only [seqOf, Option.some.injEq] at e
      subst e
      obtain ⟨a, xs, e1, h1, r⟩ := vfl h
      exact ⟨a, xs, e1, .inl (sqF_l h1), r⟩
    | _ => simp [seqOf] at e
theorem seq_z {u : Vw} {v : V} {l : List D} (h : VwR K ga ρ H u v) (e : seqOf u = some l) : l.length ≤ SZ := by
  unfold seqOf at e
  split at e
  · cases e; obtain ⟨_, _, _, _, _, z⟩ := vlstZ h; exact z
  · cases e; obtain ⟨_, _, _, _, _, z⟩ := vtupZ h; exact z
  · cases e; obtain ⟨_, _, _, _, _, z⟩ := vflZ h; exact z
  · cases e
theorem RDs.new {l : List D} {xs : List V} {p : Addr} {o : HO} (hp : H p = none) (r : RDs K ga ρ H l xs) : RDs K ga ρ (upd H p o) l xs := RDs.mono ⟨[], by simp⟩ (stay_new hp) l r
theorem res_lst {l : List D} {xs : List V} {p : Addr} (hp : H p = none) (r : RDs K ga ρ H l xs) (z : l.length ≤ SZ) : Res K ga ρ H (upd H p (.lst xs)) (.c (.lst l)) (.ref p) :=
  ⟨p, .lst xs, rfl, hp, upd_same, xs, rfl, r.new hp, z⟩
theorem res_tup {l : List D} {xs : List V} {p : Addr} (hp : H p = none) (r : RDs K ga ρ H l xs) (z : l.length ≤ SZ) : Res K ga ρ H (upd H p (.tup xs)) (.d (.tup l)) (.ref p) := by
  simp only [Res, RD]
  exact ⟨p, xs, rfl, SqT.of upd_same, r.new hp, z⟩
theorem res_i {i : Int} : Res K ga ρ H H (.d (.int i)) (.int i) := by simp [Res, RD]
theorem res_b {b : Bool} : Res K ga ρ H H (.d (.bl b)) (.bl b) := by simp [Res, RD]

/-! ### arithmetic -/
def rBin (K : PySem.W.Frag) : Operator → R2
  | .Add => fun x y H Q => rI0 (fun i j => .int (i + j)) x y H Q ∨ rCat x y H Q ∨ rCatA K x y H Q
  | .Sub => rI0 fun i j => .int (i - j)
  | .Mult => fun x y H Q => rI CMulW (fun i j => .int (i * j)) x y H Q ∨ rRep x y H Q
  | .FloorDiv => rI CDivW fun i j => .int (i / j)
  | .Mod => rI (fun _ j => 0 < j) fun i j => .int (i % j)
  | .Pow => rI CPow fun i j => .int (i ^ j.toNat)
  | .LShift => rI CPow fun i j => .int (i * 2 ^ j.toNat)
  | .RShift => rI (fun _ j => 0 ≤ j) fun i j => .int (i / 2 ^ j.toNat)
  | .BitAnd => rI0 fun i j => .int (Builtin.bitAnd i j)
  | .BitOr => rI0 fun i j => .int (Builtin.bitOr i j)
  | .BitXor => rI0 fun i j => .int (Builtin.bitXor i j)
  | _ => fun _ _ _ _ => False
theorem op_bin {X : Cx} : ∀ op, OpR X (binaryOp op) (rBin X.K op)
  | .Add => OpR.or op_add (OpR.or op_cat op_catA)
  | .Sub => op_sub
  | .Mult => OpR.or op_mulW op_rep
  | .FloorDiv => op_fdivW
  | .Mod => op_mod
  | .Pow => op_pow
  | .LShift => op_shl
  | .RShift => op_shr
  | .BitAnd => op_and
  | .BitOr => op_or
  | .BitXor => op_xor
  | .MatMult | .Div => fun _ _ _ _ _ _ _ _ _ _ _ _ h => h.elim
def tw (r : R2) : List V → Hp → VK → Prop := fun vs H Q => ∃ x y, vs = [x, y] ∧ r x y H Q
theorem ok_binI {op : Operator} {i j k : Int} (e : binI op i j = some k) {Q : VK} (q : Q (.int k) H) : rBin K op (.int i) (.int j) H Q := by
  cases op <;> simp only [binI] at e
  case Add => cases e; exact .inl ⟨i, j, rfl, rfl, q⟩
  case Sub => cases e; exact ⟨i, j, rfl, rfl, q⟩
  case Mult =>
    split at e
    · rename_i h
      cases e
      exact .inl ⟨i, j, rfl, rfl, (by unfold CMulW; simpa [mulOk] using h), q⟩
    · cases e
  case FloorDiv =>
    split at e
    · rename_i h
      cases e
      exact ⟨i, j, rfl, rfl, h, q⟩
    · cases e
  case Mod =>
    split at e
    · rename_i h
      cases e
      exact ⟨i, j, rfl, rfl, h, q⟩
    · cases e
  case Pow =>
    split at e
    · rename_i h
      cases e
      exact ⟨i, j, rfl, rfl, h, q⟩
    · cases e
  case LShift =>
    split at e
    · rename_i h
      cases e
      exact ⟨i, j, rfl, rfl, h, q⟩
    · cases e
  case RShift =>
    split at e
    · rename_i h
      cases e
      exact ⟨i, j, rfl, rfl, h, q⟩
    · cases e
  case BitAnd => cases e; exact ⟨i, j, rfl, rfl, q⟩
  case BitOr => cases e; exact ⟨i, j, rfl, rfl, q⟩
  case BitXor => cases e; exact ⟨i, j, rfl, rfl, q⟩
  all_goals cases e
theorem flat_len {l : List D} : ∀ n, (List.replicate n l).flatten.length = n * l.length
  | 0 => by simp
  | n + 1 => by simp [List.replicate_succ, flat_len n, Nat.succ_mul, Nat.add_comm]
theorem RDs.rep {l : List D} {xs : List V} (r : RDs K ga ρ H l xs) : ∀ n, RDs K ga ρ H (List.replicate n l).flatten (List.replicate n xs).flatten
  | 0 => by simp [RDs]
  | n + 1 => by
    simp only [List.replicate_succ, List.flatten_cons]
    exact r.append (r.rep n)
theorem RDs.nil_iff {l : List D} {xs : List V} (r : RDs K ga ρ H l xs) : xs = [] ↔ l = [] := by
  constructor
  · rintro rfl
    have := r.length
    exact List.eq_nil_of_length_eq_zero (by simpa using this.symm)
  · rintro rfl
    simpa [RDs] using r
/-- one argument; two -/
def on1 (r : V → Hp → VK → Prop) : List V → Hp → VK → Prop := fun vs H Q => ∃ x, vs = [x] ∧ r x H Q
theorem opok1 {o : O} {r : List V → Hp → VK → Prop} (h0 : ∀ a b, op2 o a b = none := by intros; rfl) (h3 : ∀ a b c, op3 o a b c = none := by intros; rfl)
    (h : ∀ (ρ : List Addr) (H : Hp) (u : Vw) (v : V) (av : Av) (Q : VK), VwR K ga ρ H u v → op1 o u = some av → (∀ v H', Gr H H' → Res K ga ρ H H' av v → Q v H') → r [v] H Q) : OpOk K ga o r := by
  intro ρ H us vs av Q _ hu e hQ
  cases hu with
  | nil => cases e
  | cons ha hu =>
    cases hu with
    | nil => exact h ρ H _ _ av Q ha e hQ
    | cons hb hu =>
      cases hu with
      | nil => rw [show opf o [_, _] = op2 o _ _ from rfl, h0] at e; cases e
      | cons hc hu =>
        cases hu with
        | nil => rw [show opf o [_, _, _] = op3 o _ _ _ from rfl, h3] at e; cases e
        | cons hd hu => cases e
def OpOkC (K : PySem.W.Frag) (ga : Nat → Addr) (P : List Vw → Prop) (o : O) (r : List V → Hp → VK → Prop) : Prop :=
  ∀ (ρ : List Addr) (H : Hp) (us : List Vw) (vs : List V) (av : Av) (Q : VK), P us → VwsR K ga ρ H us vs → opf o us = some av → (∀ v H', Gr H H' → Res K ga ρ H H' av v → Q v H') → r vs H Q
theorem opok2C {o : O} {r : List V → Hp → VK → Prop}
    (h : ∀ (ρ : List Addr) (H : Hp) (a b : Vw) (x y : V) (av : Av) (Q : VK), VwR K ga ρ H a x → VwR K ga ρ H b y → op2 o a b = some av → (∀ v H', Gr H H' → Res K ga ρ H H' av v → Q v H') → r [x, y] H Q) : OpOkC K ga (fun us => us.length = 2) o r := by
  intro ρ H us vs av Q hl hu e hQ
  cases hu with
  | nil => cases hl
  | cons ha hu =>
    cases hu with
    | nil => cases hl
    | cons hb hu =>
      cases hu with
      | nil => exact h ρ H _ _ _ _ av Q ha hb e hQ
      | cons hc hu => simp at hl
theorem opok1C {o : O} {r : List V → Hp → VK → Prop}
    (h : ∀ (ρ : List Addr) (H : Hp) (u : Vw) (v : V) (av : Av) (Q : VK), VwR K ga ρ H u v → op1 o u = some av → (∀ v H', Gr H H' → Res K ga ρ H H' av v → Q v H') → r [v] H Q) : OpOkC K ga (fun us => us.length = 1) o r := by
  intro ρ H us vs av Q hl hu e hQ
  cases hu with
  | nil => cases hl
  | cons ha hu =>
    cases hu with
    | nil => exact h ρ H _ _ av Q ha e hQ
    | cons hb hu => simp at hl
theorem opok2 {o : O} {r : List V → Hp → VK → Prop} (h1 : ∀ a, op1 o a = none := by intros; rfl) (h3 : ∀ a b c, op3 o a b c = none := by intros; rfl)
    (h : ∀ (ρ : List Addr) (H : Hp) (a b : Vw) (x y : V) (av : Av) (Q : VK), VwR K ga ρ H a x → VwR K ga ρ H b y → op2 o a b = some av → (∀ v H', Gr H H' → Res K ga ρ H H' av v → Q v H') → r [x, y] H Q) : OpOk K ga o r := by
  intro ρ H us vs av Q _ hu e hQ
  cases hu with
  | nil => cases e
  | cons ha hu =>
    cases hu with
    | nil => rw [show opf o [_] = op1 o _ from rfl, h1] at e; cases e
    | cons hb hu =>
      cases hu with
      | nil => exact h ρ H _ _ _ _ av Q ha hb e hQ
      | cons hc hu =>
        cases hu with
        | nil => rw [show opf o [_, _, _] = op3 o _ _ _ from rfl, h3] at e; cases e
        | cons hd hu => cases e
theorem opok_bin (op : Operator) : OpOk K ga (.bin op) (tw (rBin K op)) := opok2 (h := fun ρ H a b x y av Q ha hb e hQ => by
  refine ⟨x, y, rfl, ?_⟩
  simp only [op2] at e
  unfold binV at e
  split at e
  · rename_i i j
    cases vi ha; cases vi hb
    cases h : binI op i j with
    | none => simp [h] at e
    | some k =>
      simp only [h, Option.map_some, Option.some.injEq] at e
      subst e
      exact ok_binI h (hQ _ _ Gr.self res_i)
  · rename_i l m
    obtain ⟨p, xs, rfl, h1, r1⟩ := vlst ha
    obtain ⟨q, ys, rfl, h2, r2⟩ := vlst hb
    cases op <;> simp only [] at e
    case Add =>
      split at e
      · rename_i hz
        cases e
        exact .inr (.inl ⟨p, q, xs, ys, rfl, rfl, h1, h2, by rw [r1.length, r2.length, ← szl]; exact hz, fun t ht => hQ _ _ (gr_new ht) (res_lst ht (r1.append r2) (by simpa using hz))⟩)
      · cases e
    all_goals cases e
  · rename_i l k
    obtain ⟨p, xs, rfl, h1, r1⟩ := vlst ha
    cases vi hb
    cases op <;> simp only [] at e
    case Mult =>
      split at e
      · rename_i hz
        cases e
        exact .inr ⟨p, k, xs, rfl, rfl, h1, hz.1, hz.2.1, by rw [r1.length, ← szl]; exact hz.2.2, fun t ht => hQ _ _ (gr_new ht) (res_lst ht (r1.rep _) (by rw [flat_len, Nat.mul_comm]; exact hz.2.2))⟩
      · cases e
    all_goals cases e
  · rename_i l m
    obtain ⟨p, xs, rfl, h1, r1⟩ := vtup ha
    obtain ⟨q, ys, rfl, h2, r2⟩ := vtup hb
    cases op <;> simp only [] at e
    case Add =>
      split at e
      · rename_i hz
        cases e
        refine .inr (.inr ⟨p, q, xs, ys, rfl, rfl, h1, h2, by rw [r1.length, r2.length, ← szl]; exact hz, fun z => hQ _ _ Gr.self ?_, fun _ z => hQ _ _ Gr.self ?_, fun _ _ t ht => hQ _ _ (gr_new ht) (res_tup ht (r1.append r2) (by simpa using hz))⟩)
        · have z' := r1.nil_iff.mp z
          subst z'
          simp only [Res, RD, List.nil_append]
          exact ⟨q, ys, rfl, h2, r2, by simpa using hz⟩
        · have z' := r2.nil_iff.mp z
          subst z'
          simp only [Res, RD, List.append_nil]
          exact ⟨p, xs, rfl, h1, r1, by simpa using hz⟩
      · cases e
    all_goals cases e
  · cases e)
theorem opok_neg : OpOk K ga .neg (on1 (rU fun i => .int (-i))) := opok1 (h := fun ρ H u v av Q hu e hQ => by
  refine ⟨v, rfl, ?_⟩
  simp only [op1] at e
  unfold negV at e
  split at e
  · cases e
    cases vi hu
    exact ⟨_, rfl, hQ _ _ Gr.self res_i⟩
  · cases e)
theorem opok_abs : OpOk K ga .abs (fun xs H Q => ∃ i, xs = [.int i] ∧ Q (.int (if i < 0 then -i else i)) H) := opok1 (h := fun ρ H u v av Q hu e hQ => by
  simp only [op1] at e
  unfold Ev.absV at e
  split at e
  · cases e
    cases vi hu
    exact ⟨_, rfl, hQ _ _ Gr.self res_i⟩
  · cases e)
theorem opok_int : OpOk K ga .int (fun xs H Q => (∃ i, xs = [.int i] ∧ Q (.int i) H) ∨ ∃ k, xs = [.bl k] ∧ Q (.int (if k then 1 else 0)) H) := opok1 (h := fun ρ H u v av Q hu e hQ => by
  simp only [op1] at e
  unfold intV at e
  split at e
  · cases e
    cases vi hu
    exact .inl ⟨_, rfl, hQ _ _ Gr.self res_i⟩
  · cases e
    cases vb hu
    exact .inr ⟨_, rfl, hQ _ _ Gr.self res_i⟩
  · cases e)
/-- len: lists, tuples; dicts -/
def rLen (K : PySem.W.Frag) : List V → Hp → VK → Prop := fun xs H Q =>
  (∃ p ys, xs = [.ref p] ∧ (SqL K H p ys ∨ SqT K H p ys) ∧ Q (.int ys.length) H) ∨ ∃ a kvs, xs = [V.ref a] ∧ H a = some (.dK kvs) ∧ Q (.int kvs.length) H
theorem RKv.length : ∀ {l : List (D × D)} {ks : List (Key × V)}, RKv K ga ρ H l ks → ks.length = l.length
  | [], _, r => by rw [show _ = [] from r]; rfl
  | p :: ps, _, ⟨k, v, r, e, _, _, h⟩ => by subst e; simp [RKv.length h]
theorem opok_len : OpOk K ga .len (rLen K) := opok1 (h := fun ρ H u v av Q hu e hQ => by
  simp only [op1] at e
  unfold lenV at e
  split at e
  · cases e
    obtain ⟨a, ks, rfl, h1, r⟩ := vdic hu
    exact .inr ⟨a, ks, rfl, h1, by rw [r.length]; exact hQ _ _ Gr.self res_i⟩
  · cases h : seqOf u with
    | none => simp [h] at e
    | some l =>
      simp only [h, Option.map_some, Option.some.injEq] at e
      subst e
      obtain ⟨a, xs, rfl, hs, r⟩ := seq_ok hu h
      exact .inl ⟨a, xs, rfl, hs, by rw [r.length]; exact hQ _ _ Gr.self res_i⟩)
theorem opok_list : OpOk K ga .list (fun xs H Q => ∃ p ys, xs = [.ref p] ∧ (SqL K H p ys ∨ SqT K H p ys) ∧ ∀ l, H l = none → Q (.ref l) (upd H l (.lst ys))) := opok1 (h := fun ρ H u v av Q hu e hQ => by
  simp only [op1] at e
  unfold listV at e
  cases h : seqOf u with
  | none => simp [h] at e
  | some l =>
    simp only [h, Option.map_some, Option.some.injEq] at e
    subst e
    obtain ⟨a, xs, rfl, hs, r⟩ := seq_ok hu h
    exact ⟨a, xs, rfl, hs, fun t ht => hQ _ _ (gr_new ht) (res_lst ht r (seq_z hu h))⟩)
theorem opok_tuple : OpOk K ga .tuple (fun xs H Q => ∃ p ys, xs = [.ref p] ∧ ((SqL K H p ys ∧ ∀ l, H l = none → Q (.ref l) (upd H l (.tup ys))) ∨ (SqT K H p ys ∧ Q (.ref p) H))) := opok1 (h := fun ρ H u v av Q hu e hQ => by
  simp only [op1] at e
  unfold tupleV at e
  cases h : seqOf u with
  | none => simp [h] at e
  | some l =>
    simp only [h, Option.map_some, Option.some.injEq] at e
    subst e
    obtain ⟨a, xs, rfl, hs, r⟩ := seq_ok hu h
    refine ⟨a, xs, rfl, ?_⟩
    rcases hs with hs | hs
    · exact .inl ⟨hs, fun t ht => hQ _ _ (gr_new ht) (res_tup ht r (seq_z hu h))⟩
    · refine .inr ⟨hs, hQ _ _ Gr.self ?_⟩
      simp only [Res, RD]
      exact ⟨a, xs, rfl, hs, r, seq_z hu h⟩)
theorem bools_ok : ∀ {l : List D} {bs : List Bool} {xs : List V}, RDs K ga ρ H l xs → boolsOf l = some bs → xs = bs.map V.bl
  | [], bs, xs, r, e => by
    simp only [boolsOf, Option.some.injEq] at e
    subst e
    simpa [RDs] using r
  | d :: ds, bs, xs, r, e => by
    cases d <;> simp only [boolsOf] at e
    case bl b =>
      cases h : boolsOf ds with
      | none => simp [h] at e
      | some cs =>
        simp only [h, Option.map_some, Option.some.injEq] at e
        subst e
        simp only [RDs, RD] at r
        obtain ⟨v, vs, rfl, rfl, q⟩ := r
        rw [bools_ok q h]
        rfl
    all_goals cases e
theorem ints_ok : ∀ {l : List D} {bs : List Int} {xs : List V}, RDs K ga ρ H l xs → intsOf l = some bs → xs = bs.map V.int
  | [], bs, xs, r, e => by
    simp only [intsOf, Option.some.injEq] at e
    subst e
    simpa [RDs] using r
  | d :: ds, bs, xs, r, e => by
    cases d <;> simp only [intsOf] at e
    case int b =>
      cases h : intsOf ds with
      | none => simp [h] at e
      | some cs =>
        simp only [h, Option.map_some, Option.some.injEq] at e
        subst e
        simp only [RDs, RD] at r
        obtain ⟨v, vs, rfl, rfl, q⟩ := r
        rw [ints_ok q h]
        rfl
    all_goals cases e
theorem opok_all : OpOk K ga .all (rAll K) := opok1 (h := fun ρ H u v av Q hu e hQ => by
  simp only [op1] at e
  unfold allV at e
  split at e
  · rename_i l
    cases h : boolsOf l with
    | none => simp [h] at e
    | some bs =>
      simp only [h, Option.map_some, Option.some.injEq] at e
      subst e
      obtain ⟨a, xs, rfl, h1, r⟩ := vlst hu
      exact ⟨a, bs, rfl, SqL.of (by rw [← bools_ok r h]; exact h1), hQ _ _ Gr.self res_b⟩
  · cases e)
theorem opok_any : OpOk K ga .any (rAny K) := opok1 (h := fun ρ H u v av Q hu e hQ => by
  simp only [op1] at e
  unfold anyV at e
  split at e
  · rename_i l
    cases h : boolsOf l with
    | none => simp [h] at e
    | some bs =>
      simp only [h, Option.map_some, Option.some.injEq] at e
      subst e
      obtain ⟨a, xs, rfl, h1, r⟩ := vlst hu
      exact ⟨a, bs, rfl, SqL.of (by rw [← bools_ok r h]; exact h1), hQ _ _ Gr.self res_b⟩
  · cases e)
theorem opok_sum : OpOk K ga .sum (rSum K) := opok1 (h := fun ρ H u v av Q hu e hQ => by
  simp only [op1] at e
  unfold sumV at e
  split at e
  · rename_i l
    cases h : intsOf l with
    | none => simp [h] at e
    | some bs =>
      simp only [h, Option.map_some, Option.some.injEq] at e
      subst e
      obtain ⟨a, xs, rfl, h1, r⟩ := vlst hu
      exact ⟨a, bs, rfl, SqL.of (by rw [← ints_ok r h]; exact h1), hQ _ _ Gr.self res_i⟩
  · cases e)
theorem opok_min2 : OpOkC K ga (fun us => us.length = 2) .min (fun xs H Q => ∃ i j, xs = [.int i, .int j] ∧ Q (.int (if j < i then j else i)) H) := opok2C (h := fun ρ H a b x y av Q ha hb e hQ => by
  simp only [op2] at e
  unfold minV at e
  split at e
  · cases e
    cases vi ha; cases vi hb
    exact ⟨_, _, rfl, hQ _ _ Gr.self res_i⟩
  · cases e)
theorem opok_max2 : OpOkC K ga (fun us => us.length = 2) .max (fun xs H Q => ∃ i j, xs = [.int i, .int j] ∧ Q (.int (if j > i then j else i)) H) := opok2C (h := fun ρ H a b x y av Q ha hb e hQ => by
  simp only [op2] at e
  unfold maxV at e
  split at e
  · cases e
    cases vi ha; cases vi hb
    exact ⟨_, _, rfl, hQ _ _ Gr.self res_i⟩
  · cases e)
theorem opok_gcd : OpOk K ga .gcd rGcd := opok2 (h := fun ρ H a b x y av Q ha hb e hQ => by
  simp only [op2] at e
  unfold gcdV at e
  split at e
  · cases e
    cases vi ha; cases vi hb
    exact ⟨_, _, rfl, hQ _ _ Gr.self res_i⟩
  · cases e)
theorem isn_ok {a b : Vw} {x y : V} {k : Bool} (ha : VwR K ga ρ H a x) (hb : VwR K ga ρ H b y) (e : isnV a b = some k) : y = .non ∧ decide (x = .non) = k := by
  unfold isnV at e
  split at e
  · rename_i d
    refine ⟨vn hb, ?_⟩
    cases d <;> simp only [Option.some.injEq] at e <;> subst e <;> simp only [VwR, RD] at ha
    case tup l => obtain ⟨a, xs, rfl, _⟩ := ha; rfl
    case flst l => obtain ⟨a, xs, rfl, _⟩ := ha; rfl
    case ref n => obtain ⟨a, _, rfl⟩ := ha; rfl
    all_goals (subst ha; rfl)
  · obtain ⟨p, o, rfl, _⟩ := ha
    cases e
    exact ⟨vn hb, rfl⟩
  · cases e
theorem opok_isn : OpOk K ga .isn (tw fun x y H Q => y = .non ∧ Q (.bl (decide (x = .non))) H) := opok2 (h := fun ρ H a b x y av Q ha hb e hQ => by
  simp only [op2] at e
  cases h : isnV a b with
  | none => simp [h] at e
  | some k =>
    simp only [h, Option.map_some, Option.some.injEq] at e
    subst e
    obtain ⟨rfl, h2⟩ := isn_ok ha hb h
    exact ⟨x, _, rfl, rfl, by rw [h2]; exact hQ _ _ Gr.self res_b⟩)
theorem opok_notn : OpOk K ga .notn (tw fun x y H Q => y = .non ∧ Q (.bl (!decide (x = .non))) H) := opok2 (h := fun ρ H a b x y av Q ha hb e hQ => by
  simp only [op2] at e
  cases h : isnV a b with
  | none => simp [h] at e
  | some k =>
    simp only [h, Option.map_some, Option.some.injEq] at e
    subst e
    obtain ⟨rfl, h2⟩ := isn_ok ha hb h
    exact ⟨x, _, rfl, rfl, by rw [h2]; exact hQ _ _ Gr.self res_b⟩)
/-- isinstance -/
theorem opok_isi : OpOk K ga .isi (rIsi K) := opok2 (h := fun ρ H a b x y av Q ha hb e hQ => by
  simp only [op2] at e
  unfold isiV at e
  split at e
  · rename_i n
    cases vt hb
    split at e
    · rename_i hn
      have hn : n = "int" ∨ n = "bool" ∨ n = "tuple" ∨ n = "list" ∨ n = "str" ∨ n = "dict" := by simpa using hn
      cases h : isIn n a with
      | none => simp [h] at e
      | some k =>
        simp only [h, Option.map_some, Option.some.injEq] at e
        subst e
        have fin : ∀ {m : String}, TyX K H x (.type m) → kitB m n = some k → rIsi K [x, .ty n] H Q := fun {m} t kk => ⟨x, .ty n, .type m, .type n, k, rfl, .ty n, t, kit_ty kk, hQ _ _ Gr.self res_b⟩
        unfold isIn at h
        split at h
        · cases h
          cases vn ha
          refine fin (.base .non) ?_
          rcases hn with rfl | rfl | rfl | rfl | rfl | rfl <;> decide +kernel
        · cases h
          cases vb ha
          refine fin (.base (.bl _)) ?_
          rcases hn with rfl | rfl | rfl | rfl | rfl | rfl <;> decide +kernel
        · cases h
          cases vi ha
          refine fin (.base (.int _)) ?_
          rcases hn with rfl | rfl | rfl | rfl | rfl | rfl <;> decide +kernel
        · cases h
          cases vs_ ha
          refine fin (.base (.str _)) ?_
          rcases hn with rfl | rfl | rfl | rfl | rfl | rfl <;> decide +kernel
        · cases h
          obtain ⟨p, xs, rfl, h1, _⟩ := vtup ha
          have kk : kitB "tuple" n = some (n == "tuple") := by rcases hn with rfl | rfl | rfl | rfl | rfl | rfl <;> decide +kernel
          rcases h1 with (h1 | ⟨o, h1⟩) | ⟨o, its, m, h1, h2, _⟩
          · exact fin (.base (.tup h1)) kk
          · exact fin (.fTuple h1) kk
          · exact fin (.kTuple h1 h2) kk
        · cases h
          obtain ⟨p, xs, rfl, h1, _⟩ := vfl ha
          have kk : kitB "list" n = some (n == "list") := by rcases hn with rfl | rfl | rfl | rfl | rfl | rfl <;> decide +kernel
          rcases h1 with ⟨o, h1⟩ | ⟨o, its, m, h1, h2, _⟩
          · exact fin (.base (.frz h1)) kk
          · exact fin (.kList h1 h2) kk
        · cases h
          obtain ⟨p, xs, rfl, h1, _⟩ := vlst ha
          have kk : kitB "list" n = some (n == "list") := by rcases hn with rfl | rfl | rfl | rfl | rfl | rfl <;> decide +kernel
          exact fin (.base (.lst h1)) kk
        · cases h
          obtain ⟨p, xs, rfl, h1, _⟩ := vdic ha
          have kk : kitB "dict" n = some (n == "dict") := by rcases hn with rfl | rfl | rfl | rfl | rfl | rfl <;> decide +kernel
          exact fin (.base (.dK h1)) kk
        · cases h
    · cases e
  · cases e)

/-! ### operations whose reading hangs on what is viewed -/
section
variable {fld : Nat → Str} {Wx : WX}
theorem op_T2 {o : O} {c : List Vw → Bool} {r r' : List V → Hp → VK → Prop} (ok1 : OpOkC K ga (fun us => c us = true) o r) (ok2 : OpOkC K ga (fun us => c us = false) o r') {ms : M (List Av)} {σ H Q} (h : TA1 K ga fld Wx (bnd ms (osem o)) σ H Q) :
    TL1 K ga fld Wx ms σ H (fun vs H1 => r vs H1 Q) ∨ TL1 K ga fld Wx ms σ H (fun vs H1 => r' vs H1 Q) := by
  obtain ⟨ρ, σd, hd, s, h⟩ := h
  unfold bnd at h
  cases e1 : ms σd hd with
  | bad => simp [e1, R.bnd] at h
  | ex x d σ1 h1 => exact .inl ⟨ρ, σd, hd, s, by simpa [e1, R.bnd] using h⟩
  | ok as σ1 h1 =>
    simp only [e1, R.bnd, osem, bnd] at h
    cases e2 : views as σ1 h1 with
    | bad => simp [e2, R.bnd] at h
    | ex x d σ2 h2 =>
      refine .inl ⟨ρ, σd, hd, s, ?_⟩
      simp only [e1]
      intro ρ1 H1 vs s1 t1 r1
      rcases views_ok s1 r1.1 with e3 | ⟨us, e3, hu⟩ <;> rw [e3] at e2 <;> cases e2
    | ok us σ2 h2 =>
      simp only [e2, R.bnd] at h
      cases e3 : opf o us with
      | none => simp [e3, ofO, fail] at h
      | some av =>
        simp only [e3, ofO, ret] at h
        have main : ∀ {r0 : List V → Hp → VK → Prop} {P : List Vw → Prop}, OpOkC K ga P o r0 → P us → TL1 K ga fld Wx ms σ H (fun vs H1 => r0 vs H1 Q) := fun {r0 P} ok hp => by
          refine ⟨ρ, σd, hd, s, ?_⟩
          simp only [e1]
          intro ρ1 H1 vs s1 t1 r1
          rcases views_ok s1 r1.1 with e4 | ⟨us', e4, hu⟩
          · rw [e4] at e2; cases e2
          · rw [e4] at e2
            cases e2
            refine ok ρ1 H1 us vs av Q hp hu e3 fun v H' g q => ?_
            obtain ⟨s2, t2, a2, n2⟩ := res_ok s1 g q
            refine h ρ1 H' v s2 (t1.trans t2) ⟨a2, fun b f => ?_⟩
            have k := n2 b f
            by_cases hf : Fp ρ σd σ b
            · exact .inl hf
            · cases e : H b with
              | none => exact .inr rfl
              | some o => exact ((t1.keep b o e hf).ne k).elim
        cases hc : c us with
        | true => exact .inl (main ok1 hc)
        | false => exact .inr (main ok2 hc)
end

/-! ### equality -/
mutual
theorem pd_ok : ∀ (x : D) {v : V} {p : PyData}, RD K ga ρ H x v → pd x = some p → Dp K H v p
  | .non, v, p, r, e => by simp only [RD] at r; simp only [pd, Option.some.injEq] at e; subst r e; exact .non
  | .bl b, v, p, r, e => by simp only [RD] at r; simp only [pd, Option.some.injEq] at e; subst r e; exact .bl b
  | .int b, v, p, r, e => by simp only [RD] at r; simp only [pd, Option.some.injEq] at e; subst r e; exact .int b
  | .str b, v, p, r, e => by simp only [RD] at r; simp only [pd, Option.some.injEq] at e; subst r e; exact .str b
  | .ty _, _, _, _, e => by simp [pd] at e
  | .gf _, _, _, _, e => by simp [pd] at e
  | .ref _, _, _, _, e => by simp [pd] at e
  | .tup l, v, p, r, e => by
    simp only [RD] at r
    obtain ⟨a, xs, rfl, h, q, _⟩ := r
    cases e1 : pds l with
    | none => simp [pd, e1] at e
    | some ds =>
      simp only [pd, e1, Option.map_some, Option.some.injEq] at e
      subst e
      exact .tup h (pds_ok l q e1)
  | .flst l, v, p, r, e => by
    simp only [RD] at r
    obtain ⟨a, xs, rfl, h, q, _⟩ := r
    cases e1 : pds l with
    | none => simp [pd, e1] at e
    | some ds =>
      simp only [pd, e1, Option.map_some, Option.some.injEq] at e
      subst e
      exact .lst (sqF_l h) (pds_ok l q e1)
theorem pds_ok : ∀ (l : List D) {xs : List V} {ps : List PyData}, RDs K ga ρ H l xs → pds l = some ps → DpAll K H xs ps
  | [], xs, ps, r, e => by simp only [RDs] at r; simp only [pds, Option.some.injEq] at e; subst r e; exact .nil
  | d :: ds, xs, ps, r, e => by
    simp only [RDs] at r
    obtain ⟨v, vs, rfl, h, q⟩ := r
    cases e1 : pd d with
    | none => simp [pds, e1] at e
    | some p =>
      cases e2 : pds ds with
      | none => simp [pds, e1, e2] at e
      | some ps' =>
        simp only [pds, e1, e2, Option.some.injEq] at e
        subst e
        exact .cons (pd_ok d h e1) (pds_ok ds q e2)
end
theorem pdV_ok {u : Vw} {v : V} {p : PyData} (h : VwR K ga ρ H u v) (e : pdV u = some p) : Dp K H v p := by
  cases u with
  | d x => exact pd_ok x h e
  | c c =>
    cases c with
    | dic _ => simp [pdV] at e
    | tbl j q => simp [pdV] at e
    | lst l =>
      obtain ⟨a, xs, rfl, h1, r⟩ := vlst h
      cases e1 : pds l with
      | none => simp [pdV, e1] at e
      | some ds =>
        simp only [pdV, e1, Option.map_some, Option.some.injEq] at e
        subst e
        exact .lst (SqL.of h1) (pds_ok l r e1)
theorem key_eq {k k' : D} {q q' : Key} (h : keyD k = some q) (h' : keyD k' = some q') : beqD k k' = decide (q = q') := by
  cases k <;> simp only [keyD, Option.some.injEq, reduceCtorEq] at h <;> subst h <;> cases k' <;> simp only [keyD, Option.some.injEq, reduceCtorEq] at h' <;> subst h' <;> simp [beqD, Bool.beq_eq_decide_eq]
theorem getK_ok {k : D} {q : Key} (hk : keyD k = some q) : ∀ {kvs : List (D × D)} {ks : List (Key × V)}, RKv K ga ρ H kvs ks → (∀ x, getK kvs k = some x → ∃ v, valV ks q = some v ∧ RD K ga ρ H x v) ∧ (getK kvs k = none → valV ks q = none)
  | [], ks, r => by
    have r : ks = [] := r
    subst r
    exact ⟨fun x e => by simp [getK] at e, fun _ => rfl⟩
  | p :: ps, ks, ⟨k1, v1, r1, e, h1, h2, h3⟩ => by
    subst e
    have ih := getK_ok hk h3
    have b := key_eq h1 hk
    unfold getK valV at ih ⊢
    simp only [List.find?_cons]
    rw [b]
    by_cases c : k1 = q
    · rw [decide_eq_true c]
      exact ⟨fun x e => ⟨v1, rfl, by cases e; exact h2⟩, fun e => by cases e⟩
    · rw [decide_eq_false c]
      exact ih
theorem keyOk_key {k : D} (h : keyOk k = true) : ∃ q, keyD k = some q := by
  cases k <;> simp [keyOk] at h <;> exact ⟨_, rfl⟩
theorem key_v {k : D} {q : Key} {v : V} (h : keyD k = some q) (r : RD K ga ρ H k v) : v = kV q := by
  cases k <;> simp only [keyD, Option.some.injEq, reduceCtorEq] at h <;> subst h <;> simpa [RD, kV] using r
/-- in, over a dict's keys, flat items, lists of shaped data -/
def rInA (K : PySem.W.Frag) (neg : Bool) : R2 := fun x y H Q => ((∃ a o, y = V.ref a ∧ DGet H a x o ∧ Q (.bl (if neg then !o.isSome else o.isSome)) H) ∨ rIn K neg x y H Q) ∨ (if neg then rNotInD K else rInD K) x y H Q
def rCmp (K : PySem.W.Frag) : CmpOp → R2
  | .In => rInA K false
  | .NotIn => rInA K true
  | .Eq => rEqD K
  | .NotEq => rNeD K
  | .Lt => rI0 fun i j => .bl (decide (i < j))
  | .LtE => rI0 fun i j => .bl (decide (i ≤ j))
  | .Gt => rI0 fun i j => .bl (decide (j < i))
  | .GtE => rI0 fun i j => .bl (decide (j ≤ i))
  | _ => fun _ _ _ _ => False
def plainCmp : CmpOp → Bool
  | .Eq | .NotEq | .Lt | .LtE | .Gt | .GtE | .In | .NotIn => true
  | _ => false
theorem op_inDict {X : Cx} (hu : X.A.units + 1 < cLine) : OpR X (compareOp .In) (fun x y H Q => ∃ a o, y = V.ref a ∧ DGet H a x o ∧ Q (.bl (if false then !o.isSome else o.isSome)) H) := by
  intro pins s σ H x y v u Q I rx ry h
  obtain ⟨a, o, rfl, g, q⟩ := h
  cases ry
  exact d_in hu I g rx fun s' I' => ⟨.bl o.isSome, H, I', rfl, q⟩
theorem op_notInDict {X : Cx} (hu : X.A.units + 1 < cLine) : OpR X (compareOp .NotIn) (fun x y H Q => ∃ a o, y = V.ref a ∧ DGet H a x o ∧ Q (.bl (if true then !o.isSome else o.isSome)) H) := by
  intro pins s σ H x y v u Q I rx ry h
  obtain ⟨a, o, rfl, g, q⟩ := h
  cases ry
  exact d_notIn hu I g rx fun s' I' => ⟨.bl (!o.isSome), H, I', rfl, q⟩
theorem op_cmp {X : Cx} (hu : X.A.units + 65 < cLine) : ∀ op, OpR X (compareOp op) (rCmp X.K op)
  | .Eq => op_eqD (by omega)
  | .NotEq => op_neD (by omega)
  | .In => ((op_inDict (by omega)).or op_in_seq).or (op_inD hu)
  | .NotIn => ((op_notInDict (by omega)).or op_notIn_seq).or (op_notInD hu)
  | .Lt => op_lt
  | .LtE => op_le
  | .Gt => op_gt
  | .GtE => op_ge
  | .Is | .IsNot => fun _ _ _ _ _ _ _ _ _ _ _ _ h => h.elim
theorem eqV_ok {a b : Vw} {x y : V} {k : Bool} (ha : VwR K ga ρ H a x) (hb : VwR K ga ρ H b y) (e : eqV a b = some k) : ∃ p q, Dp K H x p ∧ Dp K H y q ∧ SeqAt.shaped p = true ∧ SeqAt.shaped q = true ∧ PyData.eqv p q = k := by
  unfold eqV at e
  split at e
  · rename_i p q h1 h2
    split at e
    · rename_i h
      simp only [Bool.and_eq_true] at h
      cases e
      exact ⟨p, q, pdV_ok ha h1, pdV_ok hb h2, h.1, h.2, rfl⟩
    · cases e
  · cases e
theorem flat_v {x : V} {p : PyData} (h : Dp K H x p) (f : flatP p = true) : flatV x = true := by
  cases h <;> first | rfl | cases f
theorem flat_eqv {x y : V} {p q : PyData} (h : Dp K H x p) (h' : Dp K H y q) (f : flatP p = true) (f' : flatP q = true) : L2.eqV y x = PyData.eqv q p := by
  cases h <;> (first | (cases f; done) | (cases h' <;> first | (cases f'; done) | rfl))
theorem flat_any {x : V} {p : PyData} (h : Dp K H x p) (f : flatP p = true) : ∀ {ys : List V} {qs : List PyData}, DpAll K H ys qs → qs.all flatP = true → ys.all flatV = true ∧ L2.inV x ys = qs.any fun z => PyData.eqv z p
  | _, _, .nil, _ => ⟨rfl, rfl⟩
  | y :: ys, q :: qs, .cons d ds, g => by
    rw [List.all_cons, Bool.and_eq_true] at g
    obtain ⟨h1, h2⟩ := flat_any h f ds g.2
    refine ⟨by rw [List.all_cons, flat_v d g.1, h1]; rfl, ?_⟩
    unfold L2.inV at h2 ⊢
    rw [List.any_cons, List.any_cons, flat_eqv h d f g.1, h2]
theorem seq_flat {a : Vw} {x : V} {l : List D} {xs : List V} {p : Addr} {lst : Bool} {k neg : Bool} {Q : VK} (ha : VwR K ga ρ H a x) (hs : if lst then SqL K H p xs else SqT K H p xs) (r : RDs K ga ρ H l xs) (e : inL lst a l = some k)
    (q : Q (.bl (if neg then !k else k)) H) : rInA K neg x (.ref p) H Q := by
  unfold inL at e
  split at e
  · rename_i d ds h1 h2
    have dx := pdV_ok ha h1
    have dl := pds_ok l r h2
    split at e
    · rename_i c
      rw [Bool.and_eq_true] at c
      cases e
      obtain ⟨f1, f2⟩ := flat_any dx c.1 dl c.2
      refine .inl (.inr ⟨p, xs, rfl, ?_, flat_v dx c.1, f1, by rw [f2]; exact q⟩)
      cases lst
      · exact .inr hs
      · exact .inl hs
    · split at e
      · rename_i c
        simp only [Bool.and_eq_true] at c
        cases e
        obtain ⟨⟨c1, c2⟩, c3⟩ := c
        subst c1
        have hl : Dp K H (.ref p) (.list ds) := .lst hs dl
        cases neg
        · exact .inr ⟨d, ds, dx, hl, c2, c3, q⟩
        · exact .inr ⟨d, ds, dx, hl, c2, c3, q⟩
      · cases e
  · cases e
theorem inV_ok {a b : Vw} {x y : V} {k neg : Bool} {Q : VK} (ha : VwR K ga ρ H a x) (hb : VwR K ga ρ H b y) (e : Ev.inV a b = some k) (q : Q (.bl (if neg then !k else k)) H) : rInA K neg x y H Q := by
  unfold Ev.inV at e
  split at e
  · rename_i kvs
    split at e
    · rename_i d
      split at e
      · rename_i c
        cases e
        obtain ⟨t, ks, rfl, h1, r⟩ := vdic hb
        obtain ⟨w, hw⟩ := keyOk_key c
        have ev := key_v hw ha
        subst ev
        refine .inl (.inl ⟨t, valV ks w, rfl, DGet.k h1, ?_⟩)
        have := getK_ok hw r
        have e2 : (valV ks w).isSome = (getK kvs d).isSome := by
          cases h : getK kvs d with
          | none => rw [this.2 h]; rfl
          | some z =>
            obtain ⟨v, h3, _⟩ := this.1 z h
            rw [h3]; rfl
        rw [e2]
        exact q
      · cases e
    · cases e
  · rename_i l
    obtain ⟨p, xs, rfl, h1, r⟩ := vlst hb
    exact seq_flat (lst := true) ha (SqL.of h1) r e q
  · rename_i l
    obtain ⟨p, xs, rfl, h1, r, _⟩ := vflZ hb
    exact seq_flat (lst := true) ha (sqF_l h1) r e q
  · rename_i l
    obtain ⟨p, xs, rfl, h1, r, _⟩ := vtupZ hb
    exact seq_flat (lst := false) ha h1 r e q
  · cases e
theorem cmp_ok {op : CmpOp} (hp : plainCmp op = true) {a b : Vw} {x y : V} {k : Bool} {Q : VK} (ha : VwR K ga ρ H a x) (hb : VwR K ga ρ H b y) (h : cmpV op a b = some k) (q : Q (.bl k) H) : rCmp K op x y H Q := by
  have intsC : ∀ {f : Int → Int → Bool}, (∀ i j, a = .d (.int i) → b = .d (.int j) → f i j = k) → (∃ i j, a = .d (.int i) ∧ b = .d (.int j)) → rI0 (fun i j => .bl (f i j)) x y H Q := fun {f} h1 ⟨i, j, e1, e2⟩ => by
    have hf := h1 i j e1 e2
    subst e1 e2
    cases vi ha; cases vi hb
    exact ⟨i, j, rfl, rfl, by show Q (.bl (f i j)) H; rw [hf]; exact q⟩
  cases op <;> simp only [plainCmp, Bool.false_eq_true] at hp
  case Eq =>
    obtain ⟨p, r, h1, h2, h3, h4, h5⟩ := eqV_ok ha hb h
    exact ⟨p, r, h1, h2, h3, h4, by rw [h5]; exact q⟩
  case NotEq =>
    simp only [cmpV] at h
    cases h' : eqV a b with
    | none => simp [h'] at h
    | some k' =>
      simp only [h', Option.map_some, Option.some.injEq] at h
      obtain ⟨p, r, h1, h2, h3, h4, h5⟩ := eqV_ok ha hb h'
      exact ⟨p, r, h1, h2, h3, h4, by rw [h5, h]; exact q⟩
  case In =>
    exact inV_ok (neg := false) ha hb h q
  case NotIn =>
    simp only [cmpV] at h
    cases h' : Ev.inV a b with
    | none => simp [h'] at h
    | some k' =>
      simp only [h', Option.map_some, Option.some.injEq] at h
      exact inV_ok (neg := true) ha hb h' (by subst h; exact q)
  all_goals
    simp only [cmpV] at h
    split at h
    · rename_i i j
      simp only [cmpI, Option.some.injEq] at h
      refine intsC (fun i' j' e1 e2 => ?_) ⟨i, j, rfl, rfl⟩
      cases e1; cases e2
      exact h
    · cases h
theorem opok_cmp {op : CmpOp} (hp : plainCmp op = true) : OpOk K ga (.cmp op) (tw (rCmp K op)) := opok2 (h := fun ρ H a b x y av Q ha hb e hQ => by
  simp only [op2] at e
  refine ⟨x, y, rfl, ?_⟩
  cases h : cmpV op a b with
  | none => simp [h] at e
  | some k =>
    simp only [h, Option.map_some, Option.some.injEq] at e
    subst e
    exact cmp_ok hp ha hb h (hQ _ _ Gr.self res_b))

/-! ### items -/
def isDic : List Vw → Bool
  | .c (.dic _) :: _ => true
  | _ => false
theorem opok_idxD : OpOkC K ga (fun us => isDic us = true) .idx (tw fun x y H Q => ∃ a v, x = V.ref a ∧ DGet H a y (some v) ∧ Q v H) := by
  intro ρ H us vs av Q hp hu e hQ
  match us, hu, hp with
  | [.c (.dic kvs), b], .cons (b := x) ha (.cons (b := y) hb .nil), _ =>
    refine ⟨x, y, rfl, ?_⟩
    obtain ⟨a, ks, rfl, h1, r⟩ := vdic ha
    simp only [opf, op2] at e
    have key : ∃ k q, keyD k = some q ∧ RD K ga ρ H k y ∧ (getK kvs k).map Av.d = some av := by
      unfold idxV at e
      split at e
      · exact ⟨_, _, rfl, hb, e⟩
      · exact ⟨_, _, rfl, hb, e⟩
      · cases e
    obtain ⟨k, q, h2, h3, h4⟩ := key
    cases h5 : getK kvs k with
    | none => simp [h5] at h4
    | some z =>
      simp only [h5, Option.map_some, Option.some.injEq] at h4
      subst h4
      obtain ⟨v, h6, h7⟩ := (getK_ok h2 r).1 z h5
      refine ⟨a, v, rfl, ?_, hQ v H Gr.self h7⟩
      rw [← h6, key_v h2 h3]
      exact DGet.k h1
  | [.c (.dic kvs)], _, _ => cases e
  | .c (.dic kvs) :: b :: c :: d, _, _ => rcases d with _ | ⟨_, _⟩ <;> cases e
theorem opok_idx : OpOkC K ga (fun us => isDic us = false) .idx (tw (rIx K)) := by
  intro ρ H us vs av Q hp hu e hQ
  match us, hu with
  | [], _ => cases e
  | [a], _ => cases e
  | [a, b, c], _ => cases e
  | a :: b :: c :: d :: f, _ => cases e
  | [a, b], .cons (b := x) ha (.cons (b := y) hb .nil) =>
    refine ⟨x, y, rfl, ?_⟩
    simp only [opf, op2] at e
    unfold idxV at e
    split at e
    · rename_i i
      cases vi hb
      split at e
      · simp [isDic] at hp
      · cases h : seqOf a with
        | none => simp [h] at e
        | some l =>
          simp only [h, Option.bind_some] at e
          cases h2 : Ev.atI l i with
          | none => simp [h2] at e
          | some z =>
            simp only [h2, Option.map_some, Option.some.injEq] at e
            subst e
            obtain ⟨p, xs, rfl, hs, r⟩ := seq_ok ha h
            have h3 : ∃ j, L2.ixN xs.length i = some j ∧ l[j]? = some z := by
              unfold Ev.atI at h2
              rw [r.length]
              cases h4 : Ev.ixN l.length i with
              | none => simp [h4] at h2
              | some j =>
                simp only [h4, Option.bind_some] at h2
                exact ⟨j, h4, h2⟩
            obtain ⟨j, h4, h5⟩ := h3
            obtain ⟨v, h6, h7⟩ := r.get h5
            have h8 : L2.atI xs i = some v := by
              unfold L2.atI
              rw [h4]
              exact h6
            rcases hs with hs | hs
            · exact .inl ⟨p, xs, i, v, rfl, rfl, hs, h8, hQ v H Gr.self h7⟩
            · exact .inr (.inl ⟨p, xs, i, v, rfl, rfl, hs, h8, hQ v H Gr.self h7⟩)
    · split at e
      · simp [isDic] at hp
      · cases e
    · cases e

/-! ### slices -/
def rSlc (K : PySem.W.Frag) : V → Option Int → Option Int → Hp → VK → Prop := fun x lo hi H Q => rSlL K x lo hi H Q ∨ rSlA K x lo hi H Q
theorem cut_z {l : List D} {lo hi : Option Int} (h : l.length ≤ SZ) : (cut l lo hi).length ≤ SZ := by
  unfold cut
  simp only [List.length_take, List.length_drop]
  omega
theorem slc_ok {u : Vw} {v : V} {av : Av} {lo hi : Option Int} {Q : VK} (h : VwR K ga ρ H u v) (e : Ev.cutV u lo hi = some av) (hQ : ∀ v H', Gr H H' → Res K ga ρ H H' av v → Q v H') : rSlc K v lo hi H Q := by
  have cutE : ∀ {l : List D} {xs : List V}, RDs K ga ρ H l xs → RDs K ga ρ H (cut l lo hi) (L2.cutV xs lo hi) := fun {l xs} r => by
    have e1 : ∀ n d o, Ev.sIx n d o = HT.sIx n d o := fun n d o => by cases o <;> rfl
    unfold cut L2.cutV
    rw [e1, e1, ← r.length]
    exact RDs.take _ (RDs.drop _ r)
  unfold Ev.cutV at e
  split at e
  · cases e
    obtain ⟨a, xs, rfl, h1, r, z⟩ := vlstZ h
    exact .inl ⟨a, xs, rfl, SqL.of h1, fun p hp => hQ _ _ (gr_new hp) (res_lst hp (cutE r) (cut_z z))⟩
  · rename_i l
    cases e
    obtain ⟨a, xs, rfl, h1, r, zz⟩ := vtupZ h
    refine .inr ⟨a, xs, rfl, h1, fun z => hQ _ _ Gr.self ?_, fun _ p hp => hQ _ _ (gr_new hp) (res_tup hp (cutE r) (cut_z zz))⟩
    have e1 : ∀ n d o, Ev.sIx n d o = HT.sIx n d o := fun n d o => by cases o <;> rfl
    have e2 : cut l lo hi = l := by
      unfold cut
      rw [e1, e1, ← r.length, z.1, z.2, r.length]
      simp
    simp only [Res, RD, e2]
    exact ⟨a, xs, rfl, h1, r, zz⟩
  · cases e
    obtain ⟨a, xs, rfl, h1, r, z⟩ := vflZ h
    exact .inl ⟨a, xs, rfl, sqF_l h1, fun p hp => hQ _ _ (gr_new hp) (res_lst hp (cutE r) (cut_z z))⟩
  · cases e
theorem opok_sl0 : OpOk K ga (.sli false false) (fun vs H Q => ∃ x, vs = [x] ∧ rSlc K x none none H Q) := by
  intro ρ H us vs av Q _ hu e hQ
  match us, hu with
  | [], _ => cases e
  | [a, b], _ => cases e
  | [a, b, c], _ => cases e
  | a :: b :: c :: d :: f, _ => cases e
  | [a], .cons (b := x) ha .nil => exact ⟨x, rfl, slc_ok ha e hQ⟩
theorem opok_sl1 : OpOk K ga (.sli true false) (fun vs H Q => ∃ x i, vs = [x, .int i] ∧ rSlc K x (some i) none H Q) := by
  intro ρ H us vs av Q _ hu e hQ
  match us, hu with
  | [], _ => cases e
  | [a], _ => cases e
  | [a, b, c], _ => cases e
  | a :: b :: c :: d :: f, _ => cases e
  | [a, b], .cons (b := x) ha (.cons (b := y) hb .nil) =>
    simp only [opf, op2] at e
    unfold slLo at e
    split at e
    · cases vi hb
      exact ⟨x, _, rfl, slc_ok ha e hQ⟩
    · cases e
theorem opok_sl2 : OpOk K ga (.sli false true) (fun vs H Q => ∃ x i, vs = [x, .int i] ∧ rSlc K x none (some i) H Q) := by
  intro ρ H us vs av Q _ hu e hQ
  match us, hu with
  | [], _ => cases e
  | [a], _ => cases e
  | [a, b, c], _ => cases e
  | a :: b :: c :: d :: f, _ => cases e
  | [a, b], .cons (b := x) ha (.cons (b := y) hb .nil) =>
    simp only [opf, op2] at e
    unfold slHi at e
    split at e
    · cases vi hb
      exact ⟨x, _, rfl, slc_ok ha e hQ⟩
    · cases e
theorem opok_sl3 : OpOk K ga (.sli true true) (fun vs H Q => ∃ x i j, vs = [x, .int i, .int j] ∧ rSlc K x (some i) (some j) H Q) := by
  intro ρ H us vs av Q _ hu e hQ
  match us, hu with
  | [], _ => cases e
  | [a], _ => cases e
  | [a, b], _ => cases e
  | a :: b :: c :: d :: f, _ => cases e
  | [a, b, c], .cons (b := x) ha (.cons (b := y) hb (.cons (b := z) hc .nil)) =>
    simp only [opf] at e
    unfold op3 at e
    split at e
    · cases vi hb; cases vi hc
      exact ⟨x, _, _, rfl, slc_ok ha e hQ⟩
    · cases e
end
end Ev
end
section
set_option maxRecDepth 100000
set_option maxHeartbeats 4000000
/-! Ev32: min, max of one list or tuple of alike data. -/
namespace Ev
open PySem L2 PySem.W
/-! ### data and what they read as -/
mutual
theorem pd_inj : ∀ {a b : D} {p : PyData}, pd a = some p → pd b = some p → a = b
  | .non, b, p, e, f => by simp only [pd, Option.some.injEq] at e; subst e; cases b <;> simp [pd] at f <;> simp [f]
  | .bl _, b, p, e, f => by simp only [pd, Option.some.injEq] at e; subst e; cases b <;> simp [pd] at f <;> simp [f]
  | .int _, b, p, e, f => by simp only [pd, Option.some.injEq] at e; subst e; cases b <;> simp [pd] at f <;> simp [f]
  | .str _, b, p, e, f => by simp only [pd, Option.some.injEq] at e; subst e; cases b <;> simp [pd] at f <;> simp [f]
  | .ty _, b, p, e, f => by simp [pd] at e
  | .gf _, b, p, e, f => by simp [pd] at e
  | .ref _, b, p, e, f => by simp [pd] at e
  | .tup l, b, p, e, f => by
    cases b <;> simp [pd] at e f <;> obtain ⟨q, e, rfl⟩ := e <;> simp at f
    rw [pds_inj e f]
  | .flst l, b, p, e, f => by
    cases b <;> simp [pd] at e f <;> obtain ⟨q, e, rfl⟩ := e <;> simp at f
    rw [pds_inj e f]
theorem pds_inj : ∀ {a b : List D} {p : List PyData}, pds a = some p → pds b = some p → a = b
  | [], b, p, e, f => by
    cases b with
    | nil => rfl
    | cons y ys =>
      simp only [pds, Option.some.injEq] at e f
      subst e
      cases h1 : pd y <;> simp [h1] at f
      cases h2 : pds ys <;> simp [h2] at f
  | x :: xs, b, p, e, f => by
    simp only [pds] at e
    cases h1 : pd x with
    | none => simp [h1] at e
    | some q =>
      cases h2 : pds xs with
      | none => simp [h1, h2] at e
      | some qs =>
        simp only [h1, h2, Option.some.injEq] at e
        subst e
        cases b with
        | nil => simp [pds] at f
        | cons y ys =>
          simp only [pds] at f
          cases h3 : pd y <;> simp [h3] at f
          cases h4 : pds ys <;> simp [h4] at f
          obtain ⟨f1, f2⟩ := f
          subst f1 f2
          rw [pd_inj h1 h3, pds_inj h2 h4]
end
theorem pds_get : ∀ {l : List D} {ps : List PyData} {i : Nat} {d : D}, pds l = some ps → l[i]? = some d → ∃ p, ps[i]? = some p ∧ pd d = some p
  | [], ps, i, d, e, f => by simp at f
  | x :: xs, ps, i, d, e, f => by
    simp only [pds] at e
    cases h1 : pd x with
    | none => simp [h1] at e
    | some q =>
      cases h2 : pds xs with
      | none => simp [h1, h2] at e
      | some qs =>
        simp only [h1, h2, Option.some.injEq] at e
        subst e
        cases i with
        | zero => simp at f; subst f; exact ⟨q, rfl, h1⟩
        | succ i => simpa using pds_get h2 (by simpa using f)
theorem pds_len : ∀ {l : List D} {ps : List PyData}, pds l = some ps → l.length = ps.length
  | [], ps, e => by simp only [pds, Option.some.injEq] at e; subst e; rfl
  | x :: xs, ps, e => by
    simp only [pds] at e
    cases h1 : pd x with
    | none => simp [h1] at e
    | some q =>
      cases h2 : pds xs with
      | none => simp [h1, h2] at e
      | some qs =>
        simp only [h1, h2, Option.some.injEq] at e
        subst e
        simp [pds_len h2]
theorem pds_cons {x : D} {xs : List D} {ps : List PyData} (e : pds (x :: xs) = some ps) : ∃ q qs, pd x = some q ∧ pds xs = some qs ∧ ps = q :: qs := by
  simp only [pds] at e
  cases h1 : pd x with
  | none => simp [h1] at e
  | some q =>
    cases h2 : pds xs with
    | none => simp [h1, h2] at e
    | some qs =>
      simp only [h1, h2, Option.some.injEq] at e
      exact ⟨q, qs, rfl, rfl, e.symm⟩
theorem pds_mem : ∀ {l : List D} {ps : List PyData} {d : D}, pds l = some ps → d ∈ l → ∃ p, pd d = some p ∧ p ∈ ps
  | [], _, _, _, m => by cases m
  | x :: xs, ps, d, e, m => by
    obtain ⟨q, qs, h1, h2, rfl⟩ := pds_cons e
    rcases List.mem_cons.mp m with rfl | m
    · exact ⟨q, h1, by simp⟩
    · obtain ⟨p, h3, h4⟩ := pds_mem h2 m
      exact ⟨p, h3, by simp [h4]⟩
theorem best_pd {lt : D → D → Bool} {lt' : PyData → PyData → Bool} (hlt : ∀ a b p q, pd a = some p → pd b = some q → lt a b = lt' p q) : ∀ {xs : List D} {ps : List PyData} {x : D} {p : PyData}, pd x = some p → pds xs = some ps → pd (bestD lt x xs) = some (ps.foldl (fun a y => if lt' y a then y else a) p)
  | [], ps, x, p, e, f => by simp only [pds, Option.some.injEq] at f; subst f; exact e
  | y :: ys, ps, x, p, e, f => by
    obtain ⟨q, qs, h1, h2, rfl⟩ := pds_cons f
    have h := hlt y x q p h1 e
    show pd (bestD lt (if lt y x then y else x) ys) = some (qs.foldl _ (if lt' q p then q else p))
    rw [h]
    cases lt' q p
    · exact best_pd hlt e h2
    · exact best_pd hlt h1 h2
theorem best_mem {lt : D → D → Bool} : ∀ {xs : List D} {x : D}, bestD lt x xs ∈ x :: xs
  | [], x => by simp [bestD]
  | y :: ys, x => by
    show bestD lt (if lt y x then y else x) ys ∈ _
    have := best_mem (lt := lt) (xs := ys) (x := if lt y x then y else x)
    rcases List.mem_cons.mp this with h | h
    · rw [h]; split <;> simp
    · simp [h]
theorem okB_of {l : List D} (h : okB l = true) : ∃ ps, pds l = some ps ∧ AlikeAll ps ∧ PyData.canLayAll0 ps = true ∧ PyData.depthAll ps ≤ 60 := by
  unfold okB at h
  split at h
  · rename_i ps e
    simp only [Bool.and_eq_true, List.all_eq_true, decide_eq_true_eq] at h
    refine ⟨ps, e, ⟨fun x hx y hy => ((h.1.1 x hx).2) y hy, fun x hx z => ?_⟩, h.1.2, h.2⟩
    subst z
    exact absurd (h.1.1 _ hx).1 (by simp)
  · cases h
/-! ### the calls -/
def rBest (K : PySem.W.Frag) (best : PyData → List PyData → PyData) : List V → Hp → VK → Prop := fun xs H Q => ∃ (a : Addr) (ys : List V) (p : PyData) (ps : List PyData), xs = [.ref a] ∧ (SqL K H a ys ∨ SqT K H a ys) ∧ DpAll K H ys (p :: ps) ∧ AlikeAll (p :: ps) ∧ PyData.canLayAll0 (p :: ps) = true ∧
  PyData.depthAll (p :: ps) ≤ 60 ∧ ∀ (i : Nat) (y : V), ys[i]? = some y → (p :: ps)[i]? = some (best p ps) → Q y H
section
variable {X : Cx}
theorem vals_at : ∀ {ys : List V} {us : List Value} {i : Nat} {u : Value}, Vals ys us → us[i]? = some u → ∃ y, ys[i]? = some y ∧ RelV y u
  | _, _, i, u, .nil, e => by simp at e
  | y :: ys, v :: us, 0, u, .cons r rs, e => by simp at e; subst e; exact ⟨y, rfl, r⟩
  | y :: ys, v :: us, i + 1, u, .cons r rs, e => by simpa using vals_at rs (by simpa using e)
theorem canLay_mem : ∀ {ps : List PyData} {i : Nat} {p : PyData}, PyData.canLayAll0 ps = true → ps[i]? = some p → p.canLay0 = true
  | [], i, p, _, e => by simp at e
  | q :: qs, 0, p, h, e => by
    simp only [PyData.canLayAll0, Bool.and_eq_true] at h
    simp at e; subst e; exact h.1
  | q :: qs, i + 1, p, h, e => by
    simp only [PyData.canLayAll0, Bool.and_eq_true] at h
    exact canLay_mem h.2 (by simpa using e)
theorem dp_at : ∀ {K : Frag} {H : Hp} {ys : List V} {ps : List PyData} {i : Nat} {y : V}, DpAll K H ys ps → ys[i]? = some y → ∃ p, ps[i]? = some p ∧ Dp K H y p
  | _, _, _, _, i, y, .nil, e => by simp at e
  | _, _, v :: ys, d :: ps, 0, y, .cons h hs, e => by simp at e; subst e; exact ⟨d, rfl, h⟩
  | _, _, v :: ys, d :: ps, i + 1, y, .cons h hs, e => by simpa using dp_at hs (by simpa using e)
theorem call_best {f : String} {best : PyData → List PyData → PyData} (hu : X.A.units + 64 < cLine)
    (hl : ∀ {s : Shared} {l : Addr} {vs : Array Value} {x : PyData} {xs : List PyData} {as : List Addr} {Q : Value → Shared → Prop} {E : Value → Shared → Prop}, s.heap.IsList l vs → ReadsAll s.heap vs.toList (x :: xs) as → AlikeAll (x :: xs) → X.A.units + 1 + PyData.depthAll (x :: xs) < cLine →
      (∀ (i : Nat) v h' tk bs, vs[i]? = some v → Reads h' v (best x xs) bs → (∀ b o, s.heap.get? b = some o → h'.get? b = some o) → Q v { s with heap := h', toks := tk }) → wpAny (model X.prog X.w) X.A (call (.builtin f) [.ref l]) Q E s)
    (ht : ∀ {s : Shared} {l : Addr} {vs : Array Value} {x : PyData} {xs : List PyData} {as : List Addr} {Q : Value → Shared → Prop} {E : Value → Shared → Prop}, s.heap.IsTuple l vs → ReadsAll s.heap vs.toList (x :: xs) as → AlikeAll (x :: xs) → X.A.units + 1 + PyData.depthAll (x :: xs) < cLine →
      (∀ (i : Nat) v h' tk bs, vs[i]? = some v → Reads h' v (best x xs) bs → (∀ b o, s.heap.get? b = some o → h'.get? b = some o) → Q v { s with heap := h', toks := tk }) → wpAny (model X.prog X.w) X.A (call (.builtin f) [.ref l]) Q E s) :
    CallR X (.builtin f) (rBest X.K best) := by
  intro pins s σ H xs us Q I r h
  obtain ⟨a, ys, p, ps, rfl, hs, hd, ha, hc, hdp, q⟩ := h
  rw [Vals.ref1 r]
  have fin : ∀ (its : List Value), Vals ys its → ∀ as, ReadsAll s.heap its (p :: ps) as → ∀ (i : Nat) v h' tk bs, its.toArray[i]? = some v → Reads h' v (best p ps) bs → (∀ b o, s.heap.get? b = some o → h'.get? b = some o) → EP X pins σ Q v { s with heap := h', toks := tk } := by
    intro its rv as ra i v h' tk bs hi hr hk
    have hi' : its[i]? = some v := by simpa using hi
    obtain ⟨y, hy, ry⟩ := vals_at rv hi'
    obtain ⟨z, hz, dz⟩ := dp_at hd hy
    obtain ⟨cs, rz⟩ := Dp.reads I z y v dz ry
    have e : z = best p ps := SeqAt.Reads.unique z _ v _ _ (canLay_mem hc hz) (PyProof.Rows.Reads.keeps hk rz) hr
    exact ⟨y, H, I.kept hk, ry, q i y hy (by rw [hz, e])⟩
  rcases hs with hs | hs
  · obtain ⟨its, rv, pl, _⟩ := I.list hs
    obtain ⟨as, ra⟩ := Dp.readsAll I _ _ _ hd rv
    exact hl pl.isList (by simpa using ra) ha (by omega) (fin its rv as ra)
  · obtain ⟨its, rv, pl, _⟩ := I.tuple hs
    obtain ⟨as, ra⟩ := Dp.readsAll I _ _ _ hd rv
    exact ht pl (by simpa using ra) ha (by omega) (fin its rv as ra)
theorem call_maxD (hc : X.calm = true) (hu : X.A.units + 64 < cLine) : CallR X (.builtin "max") (rBest X.K maxD) :=
  fun pins s σ H xs us Q I r h => call_best hu (fun h1 h2 h3 h4 h5 => max_list_data (I.ok.hd hc) h1 h2 h3 h4 h5) (fun h1 h2 h3 h4 h5 => max_tuple_data (I.ok.hd hc) h1 h2 h3 h4 h5) pins s σ H xs us Q I r h
theorem call_minD (hc : X.calm = true) (hu : X.A.units + 64 < cLine) : CallR X (.builtin "min") (rBest X.K minD) :=
  fun pins s σ H xs us Q I r h => call_best hu (fun h1 h2 h3 h4 h5 => min_list_data (I.ok.hd hc) h1 h2 h3 h4 h5) (fun h1 h2 h3 h4 h5 => min_tuple_data (I.ok.hd hc) h1 h2 h3 h4 h5) pins s σ H xs us Q I r h
end
section
variable {K : Frag} {ga : Nat → Addr}
theorem rds_at {ρ : List Addr} {H : Hp} {l : List D} {ys : List V} {i : Nat} {y : V} (r : RDs K ga ρ H l ys) (e : ys[i]? = some y) : ∃ d, l[i]? = some d ∧ RD K ga ρ H d y := by
  have hl := RDs.length r
  have hi : i < l.length := by rw [← hl]; exact (List.getElem?_eq_some_iff.mp e).1
  obtain ⟨v, h1, h2⟩ := RDs.get r (List.getElem?_eq_getElem hi)
  rw [h1] at e
  cases e
  exact ⟨_, List.getElem?_eq_getElem hi, h2⟩
theorem best_ok {best : PyData → List PyData → PyData} {lt : D → D → Bool} {lt' : PyData → PyData → Bool} (hb : ∀ p ps, best p ps = ps.foldl (fun a y => if lt' y a then y else a) p) (hlt : ∀ a b p q, pd a = some p → pd b = some q → lt a b = lt' p q)
    {ρ : List Addr} {H : Hp} {u : Vw} {v : V} {av : Av} {Q : VK} (hu : VwR K ga ρ H u v)
    (e : ((seqOf u).bind fun l => match l with | [] => none | d :: ds => if okB (d :: ds) then some (Av.d (bestD lt d ds)) else none) = some av) (hQ : ∀ v H', Gr H H' → Res K ga ρ H H' av v → Q v H') : rBest K best [v] H Q := by
  have main : ∀ (d : D) (ds : List D) (a : Addr) (ys : List V), v = .ref a → (SqL K H a ys ∨ SqT K H a ys) → RDs K ga ρ H (d :: ds) ys → (if okB (d :: ds) then some (Av.d (bestD lt d ds)) else none) = some av → rBest K best [v] H Q := by
    intro d ds a ys ev hs rd e
    split at e
    · rename_i ho
      cases e
      obtain ⟨ps, e1, hal, hc, hd⟩ := okB_of ho
      obtain ⟨p, qs, h1, h2, rfl⟩ := pds_cons e1
      refine ⟨a, ys, p, qs, by rw [ev], hs, pds_ok _ rd e1, hal, hc, hd, fun i y hy hi => hQ y H Gr.self ?_⟩
      have hb' : pd (bestD lt d ds) = some (best p qs) := by rw [hb]; exact best_pd hlt h1 h2
      obtain ⟨di, hdi, rdi⟩ := rds_at rd hy
      obtain ⟨pi, hpi, hdp⟩ := pds_get e1 hdi
      rw [hpi] at hi
      cases hi
      rw [pd_inj hb' hdp]
      exact rdi
    · cases e
  cases es : seqOf u with
  | none => simp [es] at e
  | some l =>
    rw [es] at e
    obtain ⟨a, ys, ev, hs, rd⟩ := seq_ok hu es
    cases l with
    | nil => simp at e
    | cons d ds => exact main d ds a ys ev hs rd e
theorem opok_min1 : OpOkC K ga (fun us => us.length = 1) .min (rBest K minD) := opok1C (h := fun ρ H u v av Q hu e hQ =>
  best_ok (lt := ltD) (lt' := dataLt) (fun p ps => rfl) (fun a b p q h1 h2 => by simp [ltD, h1, h2]) hu e hQ)
theorem opok_max1 : OpOkC K ga (fun us => us.length = 1) .max (rBest K maxD) := opok1C (h := fun ρ H u v av Q hu e hQ =>
  best_ok (lt := fun y a => ltD a y) (lt' := fun y a => dataLt a y) (fun p ps => rfl) (fun a b p q h1 h2 => by simp [ltD, h1, h2]) hu e hQ)
theorem opok_12 {o : O} {r r' : List V → Hp → VK → Prop} (h1 : OpOkC K ga (fun us => us.length = 1) o r) (h2 : OpOkC K ga (fun us => us.length = 2) o r') (h3 : ∀ a b c, op3 o a b c = none := by intros; rfl) : OpOk K ga o (fun xs H Q => r xs H Q ∨ r' xs H Q) := by
  intro ρ H us vs av Q _ hu e hQ
  match us, hu, e with
  | [], _, e => cases e
  | [a], hu, e => exact .inl (h1 ρ H [a] vs av Q rfl hu e hQ)
  | [a, b], hu, e => exact .inr (h2 ρ H [a, b] vs av Q rfl hu e hQ)
  | [a, b, c], hu, e => rw [show opf o [a, b, c] = op3 o a b c from rfl, h3] at e; cases e
  | _ :: _ :: _ :: _ :: _, _, e => cases e
theorem opok_min : OpOk K ga .min (fun xs H Q => rBest K minD xs H Q ∨ ∃ i j, xs = [.int i, .int j] ∧ Q (.int (if j < i then j else i)) H) := opok_12 opok_min1 opok_min2
theorem opok_max : OpOk K ga .max (fun xs H Q => rBest K maxD xs H Q ∨ ∃ i j, xs = [.int i, .int j] ∧ Q (.int (if j > i then j else i)) H) := opok_12 opok_max1 opok_max2
end
end Ev
end
section
set_option maxRecDepth 100000
set_option maxHeartbeats 2000000
/-! Ev5: expressions, one by one. -/
namespace Ev
open PySem L2

theorem pe_cv {X : Cx} {e : Expr} {t t' : TE} (h : PE X e t) (k : ∀ σ H Q, t' σ H Q → t σ H Q) : PE X e t' := ⟨fun pins s σ H Q I q => h.run pins s σ H Q I (k σ H Q q)⟩
theorem pt_cv {X : Cx} {e : Expr} {t t' : TT} (h : PT X e t) (k : ∀ σ H Q, t' σ H Q → t σ H Q) : PT X e t' := ⟨fun pins s σ H Q I q => h.run pins s σ H Q I (k σ H Q q)⟩
theorem pw_cv {X : Cx} {e : Expr} {t t' : TT} (h : PW X e t) (k : ∀ σ H Q, t' σ H Q → t σ H Q) : PW X e t' := ⟨fun wh pins s σ H Q I q => h.run wh pins s σ H Q I (k σ H Q q)⟩
theorem pa_cv {X : Cx} {e : List Expr} {t t' : TA} (h : PA X e t) (k : ∀ σ H Q, t' σ H Q → t σ H Q) : PA X e t' := ⟨fun p pins s σ H Q I q => h.run p pins s σ H Q I (k σ H Q q)⟩
theorem ps_cv {X : Cx} {e : Stmt} {t t' : TS} (h : PS X e t) (k : ∀ D σ H, t' D σ H → t D σ H) : PS X e t' := ⟨fun pins s σ H D I q => h.run pins s σ H D I (k D σ H q)⟩
theorem pss_cv {X : Cx} {e : List Stmt} {t t' : TS} (h : PSs X e t) (k : ∀ D σ H, t' D σ H → t D σ H) : PSs X e t' := ⟨fun pins s σ H D I q => h.run pins s σ H D I (k D σ H q)⟩
theorem pe_orr {X : Cx} {e : Expr} {t t' : TE} (h : PE X e t) (h' : PE X e t') : PE X e (fun σ H Q => t σ H Q ∨ t' σ H Q) := ⟨fun pins s σ H Q I q => q.elim (h.run pins s σ H Q I) (h'.run pins s σ H Q I)⟩
theorem pi_orr {X : Cx} {tg e : Expr} {t t' : TI} (h : PI X tg e t) (h' : PI X tg e t') : PI X tg e (fun σ H R => t σ H R ∨ t' σ H R) := ⟨fun pins s σ H R I q => q.elim (h.run pins s σ H R I) (h'.run pins s σ H R I)⟩
theorem pi_cv {X : Cx} {tg e : Expr} {t t' : TI} (h : PI X tg e t) (k : ∀ σ H R, t' σ H R → t σ H R) : PI X tg e t' := ⟨fun pins s σ H R I q => h.run pins s σ H R I (k σ H R q)⟩

section
variable {K : PySem.W.Frag} {ga : Nat → Addr} {fld : Nat → Str} {ρ ρ' : List Addr} {σd σd' : List W} {hd hd' : List C} {σ : List (Option V)} {H H' : Hp} {Wx : WX}

theorem tm1 {a : Av} {v : V} {b : Addr} {P : Prop} (h : (∃ c, a = .c c ∧ v = .ref b) → P) : Tm [a] [v] b → P := fun f => f.elim h fun z => z.elim
theorem ta_var {i : Nat} {cf : CF} {σ H Q} (h : TA1 K ga fld Wx (ev cf (.var i)) σ H Q) : tVar i σ H Q := by
  obtain ⟨ρ, σd, hd, s, h⟩ := h
  simp only [ev] at h
  cases e : σd[i]? with
  | none => simp [e] at h
  | some w =>
    cases w with
    | none => simp [e] at h
    | d x =>
      simp only [e] at h
      obtain ⟨v, h1, r⟩ := s.slotD i x e
      exact ⟨v, h1, h ρ H v s Step.refl ⟨r, fun b => tm1 fun ⟨c, z, _⟩ => nomatch z⟩⟩
    | c c =>
      simp only [e] at h
      obtain ⟨a, o, h1, h2, r⟩ := s.slotC i c e
      exact ⟨.ref a, h1, h ρ H (.ref a) s Step.refl ⟨h1, fun b => tm1 fun ⟨c, z, _⟩ => nomatch z⟩⟩
theorem ta_cst {x : D} {v : V} (hr : ∀ ρ H, RD K ga ρ H x v) {σ H Q} (h : TA1 K ga fld Wx (ret (.d x)) σ H Q) : tC v σ H Q := by
  obtain ⟨ρ, σd, hd, s, h⟩ := h
  exact h ρ H v s Step.refl ⟨hr ρ H, fun b => tm1 fun ⟨c, z, _⟩ => nomatch z⟩
/-- a test's answer -/
theorem isT_ok (s : SR K ga ρ σd hd σ H) {a : Av} {v : V} (r : AvR K ga ρ σd σ H a v) : isT a σd hd = .bad ∨ ∃ b, isT a σd hd = .ok b σd hd ∧ v = .bl b := by
  unfold isT bnd view
  cases e : vw σd hd a with
  | none => exact .inl rfl
  | some u =>
    simp only [R.bnd]
    have k := vw_ok s r e
    split
    · rename_i b
      exact .inr ⟨b, rfl, vb k⟩
    · exact .inl rfl
theorem tb_of {m : M Av} {σ H} {Q : Bool → Hp → Prop} (h : TB1 K ga fld Wx (bnd m isT) σ H Q) : TA1 K ga fld Wx m σ H fun x H1 => ∃ c, x = .bl c ∧ Q c H1 := by
  obtain ⟨ρ, σd, hd, s, h⟩ := h
  refine ⟨ρ, σd, hd, s, ?_⟩
  unfold bnd at h
  cases e1 : m σd hd with
  | bad => simp [e1, R.bnd] at h
  | ex c d σ1 h1 => simpa [e1, R.bnd] using h
  | ok a σ1 h1 =>
    simp only [e1, R.bnd] at h
    intro ρ1 H1 v s1 t1 r1
    rcases isT_ok s1 r1.1 with e2 | ⟨b, e2, rfl⟩
    · simp [e2] at h
    · simp only [e2] at h
      exact ⟨b, rfl, h ρ1 H1 b s1 t1 rfl⟩
/-- a test, then what follows -/
theorem tb_then {β : Type} {Rel : List Addr → List W → List (Option V) → Hp → List Addr → List W → Hp → Av → V → Prop} (hRel : ∀ {ρ0 σd0 H0 ρ σd H ρ' σd' H' a v}, Step ρ0 σd0 σ H0 ρ σd σ H → Rel ρ σd σ H ρ' σd' H' a v → Rel ρ0 σd0 σ H0 ρ' σd' H' a v)
    {mt : M Bool} {f : Bool → M Av} {Q : V → Hp → Prop} (h : TG K ga fld Rel Wx (bnd mt f) σ H Q) : TB1 K ga fld Wx mt σ H fun c H1 => TG K ga fld Rel Wx (f c) σ H1 Q := by
  obtain ⟨ρ, σd, hd, s, h⟩ := h
  refine ⟨ρ, σd, hd, s, ?_⟩
  unfold bnd at h
  cases e1 : mt σd hd with
  | bad => simp [e1, R.bnd] at h
  | ex c d σ1 h1 => simpa [e1, R.bnd] using h
  | ok b σ1 h1 =>
    simp only [e1, R.bnd] at h
    intro ρ1 H1 c s1 t1 r1
    have r1 : b = c := r1
    subst r1
    refine ⟨ρ1, σ1, h1, s1, ?_⟩
    cases e2 : f b σ1 h1 with
    | bad => simp [e2] at h
    | ex c d σ2 h2 =>
      simp only [e2] at h
      exact fun ρ2 H2 dx v s2 t2 r2 e => h ρ2 H2 dx v s2 (t1.trans t2) r2 e
    | ok a σ2 h2 =>
      simp only [e2] at h
      exact fun ρ2 H2 v s2 t2 r2 => h ρ2 H2 v s2 (t1.trans t2) (hRel t1 r2)
theorem Step.nw {ρ0 σd0 H0} (t : Step ρ0 σd0 σ H0 ρ σd σ H) {b : Addr} (h : Fp ρ σd σ b ∨ H b = none) : Fp ρ0 σd0 σ b ∨ H0 b = none := by
  rcases h with k | k
  · exact t.new b k
  · by_cases hf : Fp ρ0 σd0 σ b
    · exact .inl hf
    · cases e : H0 b with
      | none => exact .inr rfl
      | some o => exact ((t.keep b o e hf).ne k).elim
theorem relA_back {ρ0 σd0 H0 ρ σd H ρ' σd' H' a v} (t : Step ρ0 σd0 σ H0 ρ σd σ H) (r : RelA K ga ρ σd σ H ρ' σd' H' a v) : RelA K ga ρ0 σd0 σ H0 ρ' σd' H' a v := ⟨r.1, fun b f => t.nw (r.2 b f)⟩
theorem relL_back {ρ0 σd0 H0 ρ σd H ρ' σd' H' a v} (t : Step ρ0 σd0 σ H0 ρ σd σ H) (r : RelL K ga ρ σd σ H ρ' σd' H' a v) : RelL K ga ρ0 σd0 σ H0 ρ' σd' H' a v := ⟨r.1, fun b f => t.nw (r.2 b f)⟩
theorem t_then {mt : M Bool} {f : Bool → M Av} {Q : V → Hp → Prop} (h : TA1 K ga fld Wx (bnd mt f) σ H Q) : TB1 K ga fld Wx mt σ H fun c H1 => TA1 K ga fld Wx (f c) σ H1 Q := tb_then (β := Unit) (fun t r => relA_back t r) h
theorem tb_bool {b : Bool} {σ H} {Q : V → Hp → Prop} (h : TA1 K ga fld Wx (ret (.d (.bl b))) σ H Q) : Q (.bl b) H := ta_cst (v := .bl b) (fun ρ H => by simp [RD]) h
theorem tg_mono {α β : Type} {Rel : List Addr → List W → List (Option V) → Hp → List Addr → List W → Hp → α → β → Prop} {m : M α} {Q Q' : β → Hp → Prop} (h : TG K ga fld Rel Wx m σ H Q) (k : ∀ b H, Q b H → Q' b H) : TG K ga fld Rel Wx m σ H Q' := by
  obtain ⟨ρ, σd, hd, s, h⟩ := h
  refine ⟨ρ, σd, hd, s, ?_⟩
  cases e : m σd hd with
  | bad => simp [e] at h
  | ex c d σ1 h1 => simpa [e] using h
  | ok a σ1 h1 =>
    simp only [e] at h
    exact fun ρ' H' b s' t' r' => k b H' (h ρ' H' b s' t' r')
theorem ta_and {ma mb : M Av} {σ H Q} (h : TA1 K ga fld Wx (bnd (bnd ma isT) fun c => if c then mb else ret (.d (.bl false))) σ H Q) : tAndV (TA1 K ga fld Wx ma) (TA1 K ga fld Wx mb) σ H Q := by
  refine tg_mono (tb_of (t_then h)) fun x H1 ⟨c, e, q⟩ => ⟨c, e, ?_⟩
  cases c with
  | true => simpa using q
  | false => simp only [Bool.false_eq_true, if_false] at q ⊢; exact tb_bool q
theorem ta_or {ma mb : M Av} {σ H Q} (h : TA1 K ga fld Wx (bnd (bnd ma isT) fun c => if c then ret (.d (.bl true)) else mb) σ H Q) : tOrV (TA1 K ga fld Wx ma) (TA1 K ga fld Wx mb) σ H Q := by
  refine tg_mono (tb_of (t_then h)) fun x H1 ⟨c, e, q⟩ => ⟨c, e, ?_⟩
  cases c with
  | true => simp only [if_true] at q ⊢; exact tb_bool q
  | false => simpa using q
theorem ta_not {ma : M Av} {σ H Q} (h : TA1 K ga fld Wx (bnd (bnd ma isT) fun c => ret (.d (.bl (!c)))) σ H Q) : tNotV (TA1 K ga fld Wx ma) σ H Q :=
  tg_mono (tb_of (t_then h)) fun x H1 ⟨c, e, q⟩ => ⟨c, e, tb_bool q⟩
theorem ta_ite {mc : M Bool} {ma mb : M Av} {σ H Q} (h : TA1 K ga fld Wx (bnd mc fun k => if k then ma else mb) σ H Q) : tIf (TB1 K ga fld Wx mc) (TA1 K ga fld Wx ma) (TA1 K ga fld Wx mb) σ H Q := by
  refine tg_mono (t_then h) fun c H1 q => ?_
  cases c with
  | true => simpa using q
  | false => simpa using q
/-! tests -/
theorem isT_ret (b : Bool) : bnd (ret (Av.d (.bl b))) isT = ret b := rfl
theorem bnd_assoc {α β γ : Type} (m : M α) (f : α → M β) (g : β → M γ) : bnd (bnd m f) g = bnd m fun a => bnd (f a) g := by
  funext σ h
  unfold bnd
  cases m σ h <;> rfl
theorem bnd_ite {α β : Type} (c : Bool) (m n : M α) (f : α → M β) : bnd (if c = true then m else n) f = if c = true then bnd m f else bnd n f := by cases c <;> rfl
theorem tbb_then {mt : M Bool} {f : Bool → M Bool} {Q : Bool → Hp → Prop} (h : TB1 K ga fld Wx (bnd mt f) σ H Q) : TB1 K ga fld Wx mt σ H fun c H1 => TB1 K ga fld Wx (f c) σ H1 Q := by
  obtain ⟨ρ, σd, hd, s, h⟩ := h
  refine ⟨ρ, σd, hd, s, ?_⟩
  unfold bnd at h
  cases e1 : mt σd hd with
  | bad => simp [e1, R.bnd] at h
  | ex c d σ1 h1 => simpa [e1, R.bnd] using h
  | ok b σ1 h1 =>
    simp only [e1, R.bnd] at h
    intro ρ1 H1 c s1 t1 r1
    have r1 : b = c := r1
    subst r1
    refine ⟨ρ1, σ1, h1, s1, ?_⟩
    cases e2 : f b σ1 h1 with
    | bad => simp [e2] at h
    | ex c d σ2 h2 =>
      simp only [e2] at h
      exact fun ρ2 H2 dx v s2 t2 r2 e => h ρ2 H2 dx v s2 (t1.trans t2) r2 e
    | ok a σ2 h2 =>
      simp only [e2] at h
      exact fun ρ2 H2 v s2 t2 r2 => h ρ2 H2 v s2 (t1.trans t2) r2
theorem tbb_ret {b : Bool} {Q : Bool → Hp → Prop} (h : TB1 K ga fld Wx (ret b) σ H Q) : Q b H := by
  obtain ⟨ρ, σd, hd, s, h⟩ := h
  exact h ρ H b s Step.refl rfl
theorem tb_and {ma mb : M Av} {Q : Bool → Hp → Prop} (h : TB1 K ga fld Wx (bnd (bnd (bnd ma isT) fun c => if c then mb else ret (.d (.bl false))) isT) σ H Q) : tAnd (TB1 K ga fld Wx (bnd ma isT)) (TB1 K ga fld Wx (bnd mb isT)) σ H Q := by
  rw [bnd_assoc] at h
  refine tg_mono (tbb_then h) fun c H1 q => ?_
  cases c with
  | true => simpa using q
  | false => simp only [Bool.false_eq_true, if_false, isT_ret] at q ⊢; exact tbb_ret q
theorem tb_or {ma mb : M Av} {Q : Bool → Hp → Prop} (h : TB1 K ga fld Wx (bnd (bnd (bnd ma isT) fun c => if c then ret (.d (.bl true)) else mb) isT) σ H Q) : tOr (TB1 K ga fld Wx (bnd ma isT)) (TB1 K ga fld Wx (bnd mb isT)) σ H Q := by
  rw [bnd_assoc] at h
  refine tg_mono (tbb_then h) fun c H1 q => ?_
  cases c with
  | true => simp only [if_true, isT_ret] at q ⊢; exact tbb_ret q
  | false => simpa using q
theorem tb_not {ma : M Av} {Q : Bool → Hp → Prop} (h : TB1 K ga fld Wx (bnd (bnd (bnd ma isT) fun c => ret (.d (.bl (!c)))) isT) σ H Q) : tNot (TB1 K ga fld Wx (bnd ma isT)) σ H Q := by
  rw [bnd_assoc] at h
  exact tg_mono (tbb_then h) fun c H1 q => tbb_ret (by simpa [isT_ret] using q)

/-! displays -/
theorem ta_disp {ms : M (List Av)} {f : List D → Av} {σ H} {Q : VK} (h : TA1 K ga fld Wx (bnd ms fun as => bnd (toDs as) fun ds => ret (f ds)) σ H Q) :
    TL1 K ga fld Wx ms σ H fun vs H1 => ∀ v H', Gr H1 H' → (∀ ρ ds, RDs K ga ρ H1 ds vs → Res K ga ρ H1 H' (f ds) v) → Q v H' := by
  obtain ⟨ρ, σd, hd, s, h⟩ := h
  refine ⟨ρ, σd, hd, s, ?_⟩
  unfold bnd at h
  cases e1 : ms σd hd with
  | bad => simp [e1, R.bnd] at h
  | ex c d σ1 h1 => simpa [e1, R.bnd] using h
  | ok as σ1 h1 =>
    simp only [e1, R.bnd] at h
    intro ρ1 H1 vs s1 t1 r1 v H' g hq
    cases e2 : toDs as σ1 h1 with
    | bad => simp [e2, R.bnd] at h
    | ex c d σ2 h2 => exact absurd e2 toDs_no
    | ok ds σ2 h2 =>
      simp only [e2, R.bnd, ret] at h
      obtain ⟨ρ2, s2, p2, r2, f2⟩ := toDs_ok s1 r1.1 e2
      have t2 : Step ρ σd σ H ρ2 σ2 σ H1 := ghostStep p2 f2 t1 fun b n => r1.2 b n
      obtain ⟨s3, t3, a3, n3⟩ := res_ok s2 g (hq ρ2 ds r2)
      exact h ρ2 H' v s3 (t2.trans t3) ⟨a3, fun b f => t2.nw (.inr (n3 b f))⟩
theorem ta_tup {ms : M (List Av)} {σ H} {Q : VK} (hz : ∀ vs : List V, (∃ ρ σd hd as σd' hd' ρ' H', SR K ga ρ σd hd σ H ∧ ms σd hd = .ok as σd' hd' ∧ AvsR K ga ρ' σd' σ H' as vs) → vs.length ≤ sizeLine)
    (h : TA1 K ga fld Wx (bnd ms fun as => bnd (toDs as) fun ds => ret (.d (.tup ds))) σ H Q) : tTup (TL1 K ga fld Wx ms) σ H Q := by
  have h' := ta_disp (f := fun ds => .d (.tup ds)) h
  obtain ⟨ρ, σd, hd, s, h'⟩ := h'
  refine ⟨ρ, σd, hd, s, ?_⟩
  cases e : ms σd hd with
  | bad => simp [e] at h'
  | ex c d σ1 h1 => simpa [e] using h'
  | ok as σ1 h1 =>
    simp only [e] at h'
    exact fun ρ1 H1 vs s1 t1 r1 => ⟨hz vs ⟨ρ, σd, hd, as, σ1, h1, ρ1, H1, s, e, r1.1⟩, fun p hp => h' ρ1 H1 vs s1 t1 r1 _ _ (gr_new hp) fun ρ ds r => res_tup hp r (by rw [← r.length, szl]; exact hz vs ⟨_, _, _, as, σ1, h1, ρ1, H1, s, e, r1.1⟩)⟩
theorem ta_lst {ms : M (List Av)} {σ H} {Q : VK} (hz : ∀ vs : List V, (∃ ρ σd hd as σd' hd' ρ' H', SR K ga ρ σd hd σ H ∧ ms σd hd = .ok as σd' hd' ∧ AvsR K ga ρ' σd' σ H' as vs) → vs.length ≤ sizeLine)
    (h : TA1 K ga fld Wx (bnd ms fun as => bnd (toDs as) fun ds => ret (.c (.lst ds))) σ H Q) : tLst (TL1 K ga fld Wx ms) σ H Q := by
  have h' := ta_disp (f := fun ds => .c (.lst ds)) h
  obtain ⟨ρ, σd, hd, s, h'⟩ := h'
  refine ⟨ρ, σd, hd, s, ?_⟩
  cases e : ms σd hd with
  | bad => simp [e] at h'
  | ex c d σ1 h1 => simpa [e] using h'
  | ok as σ1 h1 =>
    simp only [e] at h'
    exact fun ρ1 H1 vs s1 t1 r1 => ⟨hz vs ⟨ρ, σd, hd, as, σ1, h1, ρ1, H1, s, e, r1.1⟩, fun p hp => h' ρ1 H1 vs s1 t1 r1 _ _ (gr_new hp) fun ρ ds r => res_lst hp r (by rw [← r.length, szl]; exact hz vs ⟨_, _, _, as, σ1, h1, ρ1, H1, s, e, r1.1⟩)⟩
/-- how many values a row has -/
def exsLen : Exs → Nat
  | .nil => 0
  | .cons _ es => exsLen es + 1
theorem evs_len {cf : CF} : ∀ {es : Exs} {σd hd as σd' hd'}, evs cf es σd hd = .ok as σd' hd' → as.length = exsLen es
  | .nil, _, _, _, _, _, e => by simp only [evs, ret, R.ok.injEq] at e; obtain ⟨rfl, _, _⟩ := e; rfl
  | .cons x es, σd, hd, as, _, _, e => by
    simp only [evs, bnd] at e
    cases e1 : ev cf x σd hd with
    | bad => simp [e1, R.bnd] at e
    | ex c d σ1 h1 => simp [e1, R.bnd] at e
    | ok a σ1 h1 =>
      simp only [e1, R.bnd] at e
      cases e2 : evs cf es σ1 h1 with
      | bad => simp [e2, bnd, R.bnd] at e
      | ex c d σ2 h2 => simp [e2, bnd, R.bnd] at e
      | ok bs σ2 h2 =>
        simp only [e2, bnd, R.bnd, ret, R.ok.injEq] at e
        obtain ⟨rfl, _, _⟩ := e
        simp [exsLen, evs_len e2]

/-! ### a generic end: a row of values, then a step of the evaluator -/
/-- from where a row of values was evaluated: the state, the row, how it came; N: what may be written besides (the row's new objects) -/
theorem step_over {ρ0 σd0 H0 ρ σd H ρ' σd' H'} {σ' : List (Option V)} {N : Addr → Prop} (t : Step ρ0 σd0 σ H0 ρ σd σ H) (hN : ∀ b, N b → Fp ρ0 σd0 σ b ∨ H0 b = none) (pre : ∃ u, ρ' = ρ ++ u)
    (keep : ∀ a o, H a = some o → ¬ Fp ρ σd σ a → ¬ N a → Kp H' a o) (new : ∀ a, Fp ρ' σd' σ' a → Fp ρ σd σ a ∨ N a ∨ H a = none) : Step ρ0 σd0 σ H0 ρ' σd' σ' H' := by
  obtain ⟨⟨u, rfl⟩, k, n⟩ := t
  obtain ⟨w, rfl⟩ := pre
  have nf : ∀ a o, H0 a = some o → ¬ Fp ρ0 σd0 σ a → ¬ Fp (ρ0 ++ u) σd σ a ∧ ¬ N a := fun a o e hf =>
    ⟨fun f => (n a f).elim hf fun z => (by rw [e] at z; cases z), fun f => (hN a f).elim hf fun z => (by rw [e] at z; cases z)⟩
  refine ⟨⟨u ++ w, by simp⟩, fun a o e hf => (k a o e hf).trans fun u hu => keep a u hu (nf a o e hf).1 (nf a o e hf).2, fun a f => ?_⟩
  rcases new a f with z | z | z
  · exact n a z
  · exact hN a z
  · by_cases hf : Fp ρ0 σd0 σ a
    · exact .inl hf
    · cases e : H0 a with
      | none => exact .inr rfl
      | some o => exact ((k a o e hf).ne z).elim
/-- the frame of T for what follows a row -/
theorem tl_then {ms : M (List Av)} {f : List Av → M Av} {σ H} {Q : VK} {Rr : List V → Hp → Prop} (h : TA1 K ga fld Wx (bnd ms f) σ H Q)
    (k : ∀ {ρ0 σd0 H0 ρ σd hd H as vs}, SR K ga ρ σd hd σ H → Step ρ0 σd0 σ H0 ρ σd σ H → AvsR K ga ρ σd σ H as vs → (∀ b, Tm as vs b → Fp ρ0 σd0 σ b ∨ H0 b = none) →
      (match f as σd hd with
        | .ok a σd' hd' => ∀ ρ' H' b, SR K ga ρ' σd' hd' σ H' → Step ρ0 σd0 σ H0 ρ' σd' σ H' → RelA K ga ρ0 σd0 σ H0 ρ' σd' H' a b → Q b H'
        | .ex c d σd' hd' => ∀ ρ' H' (dx : Addr) v, SR K ga ρ' σd' hd' σ H' → Step ρ0 σd0 σ H0 ρ' σd' σ H' → RD K ga ρ' H' d v → H' dx = some (.xd [(fld c, v)]) → Wx (.ref (ga c)) (some dx) σ H'
        | .bad => False) → Rr vs H) : TL1 K ga fld Wx ms σ H Rr := by
  obtain ⟨ρ, σd, hd, s, h⟩ := h
  refine ⟨ρ, σd, hd, s, ?_⟩
  unfold bnd at h
  cases e1 : ms σd hd with
  | bad => simp [e1, R.bnd] at h
  | ex c d σ1 h1 => simpa [e1, R.bnd] using h
  | ok as σ1 h1 =>
    simp only [e1, R.bnd] at h
    intro ρ1 H1 vs s1 t1 r1
    refine k s1 t1 r1.1 r1.2 ?_
    cases e2 : f as σ1 h1 with
    | bad => simp [e2] at h
    | ex c d σ2 h2 => simpa [e2] using h
    | ok a σ2 h2 => simpa [e2] using h

/-! ### arguments -/
def wAv : W → Av
  | .none => .s 0
  | .d x => .d x
  | .c c => .c c
theorem toArgs_no : ∀ {as : List Av} {σd : List W} {hd : List C} {c : Nat} {d : D} {σd' : List W} {hd' : List C}, toArgs as σd hd ≠ .ex c d σd' hd'
  | [], _, _, _, _, _, _, e => by simp [toArgs, ret] at e
  | a :: as, σd, hd, c, d, _, _, e => by
    have one : ∀ {c d σ' h'}, toArg a σd hd ≠ .ex c d σ' h' := fun {c d σ' h'} e => by
      cases a with
      | d x => simp [toArg, ret] at e
      | c x => simp [toArg, ret] at e
      | s i =>
        simp only [toArg, bnd] at e
        cases e1 : toD (.s i) σd hd with
        | bad => simp [e1, R.bnd] at e
        | ex => exact toD_no e1
        | ok => simp [e1, R.bnd, ret] at e
    simp only [toArgs, bnd] at e
    cases e1 : toArg a σd hd with
    | bad => simp [e1, R.bnd] at e
    | ex c d σ1 h1 => exact one e1
    | ok x σ1 h1 =>
      simp only [e1, R.bnd] at e
      cases e2 : toArgs as σ1 h1 with
      | bad => simp [e2, bnd, R.bnd] at e
      | ex c' d' σ2 h2 =>
        simp only [e2, bnd, R.bnd, R.ex.injEq] at e
        obtain ⟨rfl, rfl, rfl, rfl⟩ := e
        exact toArgs_no e2
      | ok ys σ2 h2 => simp [e2, bnd, R.bnd, ret] at e
/-- the arguments of a call: new objects stay new -/
theorem toArgs_ok : ∀ {as : List Av} {vs : List V} {ρ : List Addr} {σd : List W} {hd : List C} {ws : List W} {σd' : List W} {hd' : List C}, SR K ga ρ σd hd σ H → AvsR K ga ρ σd σ H as vs → toArgs as σd hd = .ok ws σd' hd' →
    ∃ ρ', SR K ga ρ' σd' hd' σ H ∧ (∃ t, ρ' = ρ ++ t) ∧ AvsR K ga ρ' σd' σ H (ws.map wAv) vs ∧ (∀ b, Fp ρ' σd' σ b → Fp ρ σd σ b) ∧ (∀ b, Tm (ws.map wAv) vs b ↔ Tm as vs b) ∧ ∀ w ∈ ws, w ≠ .none
  | [], vs, ρ, σd, hd, ws, _, _, s, r, e => by
    simp only [toArgs, ret, R.ok.injEq] at e
    obtain ⟨rfl, rfl, rfl⟩ := e
    exact ⟨ρ, s, ⟨[], by simp⟩, r, fun b f => f, fun b => Iff.rfl, fun w h => by cases h⟩
  | a :: as, vs, ρ, σd, hd, ws, _, _, s, ⟨v, us, ev, h, q, d⟩, e => by
    subst ev
    simp only [toArgs, bnd] at e
    cases e1 : toArg a σd hd with
    | bad => simp [e1, R.bnd] at e
    | ex c d σ1 h1 => simp [e1, R.bnd] at e
    | ok w σ1 h1 =>
      simp only [e1, R.bnd] at e
      cases e2 : toArgs as σ1 h1 with
      | bad => simp [e2, bnd, R.bnd] at e
      | ex c d σ2 h2 => simp [e2, bnd, R.bnd] at e
      | ok ys σ2 h2 =>
        simp only [e2, bnd, R.bnd, ret, R.ok.injEq] at e
        obtain ⟨rfl, rfl, rfl⟩ := e
        have one : ∃ ρ1, SR K ga ρ1 σ1 h1 σ H ∧ (∃ t, ρ1 = ρ ++ t) ∧ AvR K ga ρ1 σ1 σ H (wAv w) v ∧ (∀ b, Fp ρ1 σ1 σ b → Fp ρ σd σ b) ∧ (∀ b, (∃ c, wAv w = .c c ∧ v = .ref b) ↔ (∃ c, a = .c c ∧ v = .ref b)) ∧ w ≠ .none := by
          cases a with
          | d x =>
            simp only [toArg, ret, R.ok.injEq] at e1
            obtain ⟨rfl, rfl, rfl⟩ := e1
            exact ⟨ρ, s, ⟨[], by simp⟩, h, fun b f => f, fun b => by simp [wAv], by simp⟩
          | c x =>
            simp only [toArg, ret, R.ok.injEq] at e1
            obtain ⟨rfl, rfl, rfl⟩ := e1
            exact ⟨ρ, s, ⟨[], by simp⟩, h, fun b f => f, fun b => by simp [wAv], by simp⟩
          | s i =>
            simp only [toArg, bnd] at e1
            cases e3 : toD (.s i) σd hd with
            | bad => simp [e3, R.bnd] at e1
            | ex c d σ1 h1 => exact absurd e3 toD_no
            | ok x σ3 h3 =>
              simp only [e3, R.bnd, ret, R.ok.injEq] at e1
              obtain ⟨rfl, rfl, rfl⟩ := e1
              obtain ⟨ρ1, s1, p1, r1, f1⟩ := toD_ok s h e3
              refine ⟨ρ1, s1, p1, r1, fun b f => (f1 b f).elim id fun z => ?_, fun b => by simp [wAv], by simp⟩
              rcases z with ⟨c, z, _⟩ | z
              · cases z
              · exact z.elim
        obtain ⟨ρ1, s1, p1, r1, f1, n1, w1⟩ := one
        have q1 : AvsR K ga ρ1 σ1 σ H as us := AvsR.ghost p1 (fun b f => .inl (f1 b f)) q
        obtain ⟨ρ2, s2, p2, r2, f2, n2, w2⟩ := toArgs_ok s1 q1 e2
        have st : AvR K ga ρ2 σ2 σ H (wAv w) v := by
          have z : AvsR K ga ρ1 σ1 σ H [wAv w] [v] := ⟨v, [], rfl, r1, rfl, fun _ _ f => f.elim⟩
          obtain ⟨v', _, e', r', _⟩ := AvsR.ghost p2 (fun b f => .inl (f2 b f)) z
          cases e'
          exact r'
        refine ⟨ρ2, s2, ?_, ⟨v, us, rfl, st, r2, fun b hb f => d b ((n1 b).mp hb) ((n2 b).mp f)⟩, fun b f => f1 b (f2 b f), fun b => ?_, fun w' hw => ?_⟩
        · obtain ⟨t, rfl⟩ := p1
          obtain ⟨u, rfl⟩ := p2
          exact ⟨t ++ u, by simp⟩
        · show (_ ∨ _) ↔ (_ ∨ _)
          rw [n1 b, n2 b]
        · rcases List.mem_cons.mp hw with rfl | hw
          · exact w1
          · exact w2 w' hw
end
end Ev
end
section
set_option maxRecDepth 100000
set_option maxHeartbeats 2000000
/-! Ev6: calls, changing methods, comprehensions, loops. -/
namespace Ev
open PySem L2

section
variable {K : PySem.W.Frag} {ga : Nat → Addr} {fld : Nat → Str} {ρ ρ' : List Addr} {σd σd' : List W} {hd hd' : List C} {σ : List (Option V)} {H H' : Hp} {Wx : WX}
theorem fp0 {a : Addr} : Fp ρ [] ([] : List (Option V)) a ↔ a ∈ ρ := ⟨fun f => f.elim id fun ⟨i, c, e, _⟩ => by simp at e, fun f => .inl f⟩
/-- the heap's part of a state -/
theorem SR.bare (s : SR K ga ρ σd hd σ H) : SR K ga ρ [] hd [] H where
  len := rfl
  slotD := fun i x e => by simp at e
  slotC := fun i c e => by simp at e
  inj := fun i j c c' a e => by simp at e
  off := fun i c a e => by simp at e
  nd := s.nd
  lenH := s.lenH
  cell := s.cell
  tin := s.tin
theorem AvsR.bare : ∀ {ws : List W} {vs : List V}, (∀ w ∈ ws, w ≠ .none) → AvsR K ga ρ σd σ H (ws.map wAv) vs → AvsR K ga ρ [] [] H (ws.map wAv) vs
  | [], _, _, r => r
  | w :: ws, _, hw, ⟨v, us, e, h, q, d⟩ => by
    refine ⟨v, us, e, ?_, AvsR.bare (fun w h => hw w (List.mem_cons_of_mem _ h)) q, d⟩
    cases w with
    | none => exact absurd rfl (hw .none List.mem_cons_self)
    | d x => exact h
    | c c =>
      obtain ⟨a, o, e, h1, h2, nf⟩ := h
      exact ⟨a, o, e, h1, h2, fun f => nf (.inl (fp0.mp f))⟩
/-- what a def promises: it does what the evaluator does -/
def spOf (K : PySem.W.Frag) (ga : Nat → Addr) (fld : Nat → Str) (cf : CF) (np k : Nat) : Sp := fun vs H Q E => vs.length = np ∧ ∃ ρ ws hd, SR K ga ρ [] hd [] H ∧ AvsR K ga ρ [] [] H (ws.map wAv) vs ∧ (∀ w ∈ ws, w ≠ W.none) ∧ match cf k ws hd with
  | .ok w hd' => w ≠ .none ∧ ∀ ρ' H' v, SR K ga ρ' [] hd' [] H' → (∃ u, ρ' = ρ ++ u) → (∀ a o, H a = some o → a ∉ ρ → ¬ Tm (ws.map wAv) vs a → Kp H' a o) →
      (∀ a, a ∈ ρ' ∨ Tm [wAv w] [v] a → a ∈ ρ ∨ Tm (ws.map wAv) vs a ∨ H a = none) → AvR K ga ρ' [] [] H' (wAv w) v → Q v H'
  | .ex c d hd' => ∀ ρ' H' (dx : Addr) v, SR K ga ρ' [] hd' [] H' → (∃ u, ρ' = ρ ++ u) → (∀ a o, H a = some o → a ∉ ρ → ¬ Tm (ws.map wAv) vs a → Kp H' a o) →
      (∀ a, a ∈ ρ' → a ∈ ρ ∨ Tm (ws.map wAv) vs a ∨ H a = none) → RD K ga ρ' H' d v → H' dx = some (.xd [(fld c, v)]) → E (.ref (ga c)) (some dx) H'
  | .bad => False
/-- a caller's state behind a call -/
theorem SR.called {N : Addr → Prop} (s : SR K ga ρ σd hd σ H) (s' : SR K ga ρ' [] hd' [] H') (pre : ∃ u, ρ' = ρ ++ u) (keep : ∀ a o, H a = some o → a ∉ ρ → ¬ N a → Kp H' a o)
    (new : ∀ a, a ∈ ρ' → a ∈ ρ ∨ N a ∨ H a = none) (hN : ∀ a, N a → ¬ Fp ρ σd σ a ∧ ∃ o, H a = some o ∧ MutO o) : SR K ga ρ' σd hd' σ H' := by
  have st : Stay H H' := fun a o e m => (keep a o e (fun hm => by
    obtain ⟨o', e', m'⟩ := s.fp (.inl hm)
    rw [e] at e'; cases e'; exact m m') fun n => by
    obtain ⟨_, o', e', m'⟩ := hN a n
    rw [e] at e'; cases e'; exact m m').of fun ps z => by subst z; exact m trivial
  refine ⟨s.len, fun i x e => ?_, fun i c e => ?_, s.inj, fun i c a e1 e2 hm => ?_, s'.nd, s'.lenH, s'.cell, s'.tin⟩
  · obtain ⟨v, h, r⟩ := s.slotD i x e
    exact ⟨v, h, RD.mono pre st x r⟩
  · obtain ⟨a, o, h1, h2, r⟩ := s.slotC i c e
    exact ⟨a, o, h1, (keep a o h2 (s.off i c a e h1) fun n => (hN a n).1 (.inr ⟨i, c, e, h1⟩)).of r.nt, r.mono pre st⟩
  · rcases new a hm with z | z | z
    · exact s.off i c a e1 e2 z
    · exact (hN a z).1 (.inr ⟨i, c, e1, e2⟩)
    · obtain ⟨a', o, h1, h2, r⟩ := s.slotC i c e1
      rw [e2] at h1; cases h1
      rw [z] at h2; cases h2
theorem AvsR.tmut : ∀ {as : List Av} {vs : List V} {b : Addr}, AvsR K ga ρ σd σ H as vs → Tm as vs b → ¬ Fp ρ σd σ b ∧ ∃ o, H b = some o ∧ MutO o
  | [], _, _, _, f => f.elim
  | a :: as, _, b, ⟨v, ws, e, h, q, _⟩, f => by
    subst e
    rcases f with ⟨c, rfl, rfl⟩ | f
    · obtain ⟨x, o, e, h1, r, nf⟩ := h
      cases e
      exact ⟨nf, o, h1, r.mut⟩
    · exact q.tmut f
/-- behind the arguments: the call -/
theorem call_ok {cf : CF} {np k : Nat} {ws : List W} {vs : List V} {σ : List (Option V)} {H H0 : Hp} {ρ0 : List Addr} {σd0 : List W} {Q : VK} (s : SR K ga ρ σd hd σ H) (t : Step ρ0 σd0 σ H0 ρ σd σ H) (r : AvsR K ga ρ σd σ H (ws.map wAv) vs) (hw : ∀ w ∈ ws, w ≠ .none)
    (hn : ∀ b, Tm (ws.map wAv) vs b → Fp ρ0 σd0 σ b ∨ H0 b = none) (hl : vs.length = np)
    (h : match callK cf k ws σd hd with
      | .ok a σd' hd' => ∀ ρ' H' b, SR K ga ρ' σd' hd' σ H' → Step ρ0 σd0 σ H0 ρ' σd' σ H' → RelA K ga ρ0 σd0 σ H0 ρ' σd' H' a b → Q b H'
      | .ex c d σd' hd' => ∀ ρ' H' (dx : Addr) v, SR K ga ρ' σd' hd' σ H' → Step ρ0 σd0 σ H0 ρ' σd' σ H' → RD K ga ρ' H' d v → H' dx = some (.xd [(fld c, v)]) → Wx (.ref (ga c)) (some dx) σ H'
      | .bad => False) : spOf K ga fld cf np k vs H Q (WE Wx σ) := by
  refine ⟨hl, ρ, ws, hd, s.bare, r.bare hw, hw, ?_⟩
  unfold callK at h
  cases e : cf k ws hd with
  | bad => simp [e, RC.toR] at h
  | ex c d h1 =>
    simp only [e, RC.toR] at h
    intro ρ' H' dx v s' pre keep new rd xd
    have s2 := s.called s' pre keep new fun a n => r.tmut n
    exact h ρ' H' dx v s2 (step_over t hn pre (fun a o e nf nn => keep a o e (fun hm => nf (.inl hm)) nn) fun a f => f.elim (fun hm => (new a hm).elim (fun z => .inl (.inl z)) .inr) fun z => .inl (.inr z)) rd xd
  | ok w h1 =>
    simp only [e, RC.toR] at h
    have hw' : w ≠ .none := fun z => by subst z; simp at h
    refine ⟨hw', ?_⟩
    intro ρ' H' v s' pre keep new av
    have s2 := s.called s' pre keep (fun a hm => new a (.inl hm)) fun a n => r.tmut n
    have t2 : Step ρ0 σd0 σ H0 ρ' σd σ H' := step_over t hn pre (fun a o e nf nn => keep a o e (fun hm => nf (.inl hm)) nn) fun a f => f.elim (fun hm => (new a (.inl hm)).elim (fun z => .inl (.inl z)) .inr) fun z => .inl (.inr z)
    have nw : ∀ b, Tm [wAv w] [v] b → Fp ρ0 σd0 σ b ∨ H0 b = none := fun b f => by
      rcases new b (.inr f) with z | z | z
      · exact t.new b (.inl z)
      · exact hn b z
      · exact t.nw (.inr z)
    cases w with
    | none => exact absurd rfl hw'
    | d x => exact h ρ' H' v s2 t2 ⟨av, nw⟩
    | c c =>
      obtain ⟨p, o, rfl, h2, h3, nf⟩ := av
      refine h ρ' H' (.ref p) s2 t2 ⟨⟨p, o, rfl, h2, h3, fun f => ?_⟩, nw⟩
      rcases f with f | ⟨i, c', e1, e2⟩
      · exact nf (.inl f)
      · rcases new p (.inr (.inl ⟨c, rfl, rfl⟩)) with z | z | z
        · exact s.off i c' p e1 e2 z
        · exact (r.tmut z).1 (.inr ⟨i, c', e1, e2⟩)
        · obtain ⟨p', o', h4, h5, _⟩ := s.slotC i c' e1
          rw [e2] at h4; cases h4
          rw [z] at h5; cases h5
theorem ta_call {cf : CF} {np k : Nat} {ms : M (List Av)} {σ H} {Q : VK} (hl : ∀ {as : List Av} {σd hd σd' hd'}, ms σd hd = .ok as σd' hd' → as.length = np)
    (h : TA1 K ga fld Wx (bnd ms fun as => bnd (toArgs as) fun ws => callK cf k ws) σ H Q) : tCallS (spOf K ga fld cf np k) (WE Wx) (TL1 K ga fld Wx ms) σ H Q := by
  obtain ⟨ρ, σd, hd, s, h⟩ := h
  refine ⟨ρ, σd, hd, s, ?_⟩
  unfold bnd at h
  cases e1 : ms σd hd with
  | bad => simp [e1, R.bnd] at h
  | ex c d σ1 h1 => simpa [e1, R.bnd] using h
  | ok as σ1 h1 =>
    simp only [e1, R.bnd] at h
    intro ρ1 H1 vs s1 t1 r1
    cases e2 : toArgs as σ1 h1 with
    | bad => simp [e2] at h
    | ex c d σ2 h2 => exact absurd e2 toArgs_no
    | ok ws σ2 h2 =>
      simp only [e2] at h
      obtain ⟨ρ2, s2, p2, r2, f2, n2, w2⟩ := toArgs_ok s1 r1.1 e2
      have t2 : Step ρ σd σ H ρ2 σ2 σ H1 := ghostStep (N := fun _ => False) p2 (fun b f => .inl (f2 b f)) t1 fun b n => n.elim
      refine call_ok s2 t2 r2 w2 (fun b f => r1.2 b ((n2 b).mp f)) (by rw [r1.1.length]; exact hl e1) ?_
      cases e3 : callK cf k ws σ2 h2 with
      | bad => simp [e3] at h
      | ex c d σ3 h3 => simpa [e3] using h
      | ok a σ3 h3 => simpa [e3] using h

/-! ### rows in another order -/
theorem tm_iff : ∀ {as : List Av} {vs : List V} {b : Addr}, Tm as vs b ↔ ∃ (n : Nat) (c : C), as[n]? = some (.c c) ∧ vs[n]? = some (V.ref b)
  | [], _, b => ⟨fun f => f.elim, fun ⟨n, c, e, _⟩ => by simp at e⟩
  | a :: as, [], b => ⟨fun f => f.elim, fun ⟨n, c, _, e⟩ => by simp at e⟩
  | a :: as, v :: vs, b => by
    show (_ ∨ _) ↔ _
    rw [tm_iff]
    constructor
    · rintro (⟨c, rfl, rfl⟩ | ⟨n, c, e1, e2⟩)
      · exact ⟨0, c, rfl, rfl⟩
      · exact ⟨n + 1, c, by simpa using e1, by simpa using e2⟩
    · rintro ⟨n, c, e1, e2⟩
      cases n with
      | zero => simp at e1 e2; exact .inl ⟨c, e1, e2⟩
      | succ n => exact .inr ⟨n, c, by simpa using e1, by simpa using e2⟩
theorem avsR_iff : ∀ {as : List Av} {vs : List V}, AvsR K ga ρ σd σ H as vs ↔ vs.length = as.length ∧ (∀ (n : Nat) (a : Av) (v : V), as[n]? = some a → vs[n]? = some v → AvR K ga ρ σd σ H a v) ∧
    ∀ (n m : Nat) (c c' : C) (b : Addr), as[n]? = some (.c c) → as[m]? = some (.c c') → vs[n]? = some (V.ref b) → vs[m]? = some (V.ref b) → n = m
  | [], vs => by
    constructor
    · intro r
      have r : vs = [] := r
      subst r
      exact ⟨rfl, fun n a v e => by simp at e, fun n m c c' b e => by simp at e⟩
    · rintro ⟨h, _⟩
      exact List.eq_nil_of_length_eq_zero h
  | a :: as, vs => by
    constructor
    · rintro ⟨v, us, rfl, h, q, d⟩
      obtain ⟨h1, h2, h3⟩ := avsR_iff.mp q
      refine ⟨by simp [h1], fun n x w e1 e2 => ?_, fun n m c c' b e1 e2 e3 e4 => ?_⟩
      · cases n with
        | zero => simp at e1 e2; subst e1 e2; exact h
        | succ n => exact h2 n x w (by simpa using e1) (by simpa using e2)
      · cases n with
        | zero =>
          cases m with
          | zero => rfl
          | succ m =>
            simp at e1 e2 e3 e4
            exact absurd (tm_iff.mpr ⟨m, c', e2, e4⟩) (d b ⟨c, e1, e3⟩)
        | succ n =>
          cases m with
          | zero =>
            simp at e1 e2 e3 e4
            exact absurd (tm_iff.mpr ⟨n, c, e1, e3⟩) (d b ⟨c', e2, e4⟩)
          | succ m => rw [h3 n m c c' b (by simpa using e1) (by simpa using e2) (by simpa using e3) (by simpa using e4)]
    · rintro ⟨h1, h2, h3⟩
      cases vs with
      | nil => simp at h1
      | cons v us =>
        refine ⟨v, us, rfl, h2 0 a v rfl rfl, avsR_iff.mpr ⟨by simpa using h1, fun n x w e1 e2 => h2 (n + 1) x w (by simpa using e1) (by simpa using e2), fun n m c c' b e1 e2 e3 e4 => ?_⟩, fun b ⟨c, e1, e2⟩ f => ?_⟩
        · have := h3 (n + 1) (m + 1) c c' b (by simpa using e1) (by simpa using e2) (by simpa using e3) (by simpa using e4)
          omega
        · obtain ⟨m, c', e3, e4⟩ := tm_iff.mp f
          subst e1 e2
          have := h3 0 (m + 1) c c' b rfl (by simpa using e3) rfl (by simpa using e4)
          omega
theorem permL_get {α : Type} {l : List α} : ∀ {perm : List Nat}, (∀ i ∈ perm, i < l.length) → ∀ (n : Nat), (permL perm l)[n]? = (perm[n]?).bind fun i => l[i]?
  | [], _, n => by simp [permL]
  | p :: perm, h, n => by
    have hp : p < l.length := h p List.mem_cons_self
    have e : permL (p :: perm) l = l[p] :: permL perm l := by
      unfold permL
      rw [List.filterMap_cons, List.getElem?_eq_getElem hp]
    rw [e]
    cases n with
    | zero => simp [List.getElem?_eq_getElem hp]
    | succ n => simpa using permL_get (fun i hi => h i (List.mem_cons_of_mem _ hi)) n
theorem permL_len {α : Type} {l : List α} : ∀ {perm : List Nat}, (∀ i ∈ perm, i < l.length) → (permL perm l).length = perm.length
  | [], _ => rfl
  | p :: perm, h => by
    have hp : p < l.length := h p List.mem_cons_self
    have e : permL (p :: perm) l = l[p] :: permL perm l := by
      unfold permL
      rw [List.filterMap_cons, List.getElem?_eq_getElem hp]
    have ih := permL_len (l := l) (perm := perm) fun i hi => h i (List.mem_cons_of_mem _ hi)
    rw [e, List.length_cons, List.length_cons, ih]
theorem nodupB_nd : ∀ {l : List Nat}, nodupB l = true → l.Nodup
  | [], _ => List.nodup_nil
  | x :: xs, h => by
    simp only [nodupB, Bool.and_eq_true, Bool.not_eq_true', List.contains_eq_mem, decide_eq_false_iff_not] at h
    exact List.nodup_cons.mpr ⟨h.1, nodupB_nd h.2⟩
theorem permL_map {α β : Type} {f : α → β} {l : List α} {perm : List Nat} : (permL perm l).map f = permL perm (l.map f) := by
  unfold permL
  rw [List.map_filterMap]
  congr 1
  funext i
  simp
theorem AvsR.perm {as : List Av} {vs : List V} {perm : List Nat} (nd : perm.Nodup) (hi : ∀ i ∈ perm, i < as.length) (r : AvsR K ga ρ σd σ H as vs) : AvsR K ga ρ σd σ H (permL perm as) (permL perm vs) := by
  obtain ⟨h1, h2, h3⟩ := avsR_iff.mp r
  have hi' : ∀ i ∈ perm, i < vs.length := fun i h => by rw [h1]; exact hi i h
  refine avsR_iff.mpr ⟨by rw [permL_len hi, permL_len hi'], fun n a v e1 e2 => ?_, fun n m c c' b e1 e2 e3 e4 => ?_⟩
  · rw [permL_get hi] at e1
    rw [permL_get hi'] at e2
    cases e : perm[n]? with
    | none => simp [e] at e1
    | some i =>
      simp only [e, Option.bind_some] at e1 e2
      exact h2 i a v e1 e2
  · rw [permL_get hi] at e1 e2
    rw [permL_get hi'] at e3 e4
    cases e : perm[n]? with
    | none => simp [e] at e1
    | some i =>
      cases e' : perm[m]? with
      | none => simp [e'] at e2
      | some j =>
        simp only [e, e', Option.bind_some] at e1 e2 e3 e4
        have := h3 i j c c' b e1 e2 e3 e4
        subst this
        obtain ⟨x1, y1⟩ := List.getElem?_eq_some_iff.mp e
        obtain ⟨x2, y2⟩ := List.getElem?_eq_some_iff.mp e'
        exact (List.getElem_inj nd).mp (y1.trans y2.symm)
theorem tm_perm {as : List Av} {vs : List V} {perm : List Nat} {b : Addr} (hi : ∀ i ∈ perm, i < as.length) (hl : vs.length = as.length) (f : Tm (permL perm as) (permL perm vs) b) : Tm as vs b := by
  obtain ⟨n, c, e1, e2⟩ := tm_iff.mp f
  rw [permL_get hi] at e1
  rw [permL_get fun i h => by rw [hl]; exact hi i h] at e2
  cases e : perm[n]? with
  | none => simp [e] at e1
  | some i =>
    simp only [e, Option.bind_some] at e1 e2
    exact tm_iff.mpr ⟨i, c, e1, e2⟩
/-- f(.., k = ..): the row of all written arguments, then the parameters' order -/
theorem ta_callk {cf : CF} {np k : Nat} {perm : List Nat} {ms : M (List Av)} {σ H} {Q : VK} (hl : perm.length = np)
    (h : TA1 K ga fld Wx (bnd ms fun as => bnd (toArgs as) fun ws => bnd (ofO (permW ws perm)) fun vs => callK cf k vs) σ H Q) : TL1 K ga fld Wx ms σ H fun vs H1 => spOf K ga fld cf np k (permL perm vs) H1 Q (WE Wx σ) := by
  obtain ⟨ρ, σd, hd, s, h⟩ := h
  refine ⟨ρ, σd, hd, s, ?_⟩
  unfold bnd at h
  cases e1 : ms σd hd with
  | bad => simp [e1, R.bnd] at h
  | ex c d σ1 h1 => simpa [e1, R.bnd] using h
  | ok as σ1 h1 =>
    simp only [e1, R.bnd] at h
    intro ρ1 H1 vs s1 t1 r1
    cases e2 : toArgs as σ1 h1 with
    | bad => simp [e2] at h
    | ex c d σ2 h2 => exact absurd e2 toArgs_no
    | ok ws σ2 h2 =>
      simp only [e2] at h
      obtain ⟨ρ2, s2, p2, r2, f2, n2, w2⟩ := toArgs_ok s1 r1.1 e2
      have t2 : Step ρ σd σ H ρ2 σ2 σ H1 := ghostStep (N := fun _ => False) p2 (fun b f => .inl (f2 b f)) t1 fun b n => n.elim
      unfold permW at h
      by_cases hp : (nodupB perm && perm.all fun i => decide (i < ws.length)) = true
      · rw [if_pos hp] at h
        simp only [Bool.and_eq_true, List.all_eq_true, decide_eq_true_eq] at hp
        have hi : ∀ i ∈ perm, i < (ws.map wAv).length := fun i z => by simpa using hp.2 i z
        have hlen : vs.length = (ws.map wAv).length := r2.length
        simp only [ofO, ret] at h
        have r3 : AvsR K ga ρ2 σ2 σ H1 ((permL perm ws).map wAv) (permL perm vs) := by rw [permL_map]; exact r2.perm (nodupB_nd hp.1) hi
        refine call_ok s2 t2 r3 (fun w hw => ?_) (fun b f => r1.2 b ((n2 b).mp (tm_perm hi hlen (by rw [permL_map] at f; exact f)))) (by rw [permL_len fun i z => by rw [hlen]; exact hi i z]; exact hl) ?_
        · unfold permL at hw
          obtain ⟨i, _, e⟩ := List.mem_filterMap.mp hw
          exact w2 w (List.mem_of_getElem? e)
        · cases e3 : callK cf k (permL perm ws) σ2 h2 with
          | bad => simp [e3] at h
          | ex c d σ3 h3 => simpa [e3] using h
          | ok a σ3 h3 => simpa [e3] using h
      · rw [if_neg hp] at h
        simp [ofO, fail] at h

/-! ### changing methods -/
theorem change_ok {x : Av} {v : V} {f : C → Option (C × Av)} {r : Av} (hf : ∀ j q, f (.tbl j q) = none) (s : SR K ga ρ σd hd σ H) (hx : AvR K ga ρ σd σ H x v) (e : change x f σd hd = .ok r σd' hd') :
    ∃ a o c c', v = .ref a ∧ H a = some o ∧ RO K ga ρ H c o ∧ f c = some (c', r) ∧ Fp ρ σd σ a ∧ ∀ o', RO K ga ρ H c' o' → SR K ga ρ σd' hd' σ (upd H a o') ∧ Step ρ σd σ H ρ σd' σ (upd H a o') := by
  have cellC : ∀ {n : Nat}, RD K ga ρ H (.ref n) v → (match hd[n]? with
      | some x => match f x with
        | some (y, r) => R.ok r σd (hd.set n y)
        | none => .bad
      | none => .bad) = R.ok r σd' hd' → ∃ a o c c', v = .ref a ∧ H a = some o ∧ RO K ga ρ H c o ∧ f c = some (c', r) ∧ Fp ρ σd σ a ∧ ∀ o', RO K ga ρ H c' o' → SR K ga ρ σd' hd' σ (upd H a o') ∧ Step ρ σd σ H ρ σd' σ (upd H a o') := fun {n} hr e => by
    cases h1 : hd[n]? with
    | none => simp [h1] at e
    | some c =>
      cases h2 : f c with
      | none => simp [h1, h2] at e
      | some p =>
        obtain ⟨y, r'⟩ := p
        simp only [h1, h2, R.ok.injEq] at e
        obtain ⟨rfl, rfl, rfl⟩ := e
        obtain ⟨a, o, e1, e2, q⟩ := s.cell n c h1
        simp only [RD] at hr
        obtain ⟨b, e3, rfl⟩ := hr
        rw [e1] at e3; cases e3
        rcases q with q | ⟨j, q', rfl, _⟩
        · exact ⟨a, o, c, y, rfl, e2, q, h2, .inl (List.mem_of_getElem? e1), fun o' ho => ⟨s.putH h1 e1 ho, Step.putH e1⟩⟩
        · rw [hf] at h2; cases h2
  cases x with
  | c c => simp [change] at e
  | d y =>
    cases y with
    | ref n => exact cellC hx e
    | _ => simp [change] at e
  | s i =>
    have hx : σ[i]? = some (some v) := hx
    simp only [change] at e
    cases h : σd[i]? with
    | none => simp [h] at e
    | some w =>
      cases w with
      | none => simp [h] at e
      | d y =>
        obtain ⟨u, h1, q⟩ := s.slotD i y h
        rw [hx] at h1; cases h1
        cases y with
        | ref n => simp only [h] at e; exact cellC q e
        | _ => simp [h] at e
      | c c =>
        simp only [h] at e
        cases h2 : f c with
        | none => simp [h2] at e
        | some p =>
          obtain ⟨y, r'⟩ := p
          simp only [h2, R.ok.injEq] at e
          obtain ⟨rfl, rfl, rfl⟩ := e
          obtain ⟨a, o, h3, h4, q⟩ := s.slotC i c h
          rw [hx] at h3; cases h3
          exact ⟨a, o, c, y, rfl, h4, q, h2, .inr ⟨i, c, h, hx⟩, fun o' ho => ⟨s.putS h hx ho, Step.putS h hx⟩⟩
theorem change_no {x : Av} {f : C → Option (C × Av)} {c : Nat} {d : D} : change x f σd hd ≠ .ex c d σd' hd' := by
  intro e
  unfold change at e
  split at e
  all_goals (repeat' split at e) <;> cases e

/-- a ghost step leaves what a value tells -/
theorem AvR.ghost (hp : ∃ t, ρ' = ρ ++ t) {a : Av} {v : V} (hc : ∀ c, a ≠ .c c) (r : AvR K ga ρ σd σ H a v) : AvR K ga ρ' σd' σ H a v := by
  cases a with
  | d x => exact RD.mono hp (Stay.refl H) x r
  | s i => exact r
  | c c => exact absurd rfl (hc c)
theorem change_c {x : Av} {f : C → Option (C × Av)} {c : C} : change (.c c) f σd hd = .bad := rfl
/-- a method's reading answers as the evaluator does -/
def MtOk (K : PySem.W.Frag) (ga : Nat → Addr) (m : Mt) (r : V → List V → Hp → VK → Prop) : Prop :=
  ∀ {ρ σd hd σ H x v as vs r' σd' hd' Q}, SR K ga ρ σd hd σ H → AvR K ga ρ σd σ H x v → AvsR K ga ρ σd σ H as vs → msem m x as σd hd = .ok r' σd' hd' →
    (∀ ρ' H' w, SR K ga ρ' σd' hd' σ H' → (∃ t, ρ' = ρ ++ t) → (∀ b o, H b = some o → ¬ Fp ρ σd σ b → ¬ Tm as vs b → Kp H' b o) → (∀ b, Fp ρ' σd' σ b → Fp ρ σd σ b ∨ Tm as vs b) → (∃ y, r' = .d y ∧ RD K ga ρ' H' y w) → Q w H') → r v vs H Q
theorem ta_mth {m : Mt} {r : V → List V → Hp → VK → Prop} (ok : MtOk K ga m r) (nx : ∀ {x as σd hd c d σd' hd'}, msem m x as σd hd ≠ .ex c d σd' hd') {mo : M Av} {ms : M (List Av)} {σ H} {Q : VK}
    (h : TA1 K ga fld Wx (bnd mo fun x => bnd (chkL x) fun _ => bnd ms fun as => msem m x as) σ H Q) : TA1 K ga fld Wx mo σ H fun x H1 => tyV K "list" x H1 ∧ TL1 K ga fld Wx ms σ H1 fun xs H2 => r x xs H2 Q := by
  obtain ⟨ρ, σd, hd, s, h⟩ := h
  refine ⟨ρ, σd, hd, s, ?_⟩
  unfold bnd at h
  cases e1 : mo σd hd with
  | bad => simp [e1, R.bnd] at h
  | ex c d σ1 h1 => simpa [e1, R.bnd] using h
  | ok x σ1 h1 =>
    simp only [e1, R.bnd] at h
    intro ρ1 H1 v s1 t1 r1
    unfold chkL bnd view at h
    cases e2 : vw σ1 h1 x with
    | none => simp [e2, R.bnd] at h
    | some u =>
      simp only [e2, R.bnd] at h
      have hu := vw_ok s1 r1.1 e2
      cases u with
      | d z => simp [fail] at h
      | c c =>
        cases c with
        | dic _ => simp [fail] at h
        | tbl j q => simp [fail] at h
        | lst l =>
          obtain ⟨a, xs, rfl, ha, _⟩ := vlst hu
          refine ⟨.inl ⟨rfl, xs, SqL.of ha⟩, ?_⟩
          simp only [ret] at h
          refine ⟨ρ1, σ1, h1, s1, ?_⟩
          cases e3 : ms σ1 h1 with
          | bad => simp [e3] at h
          | ex c d σ2 h2 =>
            simp only [e3] at h
            exact fun ρ2 H2 dx v s2 t2 r2 e => h ρ2 H2 dx v s2 (t1.trans t2) r2 e
          | ok as σ2 h2 =>
            simp only [e3] at h
            intro ρ2 H2 vs s2 t2 r2
            cases e4 : msem m x as σ2 h2 with
            | bad => simp [e4] at h
            | ex c d σ3 h3 => exact absurd e4 nx
            | ok r' σ3 h3 =>
              simp only [e4] at h
              refine ok s2 (r1.1.step s1 t2) r2.1 e4 fun ρ' H' w s' pre keep new ⟨y, ey, ry⟩ => ?_
              subst ey
              have t3 : Step ρ σd σ H ρ' σ3 σ H' := step_over (t1.trans t2) (fun b f => t1.nw (r2.2 b f)) pre keep fun b f => (new b f).imp id .inl
              exact h ρ' H' w s' t3 ⟨ry, fun b => tm1 fun ⟨c, z, _⟩ => nomatch z⟩
theorem msem_no {m : Mt} {x as c d} : msem m x as σd hd ≠ .ex c d σd' hd' := by
  intro e
  have plain : ∀ {m : Mt}, bnd (toDs as) (fun ds => change x fun c => mtf m c ds) σd hd ≠ .ex c d σd' hd' := fun {m} e => by
    unfold bnd at e
    cases e1 : toDs as σd hd with
    | bad => simp [e1, R.bnd] at e
    | ex => exact toDs_no e1
    | ok ds σ1 h1 =>
      simp only [e1, R.bnd] at e
      exact change_no e
  cases m with
  | append => exact plain e
  | pop => exact plain e
  | popAt => exact plain e
  | extend =>
    match as with
    | [] => simp [msem, fail] at e
    | [a] =>
      simp only [msem, bnd, view] at e
      cases e1 : vw σd hd a with
      | none => simp [e1, R.bnd] at e
      | some u =>
        simp only [e1, R.bnd] at e
        split at e
        · exact change_no e
        · simp [fail] at e
    | _ :: _ :: _ => simp [msem, fail] at e
/-- the arguments' new objects become cells, then the object is changed -/
theorem plain_ok {m : Mt} {ρ σd hd σ H x v as vs r' σd' hd'} (s : SR K ga ρ σd hd σ H) (hx : AvR K ga ρ σd σ H x v) (ha : AvsR K ga ρ σd σ H as vs) (e : bnd (toDs as) (fun ds => change x fun c => mtf m c ds) σd hd = .ok r' σd' hd') :
    ∃ ρ1 ds a o c c', v = .ref a ∧ H a = some o ∧ RO K ga ρ1 H c o ∧ mtf m c ds = some (c', r') ∧ RDs K ga ρ1 H ds vs ∧ (∃ t, ρ1 = ρ ++ t) ∧
      ∀ o', RO K ga ρ1 H c' o' → SR K ga ρ1 σd' hd' σ (upd H a o') ∧ (∀ b o, H b = some o → ¬ Fp ρ σd σ b → ¬ Tm as vs b → Kp (upd H a o') b o) ∧ ∀ b, Fp ρ1 σd' σ b → Fp ρ σd σ b ∨ Tm as vs b := by
  unfold bnd at e
  cases e1 : toDs as σd hd with
  | bad => simp [e1, R.bnd] at e
  | ex c d σ1 h1 => exact absurd e1 toDs_no
  | ok ds σ1 h1 =>
    simp only [e1, R.bnd] at e
    obtain ⟨ρ1, s1, p1, r1, f1⟩ := toDs_ok s ha e1
    have hc : ∀ c, x ≠ .c c := fun c z => by rw [z] at e; cases e
    obtain ⟨a, o, c, c', e2, e3, e4, e5, f2, k⟩ := change_ok (fun j q => by cases m <;> rfl) s1 (hx.ghost (σd' := σ1) p1 hc) e
    refine ⟨ρ1, ds, a, o, c, c', e2, e3, e4, e5, r1, p1, fun o' ho => ?_⟩
    obtain ⟨s2, t2⟩ := k o' ho
    refine ⟨s2, fun b o hb nf nt => ?_, fun b f => ?_⟩
    · exact t2.keep b o hb fun f => (f1 b f).elim nf nt
    · rcases t2.new b f with z | z
      · exact f1 b z
      · -- a new cell cannot come here
        obtain ⟨u, hu, _⟩ := s2.fp f
        by_cases hb : b = a
        · subst hb
          rw [z] at e3; cases e3
        · rw [upd_ne hb, z] at hu; cases hu
theorem RDs.one {x : D} {vs : List V} (r : RDs K ga ρ H [x] vs) : ∃ v, vs = [v] ∧ RD K ga ρ H x v := by
  simp only [RDs] at r
  obtain ⟨v, us, rfl, h, e⟩ := r
  exact ⟨v, by rw [e], h⟩
theorem rd_upd {x : D} {v : V} {a : Addr} {o o' : HO} (ha : H a = some o) (m : MutO o) (r : RD K ga ρ H x v) : RD K ga ρ (upd H a o') x v := RD.mono ⟨[], by simp⟩ (fun b u e nm => by
  by_cases hb : b = a
  · subst hb
    rw [ha] at e; cases e
    exact absurd m nm
  · rw [upd_ne hb]; exact e) x r
theorem mtok_append : MtOk K ga .append rAppend := by
  intro ρ σd hd σ H x v as vs r' σd' hd' Q s hx ha e hQ
  obtain ⟨ρ1, ds, a, o, c, c', rfl, e3, e4, e5, r1, p1, k⟩ := plain_ok (m := .append) s hx ha e
  unfold mtf at e5
  split at e5
  · rename_i l y h1
    split at e5
    · rename_i hz
      cases e5
      obtain ⟨xs, rfl, q, ql⟩ := e4
      obtain ⟨u, rfl, ru⟩ := r1.one
      obtain ⟨s2, k2, n2⟩ := k (.lst (xs ++ [u])) ⟨_, rfl, q.append (RDs.cons ru RDs.nil), by rw [List.length_append]; exact hz⟩
      refine ⟨a, xs, u, rfl, rfl, e3, by rw [q.length, ← szl]; exact hz, hQ ρ1 _ _ s2 p1 k2 n2 ⟨.non, rfl, by simp [RD]⟩⟩
    · cases e5
  all_goals first | (rename_i h; cases h) | (cases e5)
theorem mtok_extend : MtOk K ga .extend rExtend := by
  intro ρ σd hd σ H x v as vs r' σd' hd' Q s hx ha e hQ
  match as, ha with
  | [], _ => simp [msem, fail] at e
  | _ :: _ :: _, _ => simp [msem, fail] at e
  | [b], ⟨w, us, ew, hb, eu, _⟩ =>
    have eu : us = [] := eu
    subst ew eu
    simp only [msem, bnd, view] at e
    cases e1 : vw σd hd b with
    | none => simp [e1, R.bnd] at e
    | some u =>
      simp only [e1, R.bnd] at e
      have hu := vw_ok s hb e1
      split at e
      · rename_i ys
        obtain ⟨p, zs, rfl, hp, rz⟩ := vlst hu
        obtain ⟨a, o, c, c', rfl, e3, e4, e5, f2, k⟩ := change_ok (fun _ _ => rfl) s hx e
        split at e5
        · rename_i l
          split at e5
          · rename_i hz
            cases e5
            obtain ⟨xs, rfl, q, ql⟩ := e4
            obtain ⟨s2, t2⟩ := k (.lst (xs ++ zs)) ⟨_, rfl, q.append rz, by rw [List.length_append]; exact hz⟩
            refine ⟨a, p, xs, zs, rfl, rfl, e3, hp, by rw [q.length, rz.length, ← szl]; exact hz, hQ ρ _ _ s2 ⟨[], by simp⟩ (fun b o hb nf _ => t2.keep b o hb nf) (fun b f => ?_) ⟨.non, rfl, by simp [RD]⟩⟩
            rcases t2.new b f with z | z
            · exact .inl z
            · obtain ⟨u, hu, _⟩ := s2.fp f
              by_cases hb : b = a
              · subst hb
                rw [z] at e3; cases e3
              · rw [upd_ne hb, z] at hu; cases hu
          · cases e5
        · cases e5
      · simp [fail] at e
theorem getLast_idx {l : List D} {y : D} (h : l.getLast? = some y) : l[l.length - 1]? = some y := by
  rw [List.getLast?_eq_getElem?] at h
  exact h
theorem mtok_pop : MtOk K ga .pop rPop := by
  intro ρ σd hd σ H x v as vs r' σd' hd' Q s hx ha e hQ
  obtain ⟨ρ1, ds, a, o, c, c', rfl, e3, e4, e5, r1, p1, k⟩ := plain_ok (m := .pop) s hx ha e
  unfold mtf at e5
  split at e5
  · rename_i h; cases h
  · rename_i l h1
    split at e5
    · rename_i y hy
      cases e5
      obtain ⟨xs, rfl, q, ql⟩ := e4
      have r1 : vs = [] := by simpa [RDs] using r1
      subst r1
      obtain ⟨w, hw, rw_⟩ := q.get (getLast_idx hy)
      obtain ⟨s2, k2, n2⟩ := k (.lst xs.dropLast) ⟨_, rfl, by rw [List.dropLast_eq_take, List.dropLast_eq_take, q.length]; exact q.take _, by rw [List.length_dropLast]; exact Nat.le_trans (Nat.sub_le _ _) ql⟩
      refine ⟨a, xs, w, rfl, rfl, e3, by rw [q.length]; exact hw, hQ ρ1 _ _ s2 p1 k2 n2 ⟨y, rfl, rd_upd e3 trivial rw_⟩⟩
    · cases e5
  all_goals first | (rename_i h; cases h) | (cases e5)
theorem RDs.eraseIdx : ∀ {l : List D} {xs : List V} (n : Nat), RDs K ga ρ H l xs → RDs K ga ρ H (l.eraseIdx n) (xs.eraseIdx n)
  | [], _, _, r => by simp only [RDs] at r; subst r; simp [RDs]
  | d :: ds, _, 0, r => by
    simp only [RDs] at r
    obtain ⟨w, vs, rfl, _, q⟩ := r
    exact q
  | d :: ds, _, n + 1, r => by
    simp only [RDs] at r
    obtain ⟨w, vs, rfl, h, q⟩ := r
    exact RDs.cons h (RDs.eraseIdx n q)
theorem seqIx {n j : Nat} {i : Int} (h : Ev.ixN n i = some j) : seqIndex? i n = some j := by
  unfold Ev.ixN at h
  unfold seqIndex?
  split at h
  · rename_i h0
    split at h
    · rename_i h1
      cases h
      have a : ¬ i < 0 := by omega
      simp [a, h0, h1]
    · cases h
  · rename_i h0
    split at h
    · rename_i h1
      cases h
      have a : i < 0 := by omega
      have b : (0 : Int) ≤ i + n := by omega
      simp [a, b]
      omega
    · cases h
theorem mtok_popAt : MtOk K ga .popAt rPopAt := by
  intro ρ σd hd σ H x v as vs r' σd' hd' Q s hx ha e hQ
  obtain ⟨ρ1, ds, a, o, c, c', rfl, e3, e4, e5, r1, p1, k⟩ := plain_ok (m := .popAt) s hx ha e
  unfold mtf at e5
  split at e5
  · rename_i h; cases h
  · rename_i h; cases h
  · rename_i l i h1
    split at e5
    · rename_i hi
      split at e5
      · rename_i j hj
        cases hy : l[j]? with
        | none => simp [hy] at e5
        | some y =>
          simp only [hy, Option.map_some, Option.some.injEq, Prod.mk.injEq] at e5
          obtain ⟨rfl, rfl⟩ := e5
          obtain ⟨xs, rfl, q, ql⟩ := e4
          obtain ⟨u, rfl, ru⟩ := r1.one
          have ru : u = .int i := by simpa [RD] using ru
          subst ru
          obtain ⟨w, hw, rw_⟩ := q.get hy
          obtain ⟨s2, k2, n2⟩ := k (.lst (xs.eraseIdx j)) ⟨_, rfl, q.eraseIdx j, Nat.le_trans (List.length_eraseIdx_le ..) ql⟩
          exact ⟨a, xs, i, j, w, rfl, rfl, e3, hi.1, hi.2, by rw [q.length]; exact seqIx hj, hw, hQ ρ1 _ _ s2 p1 k2 n2 ⟨y, rfl, rd_upd e3 trivial rw_⟩⟩
      · cases e5
    · cases e5
  all_goals first | (rename_i h; cases h) | (cases e5)
end
end Ev
end
section
set_option maxRecDepth 100000
set_option maxHeartbeats 2000000
/-! Ev7: chains, displays of dicts, walks. -/
namespace Ev
open PySem L2

section
variable {K : PySem.W.Frag} {ga : Nat → Addr} {fld : Nat → Str} {ρ ρ' : List Addr} {σd σd' : List W} {hd hd' : List C} {σ : List (Option V)} {H H' : Hp} {Wx : WX}
/-- two values, compared, tested -/
theorem cmp2_ok (s : SR K ga ρ σd hd σ H) {x y : Av} {v w : V} (hx : AvR K ga ρ σd σ H x v) (hy : AvR K ga ρ σd σ H y w) {op : CmpOp} :
    osem (.cmp op) [x, y] σd hd = .bad ∨ ∃ a b k, VwR K ga ρ H a v ∧ VwR K ga ρ H b w ∧ cmpV op a b = some k ∧ osem (.cmp op) [x, y] σd hd = .ok (.d (.bl k)) σd hd := by
  unfold osem views views views bnd view
  cases e1 : vw σd hd x with
  | none => exact .inl rfl
  | some a =>
    cases e2 : vw σd hd y with
    | none => exact .inl (by simp [R.bnd, bnd, e2])
    | some b =>
      simp only [R.bnd, bnd, e2, ret, opf, op2]
      cases e3 : cmpV op a b with
      | none => exact .inl rfl
      | some k => exact .inr ⟨a, b, k, vw_ok s hx e1, vw_ok s hy e2, e3, rfl⟩
theorem ta_chain {o1 o2 : CmpOp} (p1 : plainCmp o1 = true) (p2 : plainCmp o2 = true) {ma mb mc : M Av} {σ H} {Q : VK}
    (h : TA1 K ga fld Wx (bnd ma fun x => bnd mb fun y => bnd (bnd (osem (.cmp o1) [x, y]) isT) fun k => if k then bnd mc fun z => osem (.cmp o2) [y, z] else ret (.d (.bl false))) σ H Q) :
    tChain (rCmp K o1) (rCmp K o2) (TA1 K ga fld Wx ma) (TA1 K ga fld Wx mb) (TA1 K ga fld Wx mc) σ H Q := by
  obtain ⟨ρ, σd, hd, s, h⟩ := h
  refine ⟨ρ, σd, hd, s, ?_⟩
  unfold bnd at h
  cases e1 : ma σd hd with
  | bad => simp [e1, R.bnd] at h
  | ex c d σ1 h1 => simpa [e1, R.bnd] using h
  | ok x σ1 h1 =>
    simp only [e1, R.bnd] at h
    intro ρ1 H1 v s1 t1 r1
    refine ⟨ρ1, σ1, h1, s1, ?_⟩
    cases e2 : mb σ1 h1 with
    | bad => simp [e2] at h
    | ex c d σ2 h2 =>
      simp only [e2] at h
      exact fun ρ2 H2 dx v s2 t2 r2 e => h ρ2 H2 dx v s2 (t1.trans t2) r2 e
    | ok y σ2 h2 =>
      simp only [e2] at h
      intro ρ2 H2 w s2 t2 r2
      have t12 := t1.trans t2
      rcases cmp2_ok (op := o1) s2 (r1.1.step s1 t2) r2.1 with e3 | ⟨a, b, k, ha, hb, hk, e3⟩
      · simp [e3] at h
      · refine cmp_ok p1 ha hb hk ⟨k, rfl, ?_⟩
        simp only [e3, isT, view, vw, vwD, bnd, R.bnd, ret] at h
        cases k with
        | false =>
          simp only [Bool.false_eq_true, if_false, ret] at h ⊢
          exact h ρ2 H2 _ s2 t12 ⟨by simp [AvR, RD], fun b => tm1 fun ⟨c, z, _⟩ => nomatch z⟩
        | true =>
          simp only [if_true, bnd] at h ⊢
          refine ⟨ρ2, σ2, h2, s2, ?_⟩
          cases e4 : mc σ2 h2 with
          | bad => simp [e4, R.bnd] at h
          | ex c d σ3 h3 =>
            simp only [e4, R.bnd] at h
            exact fun ρ3 H3 dx v s3 t3 r3 e => h ρ3 H3 dx v s3 (t12.trans t3) r3 e
          | ok z σ3 h3 =>
            simp only [e4, R.bnd] at h
            intro ρ3 H3 u s3 t3 r3
            rcases cmp2_ok (op := o2) s3 (r2.1.step s2 t3) r3.1 with e5 | ⟨a', b', k', ha', hb', hk', e5⟩
            · simp [e5] at h
            · simp only [e5] at h
              exact cmp_ok p2 ha' hb' hk' (h ρ3 H3 _ s3 (t12.trans t3) ⟨by simp [AvR, RD], fun b => tm1 fun ⟨c, z, _⟩ => nomatch z⟩)

/-! ### dicts -/
theorem RKv.any {k : D} {q : Key} (hk : keyD k = some q) : ∀ {kvs : List (D × D)} {ks : List (Key × V)}, RKv K ga ρ H kvs ks → (kvs.any fun p => beqD p.1 k) = ks.any fun kv => decide (kv.1 = q)
  | [], _, r => by rw [show _ = [] from r]; rfl
  | p :: ps, _, ⟨k1, v, r, e, h1, h2, h3⟩ => by
    subst e
    simp only [List.any_cons]
    rw [key_eq h1 hk, RKv.any hk h3]
theorem RKv.append1 {k : D} {q : Key} {x : D} {v : V} (hk : keyD k = some q) (r : RD K ga ρ H x v) : ∀ {kvs : List (D × D)} {ks : List (Key × V)}, RKv K ga ρ H kvs ks → RKv K ga ρ H (kvs ++ [(k, x)]) (ks ++ [(q, v)])
  | [], _, e => by rw [show _ = [] from e]; exact ⟨q, v, [], rfl, hk, r, rfl⟩
  | p :: ps, _, ⟨k1, v1, r1, e, h1, h2, h3⟩ => by
    subst e
    exact ⟨k1, v1, _, rfl, h1, h2, RKv.append1 hk r h3⟩
theorem RKv.mapSet {k : D} {q : Key} {x : D} {v : V} (hk : keyD k = some q) (r : RD K ga ρ H x v) : ∀ {kvs : List (D × D)} {ks : List (Key × V)}, RKv K ga ρ H kvs ks →
    RKv K ga ρ H (kvs.map fun p => if beqD p.1 k then (p.1, x) else p) (ks.map fun kv => if kv.1 = q then (kv.1, v) else kv)
  | [], _, e => by rw [show _ = [] from e]; rfl
  | p :: ps, _, ⟨k1, v1, r1, e, h1, h2, h3⟩ => by
    subst e
    simp only [List.map_cons]
    have b := key_eq h1 hk
    by_cases c : k1 = q
    · rw [if_pos (by rw [b]; exact decide_eq_true c), if_pos c]
      exact ⟨k1, v, _, rfl, h1, r, RKv.mapSet hk r h3⟩
    · rw [if_neg (by rw [b, decide_eq_false c]; decide), if_neg c]
      exact ⟨k1, v1, _, rfl, h1, h2, RKv.mapSet hk r h3⟩
theorem putK_ok {k : D} {q : Key} {x : D} {v : V} (hk : keyD k = some q) (r : RD K ga ρ H x v) {kvs : List (D × D)} {ks : List (Key × V)} (h : RKv K ga ρ H kvs ks) : RKv K ga ρ H (Ev.putK kvs k x) (L2.putK ks q v) := by
  unfold Ev.putK L2.putK
  rw [h.any hk]
  split
  · exact h.mapSet hk r
  · exact h.append1 hk r
def keysOf : List D → Option (List Key)
  | [] => some []
  | k :: ks => match keyD k, keysOf ks with
    | some q, some qs => some (q :: qs)
    | _, _ => none
theorem merge_ok : ∀ {ks : List D} {qs : List Key} {ds : List D} {vs : List V} {acc : List (D × D)} {bcc : List (Key × V)}, keysOf ks = some qs → RDs K ga ρ H ds vs → RKv K ga ρ H acc bcc →
    RKv K ga ρ H ((ks.zip ds).foldl (fun kvs p => Ev.putK kvs p.1 p.2) acc) (mergeK bcc (qs.zip vs))
  | [], qs, ds, vs, acc, bcc, e, r, h => by
    simp only [keysOf, Option.some.injEq] at e
    subst e
    exact h
  | k :: ks, qs, [], vs, acc, bcc, e, r, h => by
    simp only [RDs] at r
    subst r
    simpa [mergeK] using h
  | k :: ks, qs, d :: ds, vs, acc, bcc, e, r, h => by
    simp only [RDs] at r
    obtain ⟨v, us, rfl, rd, rs⟩ := r
    cases e1 : keyD k with
    | none => simp [keysOf, e1] at e
    | some q =>
      cases e2 : keysOf ks with
      | none => simp [keysOf, e1, e2] at e
      | some q2 =>
        simp only [keysOf, e1, e2, Option.some.injEq] at e
        subst e
        show RKv K ga ρ H (List.foldl (fun kvs p => Ev.putK kvs p.1 p.2) (Ev.putK acc k d) (ks.zip ds)) (mergeK (L2.putK bcc q v) (q2.zip us))
        exact merge_ok e2 rs (putK_ok e1 rd h)
def exsL : Exs → List Ex
  | .nil => []
  | .cons e es => e :: exsL es
theorem zip_kv : ∀ (qs : List Key) (vs : List V), (qs.map kV).zip vs = (qs.zip vs).map fun kv => (kV kv.1, kv.2)
  | [], vs => by simp
  | q :: qs, [] => by simp
  | q :: qs, v :: vs => by simp [zip_kv qs vs]
/-- the pairs of a display -/
theorem pairs_ok {cf : CF} : ∀ {es : Exs} {qs : List Key} {σ H} {Q : List (V × V) → Hp → Prop}, qs.length = exsLen es → TL1 K ga fld Wx (evs cf es) σ H (fun vs H2 => Q ((qs.map kV).zip vs) H2) →
    tPairs ((qs.zip (exsL es)).map fun p => (tC (kV p.1), TA1 K ga fld Wx (ev cf p.2))) σ H Q
  | .nil, [], σ, H, Q, _, h => tl_nil (by simpa [evs] using h)
  | .cons e es, q :: qs, σ, H, Q, hl, h => by
    simp only [evs] at h
    have h1 := tl_cons h
    refine tg_mono h1 fun x H1 h2 => ?_
    exact pairs_ok (Q := fun ps H2 => Q ((kV q, x) :: ps) H2) (by simpa [exsLen] using hl) h2
  | .nil, q :: qs, _, _, _, hl, _ => by simp [exsLen] at hl
  | .cons e es, [], _, _, _, hl, _ => by simp [exsLen] at hl
theorem ta_dict {cf : CF} {ks : List D} {qs : List Key} {es : Exs} (hk : keysOf ks = some qs) (hl : qs.length = exsLen es) (h15 : qs.length ≤ 15) {σ H} {Q : VK}
    (h : TA1 K ga fld Wx (bnd (evs cf es) fun as => bnd (toDs as) fun ds => ret (.c (.dic ((ks.zip ds).foldl (fun kvs p => Ev.putK kvs p.1 p.2) [])))) σ H Q) :
    tDisp ((qs.zip (exsL es)).map fun p => (tC (kV p.1), TA1 K ga fld Wx (ev cf p.2))) σ H Q := by
  intro p hp
  refine pairs_ok hl ?_
  obtain ⟨ρ, σd, hd, s, h⟩ := h
  refine ⟨ρ, σd, hd, s.fresh hp (fun _ z => by cases z), ?_⟩
  unfold bnd at h
  cases e1 : evs cf es σd hd with
  | bad => simp [e1, R.bnd] at h
  | ex c d σ1 h1 =>
    simp only [e1, R.bnd] at h
    exact fun ρ1 H1 dx v s1 t1 r1 e => h ρ1 H1 dx v s1 ((Step.fresh hp).trans t1) r1 e
  | ok as σ1 h1 =>
    simp only [e1, R.bnd] at h
    intro ρ1 H1 vs s1 t1 r1
    have np : ¬ Fp ρ σd σ p := s.nofp hp
    have hp1 : H1 p = some (.dK []) := (t1.keep p _ upd_same np).of fun _ z => by cases z
    have np1 : ¬ Fp ρ1 σ1 σ p := fun f => (t1.new p f).elim np fun z => by rw [upd_same] at z; cases z
    have hv : vs.length = exsLen es := by rw [r1.1.length]; exact evs_len e1
    refine ⟨hp1, qs.zip vs, ?_, by simp; omega, ?_⟩
    · exact zip_kv qs vs
    · cases e2 : toDs as σ1 h1 with
      | bad => simp [e2] at h
      | ex c d σ2 h2 => exact absurd e2 toDs_no
      | ok ds σ2 h2 =>
        simp only [e2, ret] at h
        obtain ⟨ρ2, s2, p2, r2, f2⟩ := toDs_ok s1 r1.1 e2
        have t0 : Step ρ σd σ H ρ1 σ1 σ H1 := (Step.fresh hp).trans t1
        have npm : ¬ Fp ρ2 σ2 σ p := fun f => (f2 p f).elim np1 fun m => (r1.2 p m).elim np fun z => by rw [upd_same] at z; cases z
        have k : Stay H1 (upd H1 p (.dK (mergeK [] (qs.zip vs)))) := fun b u e m => by
          by_cases hb : b = p
          · subst hb
            rw [hp1] at e; cases e
            exact absurd trivial m
          · rw [upd_ne hb]; exact e
        have s3 := s2.stayed k (fun b f => upd_ne fun z => npm (z ▸ f)) trivial
        have t2 : Step ρ σd σ H ρ2 σ2 σ H1 := ghostStep p2 f2 t0 fun b n => (Step.fresh (ρ := ρ) (σd := σd) (σ := σ) hp).nw (r1.2 b n)
        have t3 : Step ρ σd σ H ρ2 σ2 σ (upd H1 p (.dK (mergeK [] (qs.zip vs)))) := step_over t2 (N := fun b => b = p) (fun b e => .inr (by rw [e]; exact hp)) ⟨[], by simp⟩ (fun b o e _ n => .inl (by rw [upd_ne n]; exact e)) fun b f => .inl f
        refine h ρ2 _ (.ref p) s3 t3 ⟨⟨p, _, rfl, upd_same, ⟨_, rfl, merge_ok hk (RDs.mono ⟨[], by simp⟩ k _ r2) rfl⟩, npm⟩, fun b => tm1 fun ⟨c, _, z⟩ => by
          cases z
          exact .inr hp⟩
end
end Ev
end
section
set_option maxRecDepth 100000
set_option maxHeartbeats 2000000
/-! Ev8: targets, walks, comprehensions. -/
namespace Ev
open PySem L2

section
variable {K : PySem.W.Frag} {ga : Nat → Addr} {fld : Nat → Str} {ρ ρ' : List Addr} {σd σd' : List W} {hd hd' : List C} {σ σ' : List (Option V)} {H H' : Hp} {Wx : WX}
/-! ### targets -/
def gsOf : List Nat → L2.TGs
  | [] => gNil
  | i :: is => gCons (gName i) (gsOf is)
def gOf (K : PySem.W.Frag) : Tg → L2.TG
  | .n i => gName i
  | .t is => gTup K is.length (gsOf is)
theorem Step.slot {i : Nat} {w : W} {v : Option V} (hw : ∀ c, w ≠ .c c) : Step ρ σd σ H ρ (σd.set i w) (σ.set i v) H := by
  refine ⟨⟨[], by simp⟩, fun _ _ e _ => .inl e, fun a f => .inl ?_⟩
  rcases f with f | ⟨j, c, e1, e2⟩
  · exact .inl f
  · by_cases hj : j = i
    · subst hj
      rw [List.getElem?_set] at e1
      simp only [if_true] at e1
      split at e1
      · exact absurd (Option.some.inj e1) (hw c)
      · cases e1
    · rw [List.getElem?_set_ne (Ne.symm hj)] at e1 e2
      exact .inr ⟨j, c, e1, e2⟩
theorem setAll_ok : ∀ {is : List Nat} {l : List D} {xs : List V} {σd σd' : List W} {σ : List (Option V)}, SR K ga ρ σd hd σ H → RDs K ga ρ H l xs → setAll is l σd = some σd' →
    xs.length = is.length ∧ ∃ σ', SR K ga ρ σd' hd σ' H ∧ Step ρ σd σ H ρ σd' σ' H ∧ (∀ Q : List (Option V) → Hp → Prop, Q σ' H → gsOf is xs σ H Q)
  | [], [], xs, σd, σd', σ, s, r, e => by
    simp only [setAll, Option.some.injEq] at e
    subst e
    have r : xs = [] := by simpa [RDs] using r
    subst r
    exact ⟨rfl, σ, s, Step.refl, fun Q q => ⟨rfl, q⟩⟩
  | i :: is, x :: l, xs, σd, σd', σ, s, r, e => by
    simp only [setAll] at e
    simp only [RDs] at r
    obtain ⟨v, us, rfl, rx, rs⟩ := r
    obtain ⟨h1, σ', s', t', k⟩ := setAll_ok (s.setD (i := i) rx) rs e
    exact ⟨by simp [h1], σ', s', (Step.slot (by simp)).trans t', fun Q q => ⟨v, us, rfl, k Q q⟩⟩
  | [], _ :: _, _, _, _, _, _, _, e => by simp [setAll] at e
  | _ :: _, [], _, _, _, _, _, _, e => by simp [setAll] at e
theorem bind_ok {tg : Tg} {it : D} {x : V} (s : SR K ga ρ σd hd σ H) (r : RD K ga ρ H it x) (e : bindT tg it σd hd = .ok () σd' hd') :
    hd' = hd ∧ ∃ σ', SR K ga ρ σd' hd σ' H ∧ Step ρ σd σ H ρ σd' σ' H ∧ ∀ Q : List (Option V) → Hp → Prop, Q σ' H → gOf K tg x σ H Q := by
  cases tg with
  | n i =>
    simp only [bindT, R.ok.injEq, true_and] at e
    obtain ⟨rfl, rfl⟩ := e
    exact ⟨rfl, _, s.setD r, Step.slot (by simp), fun Q q => q⟩
  | t is =>
    simp only [bindT] at e
    split at e
    · rename_i l
      split at e
      · rename_i σ1 h1
        simp only [R.ok.injEq, true_and] at e
        obtain ⟨rfl, rfl⟩ := e
        simp only [RD] at r
        obtain ⟨a, xs, rfl, ht, rs, _⟩ := r
        obtain ⟨h2, σ', s', t', k⟩ := setAll_ok s rs h1
        exact ⟨rfl, σ', s', t', fun Q q => ⟨a, xs, rfl, ht, h2, k Q q⟩⟩
      · cases e
    · cases e
theorem bind_no {tg : Tg} {it : D} {c : Nat} {d : D} : bindT tg it σd hd ≠ .ex c d σd' hd' := by
  intro e
  cases tg with
  | n i => simp [bindT] at e
  | t is =>
    simp only [bindT] at e
    split at e
    · split at e <;> cases e
    · cases e

/-! ### walks -/
def ItOk (K : PySem.W.Frag) (ga : Nat → Addr) (J : L2.It) (src : List Av) (svs : List V) (ls : List (List D)) (items : List D) : Prop :=
  ∀ {ρ σd hd σ H}, SR K ga ρ σd hd σ H → AvsR K ga ρ σd σ H src svs → stands src ls σd hd = true → items.length ≤ SZ ∧
    (∀ i, i < items.length → J.go i H) ∧ (∀ i, items.length ≤ i → J.stop i H) ∧ ∀ i x H', i < items.length → J.yld i H x H' → Gr H H' ∧ ∃ it, items[i]? = some it ∧ RD K ga ρ H' it x
abbrev Wk := List Av × List (List D) × List D
def TI1 (K : PySem.W.Frag) (ga : Nat → Addr) (fld : Nat → Str) (Wx : WX) (m : M Wk) : TI := fun σ H Rr => ∃ ρ σd hd, SR K ga ρ σd hd σ H ∧ match m σd hd with
  | .ok s σd' hd' => ∀ ρ' H' J svs, SR K ga ρ' σd' hd' σ H' → Step ρ σd σ H ρ' σd' σ H' → AvsR K ga ρ' σd' σ H' s.1 svs → (∀ b, Tm s.1 svs b → Fp ρ σd σ b ∨ H b = none) → stands s.1 s.2.1 σd' hd' = true → ItOk K ga J s.1 svs s.2.1 s.2.2 → Rr J H'
  | .ex c d σd' hd' => ∀ ρ' H' (dx : Addr) v, SR K ga ρ' σd' hd' σ H' → Step ρ σd σ H ρ' σd' σ H' → RD K ga ρ' H' d v → H' dx = some (.xd [(fld c, v)]) → Wx (.ref (ga c)) (some dx) σ H'
  | .bad => False
theorem lst_ok {u : Vw} {v : V} {l : List D} (h : VwR K ga ρ H u v) (e : lstOf u = some l) : ∃ p xs, v = .ref p ∧ SqL K H p xs ∧ RDs K ga ρ H l xs ∧ l.length ≤ SZ := by
  unfold lstOf at e
  split at e
  · cases e
    obtain ⟨p, xs, rfl, h1, r⟩ := vlstZ h
    exact ⟨p, xs, rfl, SqL.of h1, r⟩
  · cases e
    obtain ⟨p, xs, rfl, h1, r⟩ := vflZ h
    exact ⟨p, xs, rfl, sqF_l h1, r⟩
  · cases e
theorem tup_ok {u : Vw} {v : V} {l : List D} (h : VwR K ga ρ H u v) (e : tupOf u = some l) : ∃ p xs, v = .ref p ∧ SqT K H p xs ∧ RDs K ga ρ H l xs ∧ l.length ≤ SZ := by
  unfold tupOf at e
  split at e
  · cases e
    exact vtupZ h
  · cases e
/-- a source that is a list; one that is a tuple -/
def LSrc (a : Av) (l : List D) : Prop := (∀ c, a = .c c → c = .lst l) ∧ (∀ x, a = .d (.flst x) → x = l) ∧ ∀ x, a ≠ .d (.tup x)
theorem src_list {a : Av} {l : List D} {v : V} (hs : LSrc a l) (s : SR K ga ρ σd hd σ H) (r : AvR K ga ρ σd σ H a v) (h : stands1 a l σd hd = true) : ∃ p xs, v = .ref p ∧ SqL K H p xs ∧ RDs K ga ρ H l xs ∧ l.length ≤ SZ := by
  obtain ⟨hl, hf, ht⟩ := hs
  have gen : (match (vw σd hd a).bind lstOf with
      | some l' => beqDs l' l
      | none => false) = true → ∃ p xs, v = .ref p ∧ SqL K H p xs ∧ RDs K ga ρ H l xs ∧ l.length ≤ SZ := fun h => by
    cases e : vw σd hd a with
    | none => simp [e] at h
    | some u =>
      cases e2 : lstOf u with
      | none => simp [e, e2] at h
      | some l' =>
        simp only [e, Option.bind_some, e2] at h
        have e3 := beqDs_eq h
        subst e3
        exact lst_ok (vw_ok s r e) e2
  cases a with
  | c c =>
    have := hl c rfl
    subst this
    obtain ⟨p, o, rfl, h1, ⟨xs, rfl, r1⟩, _⟩ := r
    exact ⟨p, xs, rfl, SqL.of h1, r1⟩
  | s i => exact gen h
  | d x =>
    cases x with
    | flst y =>
      have := hf y rfl
      subst this
      obtain ⟨p, xs, rfl, h1, r1⟩ := vflZ r
      exact ⟨p, xs, rfl, sqF_l h1, r1⟩
    | tup y => exact absurd rfl (ht y)
    | _ => exact gen h
theorem src_of {a : Av} {u : Vw} {l : List D} (e : vw σd hd a = some u) (h : lstOf u = some l) : LSrc a l ∧ stands1 a l σd hd = true := by
  have gen : (match (vw σd hd a).bind lstOf with
      | some l' => beqDs l' l
      | none => false) = true := by rw [e]; simp only [Option.bind_some, h]; exact beqDs_refl l
  cases a with
  | c c =>
    simp only [vw, Option.some.injEq] at e
    subst e
    cases c with
    | dic _ => simp [lstOf] at h
    | tbl j q => simp [lstOf] at h
    | lst l' =>
      simp only [lstOf, Option.some.injEq] at h
      subst h
      exact ⟨⟨fun c e => by cases e; rfl, fun x e => (nomatch e), fun x e => (nomatch e)⟩, rfl⟩
  | s i => exact ⟨⟨fun c e => (nomatch e), fun x e => (nomatch e), fun x e => (nomatch e)⟩, gen⟩
  | d x =>
    cases x with
    | flst y =>
      simp only [vw, vwD, Option.some.injEq] at e
      subst e
      simp only [lstOf, Option.some.injEq] at h
      subst h
      exact ⟨⟨fun c e => (nomatch e), fun x e => by cases e; rfl, fun x e => (nomatch e)⟩, rfl⟩
    | tup y =>
      simp only [vw, vwD, Option.some.injEq] at e
      subst e
      simp [lstOf] at h
    | _ => exact ⟨⟨fun c e => (nomatch e), fun x e => (nomatch e), fun x e => (nomatch e)⟩, gen⟩
theorem stands_one {a : Av} {l : List D} : stands [a] [l] σd hd = stands1 a l σd hd := by simp [stands]
theorem stands_two {a b : Av} {l r : List D} : stands [a, b] [l, r] σd hd = (stands1 a l σd hd && stands1 b r σd hd) := by simp [stands]
theorem AvsR.one {a : Av} {vs : List V} (r : AvsR K ga ρ σd σ H [a] vs) : ∃ v, vs = [v] ∧ AvR K ga ρ σd σ H a v := by
  obtain ⟨v, us, e, h, q, _⟩ := r
  have q : us = [] := q
  exact ⟨v, by rw [e, q], h⟩
theorem AvsR.two {a b : Av} {vs : List V} (r : AvsR K ga ρ σd σ H [a, b] vs) : ∃ v w, vs = [v, w] ∧ AvR K ga ρ σd σ H a v ∧ AvR K ga ρ σd σ H b w := by
  obtain ⟨v, us, e, h, q, _⟩ := r
  obtain ⟨w, rfl, h2⟩ := AvsR.one q
  exact ⟨v, w, e, h, h2⟩
theorem ix_lt {xs : List V} {l : List D} {i : Nat} (r : RDs K ga ρ H l xs) (h : i < l.length) : ∃ x it, xs[i]? = some x ∧ l[i]? = some it ∧ RD K ga ρ H it x := by
  have e : l[i]? = some l[i] := List.getElem?_eq_getElem h
  obtain ⟨v, h1, h2⟩ := r.get e
  exact ⟨v, _, h1, e, h2⟩
theorem itok_list {a : Av} {l : List D} {p : Addr} (hs : LSrc a l) : ItOk K ga (Itl K p) [a] [.ref p] [l] l := by
  intro ρ σd hd σ H s r h
  obtain ⟨v, e, ra⟩ := r.one
  cases e
  obtain ⟨p', xs, e, h1, r1, z1⟩ := src_list hs s ra (by rw [← stands_one]; exact h)
  cases e
  refine ⟨z1, fun i hi => ?_, fun i hi => ⟨xs, h1, by rw [r1.length]; exact hi⟩, fun i x H' hi ⟨e, hx⟩ => ?_⟩
  · obtain ⟨x, it, e1, _⟩ := ix_lt r1 hi
    exact ⟨xs, x, h1, e1⟩
  · subst e
    obtain ⟨y, it, e1, e2, e3⟩ := ix_lt r1 hi
    rw [hx xs h1] at e1; cases e1
    exact ⟨Gr.self, it, e2, e3⟩
theorem itok_tup {l : List D} {p : Addr} : ItOk K ga (Itt K p) [.d (.tup l)] [.ref p] [l] l := by
  intro ρ σd hd σ H s r h
  obtain ⟨v, e, ra⟩ := r.one
  cases e
  obtain ⟨p', xs, e, h1, r1, z1⟩ := vtupZ (show VwR K ga ρ H (.d (.tup l)) (.ref p) from ra)
  cases e
  refine ⟨z1, fun i hi => ?_, fun i hi => ⟨xs, h1, by rw [r1.length]; exact hi⟩, fun i x H' hi ⟨e, hx⟩ => ?_⟩
  · obtain ⟨x, it, e1, _⟩ := ix_lt r1 hi
    exact ⟨xs, x, h1, e1⟩
  · subst e
    obtain ⟨y, it, e1, e2, e3⟩ := ix_lt r1 hi
    rw [hx xs h1] at e1; cases e1
    exact ⟨Gr.self, it, e2, e3⟩
theorem rngD_get : ∀ {n i : Nat} {lo : Int}, i < n → (rngD lo n)[i]? = some (.int (lo + i))
  | 0, i, lo, h => absurd h (Nat.not_lt_zero i)
  | n + 1, 0, lo, h => by simp [rngD]
  | n + 1, i + 1, lo, h => by
    simp only [rngD, List.getElem?_cons_succ]
    rw [rngD_get (by omega)]
    congr 2
    omega
theorem rngD_len : ∀ {n : Nat} {lo : Int}, (rngD lo n).length = n
  | 0, _ => rfl
  | n + 1, lo => by simp [rngD, rngD_len]
theorem itok_rng {lo : Int} {n : Nat} (hn : n ≤ SZ) : ItOk K ga (Itr lo n) [] [] [] (rngD lo n) := by
  intro ρ σd hd σ H s r h
  refine ⟨by rw [rngD_len]; exact hn, fun i hi => by rw [rngD_len] at hi; exact hi, fun i hi => by rw [rngD_len] at hi; exact hi, fun i x H' hi ⟨e, hx⟩ => ?_⟩
  rw [rngD_len] at hi
  subst e hx
  exact ⟨Gr.self, _, rngD_get hi, by simp [RD]⟩
theorem enumD_get : ∀ {l : List D} {k i : Nat} {x : D}, l[i]? = some x → (enumD k l)[i]? = some (.tup [.int ((k + i : Nat) : Int), x])
  | [], _, _, _, e => by simp at e
  | a :: l, k, 0, x, e => by simp at e; subst e; simp [enumD]
  | a :: l, k, i + 1, x, e => by
    simp only [enumD, List.getElem?_cons_succ] at e ⊢
    rw [enumD_get e, show k + 1 + i = k + (i + 1) by omega]
theorem enumD_len : ∀ {l : List D} {k : Nat}, (enumD k l).length = l.length
  | [], _ => rfl
  | a :: l, k => by simp [enumD, enumD_len]
theorem rd_pair {x y : D} {v w : V} {p : Addr} (hp : H p = none) (r : RD K ga ρ H x v) (q : RD K ga ρ H y w) : RD K ga ρ (upd H p (.tup [v, w])) (.tup [x, y]) (.ref p) := by
  have h := res_tup (K := K) (ga := ga) (ρ := ρ) hp (RDs.cons r (RDs.cons q RDs.nil)) (show 2 ≤ SZ by decide)
  exact h
theorem itok_enum {a : Av} {l : List D} {p : Addr} (hs : LSrc a l) : ItOk K ga (Ite K p) [a] [.ref p] [l] (enumD 0 l) := by
  intro ρ σd hd σ H s r h
  obtain ⟨v, e, ra⟩ := r.one
  cases e
  obtain ⟨p', xs, e, h1, r1, z1⟩ := src_list hs s ra (by rw [← stands_one]; exact h)
  cases e
  rw [enumD_len]
  refine ⟨z1, fun i hi => ?_, fun i hi => ⟨xs, h1, by rw [r1.length]; exact hi⟩, fun i x H' hi ⟨T, y, e1, e2, e3, hx⟩ => ?_⟩
  · obtain ⟨x, it, e1, _⟩ := ix_lt r1 hi
    exact ⟨xs, x, h1, e1⟩
  · subst e1 e3
    obtain ⟨z, it, e4, e5, e6⟩ := ix_lt r1 hi
    rw [hx xs h1] at e4; cases e4
    refine ⟨gr_new e2, _, enumD_get e5, ?_⟩
    rw [show 0 + i = i from Nat.zero_add i]
    exact rd_pair e2 (by simp [RD]) e6
theorem itok_enumT {l : List D} {p : Addr} : ItOk K ga (IteT K p) [.d (.tup l)] [.ref p] [l] (enumD 0 l) := by
  intro ρ σd hd σ H s r h
  obtain ⟨v, e, ra⟩ := r.one
  cases e
  obtain ⟨p', xs, e, h1, r1, z1⟩ := vtupZ (show VwR K ga ρ H (.d (.tup l)) (.ref p) from ra)
  cases e
  rw [enumD_len]
  refine ⟨z1, fun i hi => ?_, fun i hi => ⟨xs, h1, by rw [r1.length]; exact hi⟩, fun i x H' hi ⟨T, y, e1, e2, e3, hx⟩ => ?_⟩
  · obtain ⟨x, it, e1, _⟩ := ix_lt r1 hi
    exact ⟨xs, x, h1, e1⟩
  · subst e1 e3
    obtain ⟨z, it, e4, e5, e6⟩ := ix_lt r1 hi
    rw [hx xs h1] at e4; cases e4
    refine ⟨gr_new e2, _, enumD_get e5, ?_⟩
    rw [show 0 + i = i from Nat.zero_add i]
    exact rd_pair e2 (by simp [RD]) e6
theorem zipD_get : ∀ {l m : List D} {i : Nat} {x y : D}, l[i]? = some x → m[i]? = some y → (zipD l m)[i]? = some (.tup [x, y])
  | [], _, _, _, _, e, _ => by simp at e
  | _ :: _, [], _, _, _, _, e => by simp at e
  | a :: l, b :: m, 0, x, y, e, e' => by simp at e e'; subst e e'; simp [zipD]
  | a :: l, b :: m, i + 1, x, y, e, e' => by
    simp only [zipD, List.getElem?_cons_succ] at e e' ⊢
    exact zipD_get e e'
theorem zipD_len : ∀ {l m : List D}, (zipD l m).length = min l.length m.length
  | [], _ => by simp [zipD]
  | _ :: _, [] => by simp [zipD]
  | a :: l, b :: m => by simp [zipD, zipD_len]
theorem itok_zip {a b : Av} {l m : List D} {p q : Addr} (ha : LSrc a l) (hb : LSrc b m) : ItOk K ga (Itz K p q) [a, b] [.ref p, .ref q] [l, m] (zipD l m) := by
  intro ρ σd hd σ H s r h
  obtain ⟨v, w, e, ra, rb⟩ := r.two
  cases e
  rw [stands_two, Bool.and_eq_true] at h
  obtain ⟨p', xs, e, h1, r1, z1⟩ := src_list ha s ra h.1
  cases e
  obtain ⟨q', ys, e, h2, r2, z2⟩ := src_list hb s rb h.2
  cases e
  rw [zipD_len]
  refine ⟨Nat.le_trans (Nat.min_le_left _ _) z1, fun i hi => ?_, fun i hi => ⟨xs, ys, h1, h2, by rw [r1.length, r2.length]; omega⟩, fun i x H' hi ⟨T, y, z, e1, e2, e3, hx, hy⟩ => ?_⟩
  · obtain ⟨x, it, e1, _⟩ := ix_lt r1 (show i < l.length by omega)
    obtain ⟨y, it2, e2, _⟩ := ix_lt r2 (show i < m.length by omega)
    exact ⟨xs, ys, x, y, h1, h2, e1, e2⟩
  · subst e1 e3
    obtain ⟨x, it, e4, e5, e6⟩ := ix_lt r1 (show i < l.length by omega)
    obtain ⟨y, it2, e7, e8, e9⟩ := ix_lt r2 (show i < m.length by omega)
    rw [hx xs h1] at e4; cases e4
    rw [hy ys h2] at e7; cases e7
    exact ⟨gr_new e2, _, zipD_get e5 e8, rd_pair e2 e6 e9⟩
theorem itok_zipT {l m : List D} {p q : Addr} : ItOk K ga (RZ.ItzT K p q) [.d (.tup l), .d (.tup m)] [.ref p, .ref q] [l, m] (zipD l m) := by
  intro ρ σd hd σ H s r h
  obtain ⟨v, w, e, ra, rb⟩ := r.two
  cases e
  obtain ⟨p', xs, e, h1, r1, z1⟩ := vtupZ (show VwR K ga ρ H (.d (.tup l)) (.ref p) from ra)
  cases e
  obtain ⟨q', ys, e, h2, r2, z2⟩ := vtupZ (show VwR K ga ρ H (.d (.tup m)) (.ref q) from rb)
  cases e
  rw [zipD_len]
  refine ⟨Nat.le_trans (Nat.min_le_left _ _) z1, fun i hi => ?_, fun i hi => ⟨xs, ys, h1, h2, by rw [r1.length, r2.length]; omega⟩, fun i x H' hi ⟨T, y, z, e1, e2, e3, hx, hy⟩ => ?_⟩
  · obtain ⟨x, it, e1, _⟩ := ix_lt r1 (show i < l.length by omega)
    obtain ⟨y, it2, e2, _⟩ := ix_lt r2 (show i < m.length by omega)
    exact ⟨xs, ys, x, y, h1, h2, e1, e2⟩
  · subst e1 e3
    obtain ⟨x, it, e4, e5, e6⟩ := ix_lt r1 (show i < l.length by omega)
    obtain ⟨y, it2, e7, e8, e9⟩ := ix_lt r2 (show i < m.length by omega)
    rw [hx xs h1] at e4; cases e4
    rw [hy ys h2] at e7; cases e7
    exact ⟨gr_new e2, _, zipD_get e5 e8, rd_pair e2 e6 e9⟩

theorem srcOf_r {a : Av} {u : Vw} {v : V} (s : SR K ga ρ σd hd σ H) (r : AvR K ga ρ σd σ H a v) (e : vw σd hd a = some u) : AvR K ga ρ σd σ H (srcOf a u) v := by
  have h := vw_ok s r e
  cases u with
  | d x => exact h
  | c c => exact r
theorem srcOf_tm {a : Av} {u : Vw} {v : V} {b : Addr} (f : Tm [srcOf a u] [v] b) : Tm [a] [v] b := by
  rcases f with ⟨c, e, e2⟩ | f
  · cases u with
    | d x => cases e
    | c c' => exact .inl ⟨c, e, e2⟩
  · exact f.elim
theorem srcOf_l {a : Av} {u : Vw} {l : List D} (e : vw σd hd a = some u) (h : lstOf u = some l) : LSrc (srcOf a u) l ∧ stands1 (srcOf a u) l σd hd = true := by
  cases u with
  | c c => exact src_of e h
  | d x =>
    cases x <;> simp [lstOf] at h
    subst h
    exact ⟨⟨fun c e => (nomatch e), fun x e => by cases e; rfl, fun x e => (nomatch e)⟩, rfl⟩
theorem seq_kinds {u : Vw} {l : List D} (h : seqOf u = some l) : lstOf u = some l ∨ u = .d (.tup l) := by
  unfold seqOf at h
  split at h
  · cases h; exact .inl rfl
  · cases h; exact .inr rfl
  · cases h; exact .inl rfl
  · cases h
theorem ti_seq {m : M Av} {σ H} {Rr : L2.It → Hp → Prop} (h : TI1 K ga fld Wx (bnd m fun a => bnd (view a) fun v => match seqOf v with | some l => ret ([srcOf a v], [l], l) | none => fail) σ H Rr) :
    iList K (TA1 K ga fld Wx m) σ H Rr ∨ iTup K (TA1 K ga fld Wx m) σ H Rr := by
  obtain ⟨ρ, σd, hd, s, h⟩ := h
  unfold bnd at h
  cases e1 : m σd hd with
  | bad => simp [e1, R.bnd] at h
  | ex c d σ1 h1 => exact .inl ⟨ρ, σd, hd, s, by simpa [e1, R.bnd] using h⟩
  | ok a σ1 h1 =>
    simp only [e1, R.bnd, view] at h
    cases e2 : vw σ1 h1 a with
    | none => simp [e2] at h
    | some v =>
      simp only [e2] at h
      cases e3 : seqOf v with
      | none => simp [e3, fail] at h
      | some l =>
        simp only [e3, ret] at h
        rcases seq_kinds e3 with e4 | e4
        · refine .inl ⟨ρ, σd, hd, s, ?_⟩
          simp only [e1]
          intro ρ1 H1 x s1 t1 r1
          obtain ⟨p, xs, rfl, h2, r2⟩ := lst_ok (vw_ok s1 r1.1 e2) e4
          obtain ⟨ls, st⟩ := srcOf_l (hd := h1) e2 e4
          exact ⟨p, rfl, ⟨xs, h2⟩, h ρ1 H1 _ [.ref p] s1 t1 ⟨.ref p, [], rfl, srcOf_r s1 r1.1 e2, rfl, fun _ _ f => f.elim⟩ (fun b f => r1.2 b (srcOf_tm f)) (by rw [stands_one]; exact st) (itok_list ls)⟩
        · refine .inr ⟨ρ, σd, hd, s, ?_⟩
          simp only [e1]
          intro ρ1 H1 x s1 t1 r1
          subst e4
          obtain ⟨p, xs, rfl, h2, r2⟩ := vtup (vw_ok s1 r1.1 e2)
          exact ⟨p, rfl, ⟨xs, h2⟩, h ρ1 H1 _ [.ref p] s1 t1 ⟨.ref p, [], rfl, srcOf_r s1 r1.1 e2, rfl, fun _ _ f => f.elim⟩ (fun b f => r1.2 b (srcOf_tm f)) (by rw [stands_one]; rfl) itok_tup⟩
/-- rows as the sources of walks -/
theorem ti_row {ms : M (List Av)} {f : List Av → List Vw → M Wk} {σ H} {Rr : L2.It → Hp → Prop} {S : List V → Hp → Prop} (h : TI1 K ga fld Wx (bnd ms fun as => bnd (views as) fun vs => f as vs) σ H Rr)
    (k : ∀ {ρ σd hd H as vs us}, SR K ga ρ σd hd σ H → AvsR K ga ρ σd σ H as vs → VwsR K ga ρ H us vs → views as σd hd = .ok us σd hd → (∀ c d σ' h', f as us σd hd ≠ .ex c d σ' h') →
      (∀ {src ls items}, f as us σd hd = .ok (src, ls, items) σd hd → ∀ J svs, AvsR K ga ρ σd σ H src svs → (∀ b, Tm src svs b → Tm as vs b) → stands src ls σd hd = true → ItOk K ga J src svs ls items → Rr J H) → f as us σd hd ≠ .bad → S vs H)
    (pure_ : ∀ as us σd hd, f as us σd hd = .bad ∨ ∃ r, f as us σd hd = .ok r σd hd) : TL1 K ga fld Wx ms σ H S := by
  obtain ⟨ρ, σd, hd, s, h⟩ := h
  refine ⟨ρ, σd, hd, s, ?_⟩
  unfold bnd at h
  cases e1 : ms σd hd with
  | bad => simp [e1, R.bnd] at h
  | ex c d σ1 h1 => simpa [e1, R.bnd] using h
  | ok as σ1 h1 =>
    simp only [e1, R.bnd] at h
    intro ρ1 H1 vs s1 t1 r1
    rcases views_ok s1 r1.1 with e2 | ⟨us, e2, hu⟩
    · simp [e2] at h
    · simp only [e2] at h
      rcases pure_ as us σ1 h1 with e3 | ⟨⟨src, ls, items⟩, e3⟩
      · simp [e3] at h
      · simp only [e3] at h
        refine k s1 r1.1 hu e2 (fun c d σ' h' z => by rw [e3] at z; cases z) (fun {src' ls' items'} e4 J svs q nt st it => ?_) (by rw [e3]; simp)
        rw [e3] at e4
        cases e4
        exact h ρ1 H1 J svs s1 t1 q (fun b f => r1.2 b (nt b f)) st it
theorem ti_rng {ms : M (List Av)} {σ H} {Rr : L2.It → Hp → Prop} (n : Nat) (hn : ∀ {as σd hd σd' hd'}, ms σd hd = .ok as σd' hd' → as.length = n) (h : TI1 K ga fld Wx (bnd ms fun as => bnd (views as) fun vs => match rngOf vs with | some l => ret ([], [], l) | none => fail) σ H Rr) :
    TL1 K ga fld Wx ms σ H fun vs H1 => (n = 1 → ∃ j : Int, vs = [.int j] ∧ -(2 ^ 62) ≤ j ∧ j < 2 ^ 62 ∧ Rr (Itr 0 j.toNat) H1) ∧
      (n = 2 → ∃ i j : Int, vs = [.int i, .int j] ∧ (-(2 ^ 62) ≤ i ∧ i < 2 ^ 62 ∧ -(2 ^ 62) ≤ j ∧ j < 2 ^ 62) ∧ Rr (Itr i (j - i).toNat) H1) := by
  have h0 := ti_row (S := fun vs H1 => (∃ j : Int, vs = [.int j] ∧ -(2 ^ 62) ≤ j ∧ j < 2 ^ 62 ∧ Rr (Itr 0 j.toNat) H1) ∨ (∃ i j : Int, vs = [.int i, .int j] ∧ (-(2 ^ 62) ≤ i ∧ i < 2 ^ 62 ∧ -(2 ^ 62) ≤ j ∧ j < 2 ^ 62) ∧ Rr (Itr i (j - i).toNat) H1))
    (f := fun _ vs => match rngOf vs with | some l => ret ([], [], l) | none => fail) h (fun {ρ σd hd H as vs us} s r hu e nx hr nb => ?_) (fun as us σd hd => ?_)
  · obtain ⟨ρ, σd, hd, s, h0⟩ := h0
    refine ⟨ρ, σd, hd, s, ?_⟩
    cases e1 : ms σd hd with
    | bad => simp [e1] at h0
    | ex c d σ1 h1 => simpa [e1] using h0
    | ok as σ1 h1 =>
      simp only [e1] at h0
      intro ρ1 H1 vs s1 t1 r1
      have hl : vs.length = n := by rw [r1.1.length]; exact hn e1
      rcases h0 ρ1 H1 vs s1 t1 r1 with ⟨j, e, q⟩ | ⟨i, j, e, q⟩
      · subst e
        exact ⟨fun _ => ⟨j, rfl, q⟩, fun z => by simp at hl; omega⟩
      · subst e
        exact ⟨fun z => by simp at hl; omega, fun _ => ⟨i, j, rfl, q⟩⟩
  · cases e2 : rngOf us with
    | none => simp [e2, fail] at nb
    | some l =>
      have fin : ∀ J, ItOk K ga J [] [] [] l → Rr J H := fun J it => hr (src := []) (ls := []) (items := l) (by simp only [e2]; rfl) J [] rfl (fun b f => f.elim) rfl it
      unfold rngOf at e2
      split at e2
      · rename_i j
        split at e2
        · rename_i hj
          cases e2
          cases hu with
          | cons ha hu =>
            cases hu
            cases vi ha
            have hz : (SZ : Int) < 2 ^ 62 := by decide
            exact .inl ⟨j, rfl, hj.1, by have := hj.2; omega, fin _ (itok_rng (by omega))⟩
        · cases e2
      · rename_i i j
        split at e2
        · rename_i hj
          cases e2
          cases hu with
          | cons ha hu =>
            cases hu with
            | cons hb hu =>
              cases hu
              cases vi ha; cases vi hb
              exact .inr ⟨i, j, rfl, ⟨hj.1, hj.2.1, hj.2.2.1, hj.2.2.2.1⟩, fin _ (itok_rng (by omega))⟩
        · cases e2
      · cases e2
  · cases e2 : rngOf us with
    | none => exact .inl (by simp [e2, fail])
    | some l => exact .inr ⟨([], [], l), by simp [e2, ret]⟩
theorem paired1 {u : Vw} {vs : List V} (h : VwsR K ga ρ H [u] vs) : ∃ v, vs = [v] ∧ VwR K ga ρ H u v := by
  cases h with
  | cons a b => cases b; exact ⟨_, rfl, a⟩
theorem paired2 {u w : Vw} {vs : List V} (h : VwsR K ga ρ H [u, w] vs) : ∃ v x, vs = [v, x] ∧ VwR K ga ρ H u v ∧ VwR K ga ρ H w x := by
  cases h with
  | cons a b =>
    obtain ⟨x, rfl, hx⟩ := paired1 b
    exact ⟨_, x, rfl, a, hx⟩
theorem views1 {a : Av} {us : List Vw} (e : views [a] σd hd = .ok us σd hd) : ∃ u, us = [u] ∧ vw σd hd a = some u := by
  cases h : vw σd hd a with
  | none => simp [views, bnd, view, h, R.bnd] at e
  | some u =>
    simp [views, bnd, view, h, R.bnd, ret] at e
    exact ⟨u, e.symm, rfl⟩
theorem views2 {a b : Av} {us : List Vw} (e : views [a, b] σd hd = .ok us σd hd) : ∃ u w, us = [u, w] ∧ vw σd hd a = some u ∧ vw σd hd b = some w := by
  cases h : vw σd hd a with
  | none => simp [views, bnd, view, h, R.bnd] at e
  | some u =>
    cases h' : vw σd hd b with
    | none => simp [views, bnd, view, h, h', R.bnd] at e
    | some w =>
      simp [views, bnd, view, h, h', R.bnd, ret] at e
      exact ⟨u, w, e.symm, rfl, rfl⟩
theorem ti_enum {ms : M (List Av)} {σ H} {Rr : L2.It → Hp → Prop} (h : TI1 K ga fld Wx (bnd ms fun as => bnd (views as) fun vs => match as, vs with
    | [a], [v] => match lstOf v with
      | some l => ret ([srcOf a v], [l], enumD 0 l)
      | none => match tupOf v with
        | some l => ret ([srcOf a v], [l], enumD 0 l)
        | none => fail
    | _, _ => fail) σ H Rr) : iEnumA K (TL1 K ga fld Wx ms) σ H Rr := by
  refine ti_row (f := fun as vs => match as, vs with
    | [a], [v] => match lstOf v with
      | some l => ret ([srcOf a v], [l], enumD 0 l)
      | none => match tupOf v with
        | some l => ret ([srcOf a v], [l], enumD 0 l)
        | none => fail
    | _, _ => fail) h (fun {ρ σd hd H as vs us} s r hu e nx hr nb => ?_) (fun as us σd hd => ?_)
  · match as, us, e with
    | [a], [v], e =>
      obtain ⟨u, eu, e2⟩ := views1 e
      cases eu
      obtain ⟨x, rfl, hx⟩ := paired1 hu
      obtain ⟨x', ex, rx⟩ := r.one
      cases ex
      cases e3 : lstOf v with
      | some l =>
        obtain ⟨p, xs, rfl, h2, r2⟩ := lst_ok hx e3
        obtain ⟨ls, st⟩ := srcOf_l (hd := hd) e2 e3
        exact ⟨p, xs, rfl, .inl ⟨h2, hr (src := [srcOf a v]) (ls := [l]) (items := enumD 0 l) (by simp only [e3]; rfl) _ [.ref p] ⟨.ref p, [], rfl, srcOf_r s rx e2, rfl, fun _ _ f => f.elim⟩ (fun b f => srcOf_tm f) (by rw [stands_one]; exact st) (itok_enum ls)⟩⟩
      | none =>
        cases e5 : tupOf v with
        | none => simp [e3, e5, fail] at nb
        | some l =>
          obtain ⟨p, xs, rfl, h2, r2⟩ := tup_ok hx e5
          have ev : v = .d (.tup l) := by
            unfold tupOf at e5
            split at e5
            · cases e5; rfl
            · cases e5
          subst ev
          exact ⟨p, xs, rfl, .inr ⟨h2, hr (src := [srcOf a (.d (.tup l))]) (ls := [l]) (items := enumD 0 l) (by simp only [e3, e5]; rfl) _ [.ref p] ⟨.ref p, [], rfl, srcOf_r s rx e2, rfl, fun _ _ f => f.elim⟩ (fun b f => srcOf_tm f) rfl itok_enumT⟩⟩
    | [], _, e => simp [fail] at nb
    | _ :: _ :: _, _, e => simp [fail] at nb
    | [_], [], e => simp [fail] at nb
    | [_], _ :: _ :: _, e => simp [fail] at nb
  · match as, us with
    | [a], [v] =>
      cases e3 : lstOf v with
      | some l => exact .inr ⟨([srcOf a v], [l], enumD 0 l), by simp [e3, ret]⟩
      | none =>
        cases e5 : tupOf v with
        | none => exact .inl (by simp [e3, e5, fail])
        | some l => exact .inr ⟨([srcOf a v], [l], enumD 0 l), by simp [e3, e5, ret]⟩
    | [], _ => exact .inl rfl
    | _ :: _ :: _, _ => exact .inl rfl
    | [_], [] => exact .inl rfl
    | [_], _ :: _ :: _ => exact .inl rfl

theorem ti_zip {ms : M (List Av)} {σ H} {Rr : L2.It → Hp → Prop} (h : TI1 K ga fld Wx (bnd ms fun as => bnd (views as) fun vs => match as, vs with
    | [a, b], [v, u] => match lstOf v, lstOf u with
      | some l, some r => ret ([srcOf a v, srcOf b u], [l, r], zipD l r)
      | _, _ => match tupOf v, tupOf u with
        | some l, some r => ret ([srcOf a v, srcOf b u], [l, r], zipD l r)
        | _, _ => fail
    | _, _ => fail) σ H Rr) : RZ.iZipA K (TL1 K ga fld Wx ms) σ H Rr := by
  refine ti_row (f := fun as vs => match as, vs with
    | [a, b], [v, u] => match lstOf v, lstOf u with
      | some l, some r => ret ([srcOf a v, srcOf b u], [l, r], zipD l r)
      | _, _ => match tupOf v, tupOf u with
        | some l, some r => ret ([srcOf a v, srcOf b u], [l, r], zipD l r)
        | _, _ => fail
    | _, _ => fail) h (fun {ρ σd hd H as vs us} s r hu e nx hr nb => ?_) (fun as us σd hd => ?_)
  · match as, us, e with
    | [a, b], [v, u], e =>
      obtain ⟨v', u', eu, e1, e2⟩ := views2 e
      cases eu
      obtain ⟨x, y, rfl, hx, hy⟩ := paired2 hu
      obtain ⟨x', y', ex, rx, ry⟩ := r.two
      cases ex
      have nt : ∀ b', Tm [srcOf a v, srcOf b u] [x, y] b' → Tm [a, b] [x, y] b' := fun b' f => by
        rcases f with f | f
        · exact (srcOf_tm (.inl f)).elim .inl fun z => z.elim
        · exact .inr (srcOf_tm f)
      have av : AvsR K ga ρ σd σ H [srcOf a v, srcOf b u] [x, y] := by
        obtain ⟨_, _, eq, _, _, dd⟩ := r
        cases eq
        refine ⟨x, [y], rfl, srcOf_r s rx e1, ⟨y, [], rfl, srcOf_r s ry e2, rfl, fun _ _ f => f.elim⟩, fun b' hb f => ?_⟩
        have h1 := srcOf_tm (v := x) (b := b') (.inl hb)
        have h2 := srcOf_tm (v := y) (b := b') f
        exact dd b' (h1.elim id fun z => z.elim) h2
      cases e3 : lstOf v with
      | some l =>
        cases e4 : lstOf u with
        | some m =>
          obtain ⟨p, xs, rfl, h2, r2⟩ := lst_ok hx e3
          obtain ⟨q, ys, rfl, h3, r3⟩ := lst_ok hy e4
          obtain ⟨ls, st⟩ := srcOf_l (hd := hd) e1 e3
          obtain ⟨ms', st'⟩ := srcOf_l (hd := hd) e2 e4
          exact ⟨p, q, xs, ys, rfl, .inl ⟨h2, h3, hr (src := [srcOf a v, srcOf b u]) (ls := [l, m]) (items := zipD l m) (by simp only [e3, e4]; rfl) _ [.ref p, .ref q] av nt (by rw [stands_two, st, st']; rfl) (itok_zip ls ms')⟩⟩
        | none =>
          exfalso
          have : tupOf v = none := by
            unfold lstOf at e3
            split at e3 <;> first | rfl | cases e3
          simp [e3, e4, this, fail] at nb
      | none =>
        cases e5 : tupOf v with
        | none => simp [e3, e5, fail] at nb
        | some l =>
          cases e6 : tupOf u with
          | none => simp [e3, e5, e6, fail] at nb
          | some m =>
            obtain ⟨p, xs, rfl, h2, r2⟩ := tup_ok hx e5
            obtain ⟨q, ys, rfl, h3, r3⟩ := tup_ok hy e6
            have ev : v = .d (.tup l) := by
              unfold tupOf at e5
              split at e5
              · cases e5; rfl
              · cases e5
            have eu : u = .d (.tup m) := by
              unfold tupOf at e6
              split at e6
              · cases e6; rfl
              · cases e6
            subst ev eu
            exact ⟨p, q, xs, ys, rfl, .inr ⟨h2, h3, hr (src := [.d (.tup l), .d (.tup m)]) (ls := [l, m]) (items := zipD l m) rfl _ [.ref p, .ref q] av nt rfl itok_zipT⟩⟩
    | [], _, e => simp [fail] at nb
    | [_], _, e => simp [fail] at nb
    | _ :: _ :: _ :: _, _, e => simp [fail] at nb
    | [_, _], [], e => simp [fail] at nb
    | [_, _], [_], e => simp [fail] at nb
    | [_, _], _ :: _ :: _ :: _, e => simp [fail] at nb
  · match as, us with
    | [a, b], [v, u] =>
      cases e3 : lstOf v <;> cases e4 : lstOf u <;> cases e5 : tupOf v <;> cases e6 : tupOf u <;> first
        | (refine .inl ?_; simp only [e3, e4, e5, e6]; rfl)
        | (rename_i l m; refine .inr ⟨([srcOf a v, srcOf b u], [l, m], zipD l m), ?_⟩; simp only [e3, e4, e5, e6]; rfl)
        | (rename_i l m _; refine .inr ⟨([srcOf a v, srcOf b u], [l, m], zipD l m), ?_⟩; simp only [e3, e4, e5, e6]; rfl)
        | (rename_i l m _ _; refine .inr ⟨([srcOf a v, srcOf b u], [l, m], zipD l m), ?_⟩; simp only [e3, e4, e5, e6]; rfl)
    | [], _ => exact .inl rfl
    | [_], _ => exact .inl rfl
    | _ :: _ :: _ :: _, _ => exact .inl rfl
    | [_, _], [] => exact .inl rfl
    | [_, _], [_] => exact .inl rfl
    | [_, _], _ :: _ :: _ :: _ => exact .inl rfl
end
end Ev
end
section
set_option maxRecDepth 100000
set_option maxHeartbeats 2000000
/-! Ev9: comprehensions. -/
namespace Ev
open PySem L2

section
variable {K : PySem.W.Frag} {ga : Nat → Addr} {fld : Nat → Str} {ρ ρ' : List Addr} {σd σd' : List W} {hd hd' : List C} {σ σ' : List (Option V)} {H H' : Hp} {Wx : WX}
/-! ### wiping and restoring slots -/
theorem wipeW_len {σd : List W} : ∀ {own : List Nat}, (wipeW σd own).length = σd.length
  | [] => rfl
  | i :: is => by simp [wipeW, wipeW_len]
theorem wipeW_get {σd : List W} {j : Nat} : ∀ {own : List Nat}, (wipeW σd own)[j]? = if j ∈ own then (if j < σd.length then some W.none else none) else σd[j]?
  | [] => by simp [wipeW]
  | i :: is => by
    simp only [wipeW]
    by_cases h : j = i
    · subst h
      rw [List.getElem?_set]
      simp [wipeW_len]
    · rw [List.getElem?_set_ne (Ne.symm h), wipeW_get]
      simp [h]
theorem wipe_get {σ : List (Option V)} {j : Nat} : ∀ {own : List Nat}, (L2.wipe σ own)[j]? = if j ∈ own then (if j < σ.length then some (none : Option V) else none) else σ[j]?
  | [] => by simp [L2.wipe]
  | i :: is => by
    simp only [L2.wipe]
    by_cases h : j = i
    · subst h
      rw [List.getElem?_set]
      simp [L2.wipe_length]
    · rw [List.getElem?_set_ne (Ne.symm h), wipe_get]
      simp [h]
theorem keepW_len {σ0 : List W} : ∀ {own : List Nat} {σd : List W}, (keepW σ0 own σd).length = σd.length
  | [], _ => rfl
  | i :: is, σd => by simp [keepW, keepW_len]
theorem keepW_get {σ0 : List W} {j : Nat} : ∀ {own : List Nat} {σd : List W}, (keepW σ0 own σd)[j]? = if j ∈ own then (if j < σd.length then some (σ0.getD j .none) else none) else σd[j]?
  | [], σd => by simp [keepW]
  | i :: is, σd => by
    simp only [keepW]
    rw [keepW_get]
    by_cases hm : j ∈ is
    · simp [hm]
    · by_cases h : j = i
      · subst h
        simp only [hm, if_false, List.mem_cons, true_or, if_true]
        rw [List.getElem?_set]
        simp
      · rw [List.getElem?_set_ne (Ne.symm h)]
        simp [hm, h]
theorem wipe_idem {σ : List (Option V)} {own : List Nat} : L2.wipe (L2.wipe σ own) own = L2.wipe σ own := by
  apply List.ext_getElem?
  intro j
  rw [wipe_get, wipe_get, L2.wipe_length]
  by_cases h : j ∈ own <;> simp [h]
theorem SR.wiped (s : SR K ga ρ σd hd σ H) : ∀ (own : List Nat), SR K ga ρ (wipeW σd own) hd (L2.wipe σ own) H
  | [] => s
  | i :: is => (SR.wiped s is).drop
theorem Step.wiped : ∀ (own : List Nat), Step ρ σd σ H ρ (wipeW σd own) (L2.wipe σ own) H
  | [] => Step.refl
  | i :: is => (Step.wiped is).trans (Step.slot (by simp))
theorem SR.restore {ρ1 σ1 h1 H1} {own : List Nat} (s1 : SR K ga ρ1 σ1 h1 σ H1) (ho : ∀ i ∈ own, ∀ c, σ1[i]? ≠ some (W.c c)) (s : SR K ga ρ σd hd (L2.wipe σ own) H) (pre : ∃ t, ρ = ρ1 ++ t) (k : Stay H1 H) : SR K ga ρ (keepW σ1 own σd) hd σ H := by
  have ln : σd.length = σ.length := by rw [s.len, L2.wipe_length]
  have out : ∀ {j : Nat}, j ∉ own → (L2.wipe σ own)[j]? = σ[j]? := fun {j} h => by rw [wipe_get, if_neg h]
  have inn : ∀ {j : Nat} {w : W}, j ∈ own → (keepW σ1 own σd)[j]? = some w → w ≠ .none → σ1[j]? = some w := fun {j w} h e hw => by
    rw [keepW_get, if_pos h] at e
    split at e
    · simp only [Option.some.injEq] at e
      rw [List.getD_eq_getElem?_getD] at e
      cases q : σ1[j]? with
      | none => rw [q] at e; exact absurd e.symm hw
      | some w' => rw [q] at e; simp at e; rw [e]
    · cases e
  refine ⟨by rw [keepW_len]; exact ln, fun j x e => ?_, fun j c e => ?_, fun i j c c' a e1 e2 e3 e4 => ?_, fun j c a e1 e2 => ?_, s.nd, s.lenH, s.cell, s.tin⟩
  · by_cases h : j ∈ own
    · obtain ⟨v, h2, r⟩ := s1.slotD j x (inn h e (by simp))
      exact ⟨v, h2, RD.mono pre k x r⟩
    · rw [keepW_get, if_neg h] at e
      rw [← out h]
      exact s.slotD j x e
  · by_cases h : j ∈ own
    · exact absurd (inn h e (by simp)) (ho j h c)
    · rw [keepW_get, if_neg h] at e
      rw [← out h]
      exact s.slotC j c e
  · by_cases h : i ∈ own
    · exact absurd (inn h e1 (by simp)) (ho i h c)
    · by_cases h' : j ∈ own
      · exact absurd (inn h' e2 (by simp)) (ho j h' c')
      · rw [keepW_get, if_neg h] at e1
        rw [keepW_get, if_neg h'] at e2
        exact s.inj i j c c' a e1 e2 (by rw [out h]; exact e3) (by rw [out h']; exact e4)
  · by_cases h : j ∈ own
    · exact absurd (inn h e1 (by simp)) (ho j h c)
    · rw [keepW_get, if_neg h] at e1
      exact s.off j c a e1 (by rw [out h]; exact e2)
theorem fp_restore {σ1 : List W} {own : List Nat} {a : Addr} (ho : ∀ i ∈ own, ∀ c, σ1[i]? ≠ some (W.c c)) (f : Fp ρ (keepW σ1 own σd) σ a) : Fp ρ σd (L2.wipe σ own) a := by
  rcases f with f | ⟨j, c, e1, e2⟩
  · exact .inl f
  · by_cases h : j ∈ own
    · exfalso
      rw [keepW_get, if_pos h] at e1
      split at e1
      · simp only [Option.some.injEq] at e1
        rw [List.getD_eq_getElem?_getD] at e1
        cases q : σ1[j]? with
        | none => rw [q] at e1; simp at e1
        | some w' => rw [q] at e1; simp at e1; exact ho j h c (by rw [q, e1])
      · cases e1
    · rw [keepW_get, if_neg h] at e1
      exact .inr ⟨j, c, e1, by rw [wipe_get, if_neg h]; exact e2⟩
def tgSlots : Tg → List Nat
  | .n i => [i]
  | .t is => is
/-- the target's store, and what it leaves -/
theorem setAll_wipe {own : List Nat} : ∀ {is : List Nat} {l : List D} {xs : List V} {σd σd' : List W} {σ : List (Option V)}, (∀ i ∈ is, i ∈ own) → SR K ga ρ σd hd σ H → RDs K ga ρ H l xs → setAll is l σd = some σd' →
    xs.length = is.length ∧ ∃ σ', SR K ga ρ σd' hd σ' H ∧ Step ρ σd σ H ρ σd' σ' H ∧ L2.wipe σ' own = L2.wipe σ own ∧ (∀ Q : List (Option V) → Hp → Prop, Q σ' H → gsOf is xs σ H Q)
  | [], [], xs, σd, σd', σ, _, s, r, e => by
    simp only [setAll, Option.some.injEq] at e
    subst e
    have r : xs = [] := by simpa [RDs] using r
    subst r
    exact ⟨rfl, σ, s, Step.refl, rfl, fun Q q => ⟨rfl, q⟩⟩
  | i :: is, x :: l, xs, σd, σd', σ, hi, s, r, e => by
    simp only [setAll] at e
    simp only [RDs] at r
    obtain ⟨v, us, rfl, rx, rs⟩ := r
    obtain ⟨h1, σ', s', t', w', k⟩ := setAll_wipe (fun j h => hi j (List.mem_cons_of_mem _ h)) (s.setD (i := i) rx) rs e
    refine ⟨by simp [h1], σ', s', (Step.slot (by simp)).trans t', ?_, fun Q q => ⟨v, us, rfl, k Q q⟩⟩
    rw [w']
    apply List.ext_getElem?
    intro j
    rw [wipe_get, wipe_get, List.length_set]
    by_cases h : j ∈ own
    · simp [h]
    · simp only [h, if_false]
      rw [List.getElem?_set_ne fun z => h (by rw [← z]; exact hi i List.mem_cons_self)]
  | [], _ :: _, _, _, _, _, _, _, _, e => by simp [setAll] at e
  | _ :: _, [], _, _, _, _, _, _, _, e => by simp [setAll] at e
theorem bind_wipe {own : List Nat} {tg : Tg} {it : D} {x : V} (ht : ∀ i ∈ tgSlots tg, i ∈ own) (s : SR K ga ρ σd hd σ H) (r : RD K ga ρ H it x) (e : bindT tg it σd hd = .ok () σd' hd') :
    hd' = hd ∧ ∃ σ', SR K ga ρ σd' hd σ' H ∧ Step ρ σd σ H ρ σd' σ' H ∧ L2.wipe σ' own = L2.wipe σ own ∧ ∀ Q : List (Option V) → Hp → Prop, Q σ' H → gOf K tg x σ H Q := by
  cases tg with
  | n i =>
    simp only [bindT, R.ok.injEq, true_and] at e
    obtain ⟨rfl, rfl⟩ := e
    refine ⟨rfl, _, s.setD r, Step.slot (by simp), ?_, fun Q q => q⟩
    apply List.ext_getElem?
    intro j
    rw [wipe_get, wipe_get, List.length_set]
    by_cases h : j ∈ own
    · simp [h]
    · simp only [h, if_false]
      rw [List.getElem?_set_ne fun z => h (by rw [← z]; exact ht i (by simp [tgSlots]))]
  | t is =>
    simp only [bindT] at e
    split at e
    · rename_i l
      split at e
      · rename_i σ1 h1
        simp only [R.ok.injEq, true_and] at e
        obtain ⟨rfl, rfl⟩ := e
        simp only [RD] at r
        obtain ⟨a, xs, rfl, ht', rs, _⟩ := r
        obtain ⟨h2, σ', s', t', w', k⟩ := setAll_wipe ht s rs h1
        exact ⟨rfl, σ', s', t', w', fun Q q => ⟨a, xs, rfl, ht', h2, k Q q⟩⟩
      · cases e
    · cases e

/-! ### the loop -/
abbrev Wn : WX := fun _ _ _ _ => False
theorem AvsR.apart {D : Addr} {H1 : Hp} : ∀ {as : List Av} {vs : List V}, AvsR K ga ρ σd σ H as vs → (∀ b, Tm as vs b → b ≠ D) → (∃ t, ρ' = ρ ++ t) → (∀ a o, H a = some o → ¬ Fp ρ σd σ a → a ≠ D → Kp H1 a o) → Stay H H1 → (∀ a, Fp ρ' σd' σ a → Fp ρ σd σ a ∨ H a = none) → AvsR K ga ρ' σd' σ H1 as vs
  | [], _, r, _, _, _, _, _ => r
  | a :: as, _, ⟨v, ws, e, h, q, d⟩, hd, pre, keep, st, new => by
    subst e
    refine ⟨v, ws, rfl, ?_, AvsR.apart q (fun b f => hd b (.inr f)) pre keep st new, d⟩
    cases a with
    | d x => exact RD.mono pre st x h
    | s i => exact h
    | c c =>
      obtain ⟨p, o, rfl, h1, h2, nf⟩ := h
      exact ⟨p, o, rfl, (keep p o h1 nf (hd p (.inl ⟨c, rfl, rfl⟩))).of h2.nt, h2.mono pre st, fun f => (new p f).elim nf fun z => by rw [z] at h1; cases h1⟩
/-- what stands at the head of a turn -/
structure Head (K : PySem.W.Frag) (ga : Nat → Addr) (own : List Nat) (src : List Av) (svs : List V) (ls : List (List D)) (n : Nat) (D : Addr) (rest : Nat → List W → List C → List Ev.D → Prop) (ρ1 : List Addr) (σw : List W) (σv : List (Option V)) (Hs : Hp) (i m : Nat) (Hc : Hp) : Prop where
  ex : ∃ ρc σc hc acc accD, m = n - i ∧ i ≤ n ∧ SR K ga ρc σc hc σv Hc ∧ Hc D = some (.lst acc) ∧ RDs K ga ρc Hc accD acc ∧ ¬ Fp ρc σc σv D ∧ acc.length ≤ i ∧
    (∃ t, ρc = ρ1 ++ t) ∧ (∀ a o, Hs a = some o → ¬ Fp ρ1 σw σv a → a ≠ D → Kp Hc a o) ∧ Stay Hs Hc ∧ (∀ a, Fp ρc σc σv a → Fp ρ1 σw σv a ∨ Hs a = none) ∧
    AvsR K ga ρc σc σv Hc src svs ∧ stands src ls σc hc = true ∧ rest i σc hc accD
theorem ta_comp {own : List Nat} {tg : Tg} {mit : M Wk} {mtest : M Bool} {melt : M Av} {wi : L2.TI} {σ H} {Q : VK} (ht : ∀ i ∈ tgSlots tg, i ∈ own) (hwi : ∀ Rr, TI1 K ga fld Wx mit σ H Rr → wi σ H Rr)
    (h : TA1 K ga fld Wx (bnd mit fun s => bnd (wiping own (stands s.1 s.2.1) (compL own tg mtest melt (stands s.1 s.2.1) s.2.2)) fun ys => ret (.c (.lst ys))) σ H Q) :
    tLc wi (gOf K tg) (TB1 K ga fld Wn mtest) (TA1 K ga fld Wn melt) own σ H Q := by
  refine hwi _ ?_
  obtain ⟨ρ, σd, hd, s, h⟩ := h
  refine ⟨ρ, σd, hd, s, ?_⟩
  unfold bnd at h
  cases e1 : mit σd hd with
  | bad => simp [e1, R.bnd] at h
  | ex c d σ1 h1 => simpa [e1, R.bnd] using h
  | ok S σ1 h1 =>
    obtain ⟨src, ls, items⟩ := S
    simp only [e1, R.bnd] at h
    intro ρ1 H1 J svs s1 t1 a1 n1 st1 it1 D hD
    have hzz : items.length ≤ sizeLine := by rw [← szl]; exact (it1 s1 a1 st1).1
    unfold wiping at h
    by_cases hok : (stands src ls (wipeW σ1 own) h1 && ownFree own σ1) = true
    · rw [if_pos hok] at h
      rw [Bool.and_eq_true] at hok
      obtain ⟨stw, hall⟩ := hok
      have ho : ∀ i ∈ own, ∀ c, σ1[i]? ≠ some (W.c c) := fun i hi c e => by
        have := List.all_eq_true.mp hall i hi
        rw [e] at this
        cases this
      cases e2 : compL own tg mtest melt (stands src ls) items (wipeW σ1 own) h1 with
      | bad => simp [e2] at h
      | ex c d σ2 h2 => simp [e2] at h
      | ok ys σ2 h2 =>
        simp only [e2, ret] at h
        -- the head's state
        have sw := s1.wiped own
        have svLen : ∀ {i : Nat} {w : W}, (wipeW σ1 own)[i]? = some w → w ≠ .none → i ∉ own := fun {i w} e hw hi => by
          rw [wipeW_get, if_pos hi] at e
          split at e
          · exact hw (Option.some.inj e).symm
          · cases e
        have aw : AvsR K ga ρ1 (wipeW σ1 own) (L2.wipe σ own) H1 src svs := by
          -- a source that is a slot of the comprehension's own does not stand
          have gen : ∀ {src : List Av} {ls : List (List Ev.D)} {svs : List V}, AvsR K ga ρ1 σ1 σ H1 src svs → stands src ls (wipeW σ1 own) h1 = true → AvsR K ga ρ1 (wipeW σ1 own) (L2.wipe σ own) H1 src svs := by
            intro src
            induction src with
            | nil => intro ls svs r _; exact r
            | cons a as ih =>
              rintro ls svs ⟨v, ws, e, hv, q, dd⟩ hs
              cases ls with
              | nil => simp [stands] at hs
              | cons l ls =>
                simp only [stands, Bool.and_eq_true] at hs
                refine ⟨v, ws, e, ?_, ih q hs.2, dd⟩
                cases a with
                | d x => exact hv
                | c c =>
                  obtain ⟨p, o, e', h3, h4, nf⟩ := hv
                  exact ⟨p, o, e', h3, h4, fun f => ((Step.wiped (ρ := ρ1) (σd := σ1) (σ := σ) (H := H1) own).new p f).elim nf fun z => by rw [z] at h3; cases h3⟩
                | s i =>
                  have hi : i ∉ own := fun hi => by
                    have h5 := hs.1
                    have e9 : vw (wipeW σ1 own) h1 (.s i) = none := by
                      simp only [vw]
                      rw [wipeW_get, if_pos hi]
                      by_cases hlt : i < σ1.length <;> simp [hlt]
                    simp only [stands1, e9, Option.bind_none] at h5
                    cases h5
                  show (L2.wipe σ own)[i]? = some (some v)
                  rw [wipe_get, if_neg hi]
                  exact hv
          exact gen a1 stw
        have nD1 : ¬ Fp ρ1 (wipeW σ1 own) (L2.wipe σ own) D := sw.nofp hD
        have tD : ∀ b, Tm src svs b → b ≠ D := fun b f z => by
          obtain ⟨⟨o, ho⟩, _⟩ := a1.tm f
          rw [z, hD] at ho; cases ho
        refine ⟨Head K ga own src svs ls items.length D (fun i σc hc accD => ∃ ysr, compL own tg mtest melt (stands src ls) (items.drop i) σc hc = .ok ysr σ2 h2 ∧ accD ++ ysr = ys) ρ1 (wipeW σ1 own) (L2.wipe σ own) (upd H1 D (.lst [])), ⟨items.length, ⟨ρ1, wipeW σ1 own, h1, [], [], by simp, Nat.zero_le _, sw.fresh hD (fun _ z => by cases z), upd_same, RDs.nil, nD1, Nat.zero_le _, ⟨[], by simp⟩, fun a o e _ _ => .inl e, Stay.refl _, fun a f => .inl f, ?_, stw, ys, by simpa using e2, by simp⟩⟩, ?_⟩
        · exact AvsR.apart (D := D) aw tD ⟨[], by simp⟩ (fun a o e _ nd => .inl (by rw [upd_ne nd]; exact e)) (stay_new hD) fun a f => .inl f
        · rintro i m Hc ⟨ρc, σc, hc, acc, accD, rfl, hi, sc, hDc, rc, nDc, hal, pre, keep, stay, new, ac, stc, ysr, ec, ey⟩
          obtain ⟨_, go, stop, yld⟩ := it1 sc ac stc
          by_cases hlt : i < items.length
          · -- a turn
            refine .inr ⟨go i hlt, Head K ga own src svs ls items.length D (fun i σc hc accD => ∃ ysr, compL own tg mtest melt (stands src ls) (items.drop i) σc hc = .ok ysr σ2 h2 ∧ accD ++ ysr = ys) ρ1 (wipeW σ1 own) (L2.wipe σ own) (upd H1 D (.lst [])) (i + 1) (items.length - (i + 1)), fun H' w => ⟨_, by omega, w⟩, fun x H' hy => ?_⟩
            obtain ⟨gr, it, eit, rit⟩ := yld i x H' hlt hy
            have ed : items.drop i = it :: items.drop (i + 1) := by
              rw [List.drop_eq_getElem_cons hlt]
              congr 1
              rw [List.getElem?_eq_getElem hlt] at eit
              exact Option.some.inj eit
            rw [ed] at ec
            simp only [compL, bnd] at ec
            have sg : SR K ga ρc σc hc (L2.wipe σ own) H' ∧ Step ρc σc (L2.wipe σ own) Hc ρc σc (L2.wipe σ own) H' := by
              rcases gr with rfl | ⟨p, o, hp, nt, rfl⟩
              · exact ⟨sc, Step.refl⟩
              · exact ⟨sc.fresh hp nt, Step.fresh hp⟩
            cases e3 : bindT tg it σc hc with
            | bad => simp [e3, R.bnd] at ec
            | ex c d σ3 h3 => exact absurd e3 bind_no
            | ok u σb hb =>
              cases u
              simp only [e3, R.bnd] at ec
              obtain ⟨rfl, σb', sb, tb, wb, kb⟩ := bind_wipe ht sg.1 rit e3
              refine kb _ ⟨by rw [wb, wipe_idem], ρc, σb, hb, sb, ?_⟩
              cases e4 : mtest σb hb with
              | bad => simp [e4, bnd, R.bnd] at ec
              | ex c d σ3 h3 => simp [e4, bnd, R.bnd] at ec
              | ok b σt ht' =>
                simp only [e4, bnd, R.bnd] at ec
                intro ρt Ht b' st tt eb
                have eb : b = b' := eb
                subst eb
                have t01 := (sg.2.trans tb).trans tt
                -- the turn's end, from a state of the block
                have fin : ∀ {ρn σn hn Hn accn accDn}, SR K ga ρn σn hn σb' Hn → (∃ t, ρn = ρc ++ t) → (∀ a o, Hc a = some o → ¬ Fp ρc σc (L2.wipe σ own) a → a ≠ D → Kp Hn a o) → Stay Hc Hn → (∀ a, Fp ρn σn σb' a → Fp ρc σc (L2.wipe σ own) a ∨ Hc a = none) →
                    Hn D = some (.lst accn) → RDs K ga ρn Hn accDn accn → accn.length ≤ i + 1 → ¬ Fp ρn σn σb' D → (∃ ysr, R.bnd (if stands src ls (wipeW σn own) hn then R.ok () (wipeW σn own) hn else .bad) (fun _ => compL own tg mtest melt (stands src ls) (items.drop (i + 1))) = .ok ysr σ2 h2 ∧ accDn ++ ysr = ys) →
                    Head K ga own src svs ls items.length D (fun i σc hc accD => ∃ ysr, compL own tg mtest melt (stands src ls) (items.drop i) σc hc = .ok ysr σ2 h2 ∧ accD ++ ysr = ys) ρ1 (wipeW σ1 own) (L2.wipe σ own) (upd H1 D (.lst [])) (i + 1) (items.length - (i + 1)) Hn := by
                  intro ρn σn hn Hn accn accDn sn pren keepn stayn newn hDn rn hln nDn hrest
                  have sn' := sn.wiped own
                  rw [wb, wipe_idem] at sn'
                  have newn' : ∀ a, Fp ρn (wipeW σn own) (L2.wipe σ own) a → Fp ρn σn σb' a := fun a f => by
                    have tw := Step.wiped (ρ := ρn) (σd := σn) (σ := σb') (H := fun _ => none) own
                    rw [wb, wipe_idem] at tw
                    rcases f with f | ⟨j, c, f1, f2⟩
                    · exact .inl f
                    · rw [wipeW_get] at f1
                      split at f1
                      · split at f1 <;> cases f1
                      · rename_i hj
                        refine .inr ⟨j, c, f1, ?_⟩
                        have e5 : (L2.wipe σb' own)[j]? = (L2.wipe σ own)[j]? := by rw [wb, wipe_idem]
                        rw [wipe_get, if_neg hj] at e5
                        rw [e5]; exact f2
                  obtain ⟨ysr', er, ey'⟩ := hrest
                  by_cases hst : stands src ls (wipeW σn own) hn = true
                  · rw [if_pos hst] at er
                    refine ⟨⟨ρn, wipeW σn own, hn, accn, accDn, rfl, by omega, sn', hDn, rn, fun f => nDn (newn' D f), hln, ?_, fun a o e nf nd => ?_, stay.trans stayn, fun a f => ?_, ?_, hst, ysr', er, ey'⟩⟩
                    · obtain ⟨t, rfl⟩ := pre
                      obtain ⟨u, rfl⟩ := pren
                      exact ⟨t ++ u, by simp⟩
                    · exact (keep a o e nf nd).trans fun u hu => keepn a u hu (fun f => (new a f).elim nf fun z => by rw [e] at z; cases z) nd
                    · rcases newn a (newn' a f) with z | z
                      · exact new a z
                      · by_cases hf : Fp ρ1 (wipeW σ1 own) (L2.wipe σ own) a
                        · exact .inl hf
                        · cases e : (upd H1 D (.lst [])) a with
                          | none => exact .inr rfl
                          | some o =>
                            by_cases ha : a = D
                            · rw [ha] at f; exact absurd (newn' D f) nDn
                            · exact ((keep a o e hf ha).ne z).elim
                    · exact AvsR.apart (D := D) ac tD pren keepn stayn fun a f => newn a (newn' a f)
                  · rw [if_neg hst] at er
                    cases er
                cases b with
                | false =>
                  simp only [Bool.false_eq_true, if_false, compL.wp, bnd] at ec ⊢
                  have hDt : Ht D = some (.lst acc) := (t01.keep D _ hDc nDc).of fun _ z => by cases z
                  refine fin st t01.pre (fun a o e nf _ => t01.keep a o e nf) (t01.stay sc) t01.new hDt (RDs.mono t01.pre (t01.stay sc) _ rc) (by omega) (fun f => (t01.new D f).elim nDc fun z => by rw [hDc] at z; cases z) ⟨ysr, ?_, ey⟩
                  exact ec
                | true =>
                  simp only [if_true, bnd] at ec ⊢
                  refine ⟨ρt, σt, ht', st, ?_⟩
                  cases e5 : melt σt ht' with
                  | bad => simp [e5, bnd, R.bnd] at ec
                  | ex c d σ3 h3 => simp [e5, bnd, R.bnd] at ec
                  | ok a σe he =>
                    simp only [e5, bnd, R.bnd] at ec
                    intro ρe He y se te re
                    have t02 := t01.trans te
                    cases e6 : toD a σe he with
                    | bad => simp [e6] at ec
                    | ex c d σ3 h3 => exact absurd e6 toD_no
                    | ok yd σy hy' =>
                      simp only [e6] at ec
                      obtain ⟨ρy, sy, py, ry, fy⟩ := toD_ok se re.1 e6
                      have t03 : Step ρc σc (L2.wipe σ own) Hc ρy σy σb' He := by
                        have hN : ∀ b, Tm [a] [y] b → Fp ρc σc (L2.wipe σ own) b ∨ Hc b = none := fun b f => by
                          rcases re.2 b f with z | z
                          · exact t01.new b z
                          · by_cases hf : Fp ρc σc (L2.wipe σ own) b
                            · exact .inl hf
                            · cases e : Hc b with
                              | none => exact .inr rfl
                              | some o => exact ((t01.keep b o e hf).ne z).elim
                        obtain ⟨⟨u, hu⟩, k2, n2⟩ := t02
                        obtain ⟨w, rfl⟩ := py
                        exact ⟨⟨u ++ w, by rw [hu]; simp⟩, k2, fun b f => (fy b f).elim (n2 b) (hN b)⟩
                      have hDe : He D = some (.lst acc) := (t03.keep D _ hDc nDc).of fun _ z => by cases z
                      have nDe : ¬ Fp ρy σy σb' D := fun f => (t03.new D f).elim nDc fun z => by rw [hDc] at z; cases z
                      refine ⟨acc, hDe, by omega, ?_⟩
                      have kD : Stay He (upd He D (.lst (acc ++ [y]))) := fun b u e m => by
                        by_cases hb : b = D
                        · subst hb
                          rw [hDe] at e; cases e
                          exact absurd trivial m
                        · rw [upd_ne hb]; exact e
                      have sD := sy.stayed kD (fun b f => upd_ne fun z => nDe (z ▸ f)) trivial
                      cases e7 : compL.wp own (stands src ls) σy hy' with
                      | bad => simp [e7, bnd, R.bnd] at ec
                      | ex c d σ3 h3 => simp [e7, bnd, R.bnd] at ec
                      | ok u σz hz' =>
                        simp only [e7, bnd, R.bnd] at ec
                        cases e8 : compL own tg mtest melt (stands src ls) (items.drop (i + 1)) σz hz' with
                        | bad => simp [e8, bnd, R.bnd] at ec
                        | ex c d σ3 h3 => simp [e8, bnd, R.bnd] at ec
                        | ok ys2 σ3 h3 =>
                          simp only [e8, bnd, R.bnd, ret, R.ok.injEq] at ec
                          obtain ⟨rfl, rfl, rfl⟩ := ec
                          refine fin (accn := acc ++ [y]) (accDn := accD ++ [yd]) sD t03.pre (fun a o e nf nd => (t03.keep a o e nf).trans fun u hu => .inl (by rw [upd_ne nd]; exact hu)) ((t03.stay sc).trans kD) (fun a f => t03.new a f) upd_same ?_ (by simp; omega) nDe ⟨ys2, ?_, by simp [← ey]⟩
                          · exact (RDs.mono (t03.pre) ((t03.stay sc).trans kD) _ rc).append (RDs.cons (RD.mono ⟨[], by simp⟩ kD _ ry) RDs.nil)
                          · unfold compL.wp at e7
                            by_cases hst : stands src ls (wipeW σy own) hy' = true
                            · rw [if_pos hst] at e7 ⊢
                              simp only [R.ok.injEq] at e7
                              obtain ⟨_, rfl, rfl⟩ := e7
                              exact e8
                            · rw [if_neg hst] at e7
                              cases e7
          · -- the end
            have hie : i = items.length := by omega
            subst hie
            refine .inl ⟨stop _ (Nat.le_refl _), ?_⟩
            rw [List.drop_length] at ec
            simp only [compL, ret, R.ok.injEq] at ec
            obtain ⟨rfl, rfl, rfl⟩ := ec
            have st1c : Stay H1 Hc := (stay_new hD).trans stay
            have sr := s1.restore ho sc pre st1c
            have ey2 : accD = ys := by simpa using ey
            subst ey2
            have tt : Step ρ σd σ H ρc (keepW σ1 own σc) σ Hc := by
              refine step_over t1 (N := fun b => b = D) (fun b e => ?_) pre (fun a o e nf nd => ?_) fun a f => ?_
              · rw [e]; exact t1.nw (.inr hD)
              · exact keep a o (by rw [upd_ne nd]; exact e) (fun f => nf (((Step.wiped (ρ := ρ1) (σd := σ1) (σ := σ) (H := H1) own).new a f).elim id fun z => by rw [e] at z; cases z)) nd
              · have f2 := fp_restore ho f
                rcases new a f2 with z | z
                · rcases (Step.wiped (ρ := ρ1) (σd := σ1) (σ := σ) (H := H1) own).new a z with z | z
                  · exact .inl z
                  · exact .inr (.inr z)
                · by_cases ha : a = D
                  · exact .inr (.inl ha)
                  · rw [upd_ne ha] at z
                    exact .inr (.inr z)
            exact h ρc Hc (.ref D) sr tt ⟨⟨D, _, rfl, hDc, ⟨acc, rfl, rc, by rw [← rc.length, szl]; omega⟩, fun f => nDc (fp_restore ho f)⟩, fun b => tm1 fun ⟨c, _, z⟩ => by
              cases z
              exact t1.nw (.inr hD)⟩
    · rw [if_neg hok] at h
      exact h.elim
end
end Ev
end
section
set_option maxRecDepth 100000
set_option maxHeartbeats 2000000
/-! Ev10: statements. -/
namespace Ev
open PySem L2

section
variable {K : PySem.W.Frag} {ga : Nat → Addr} {fld : Nat → Str} {ρ ρ' : List Addr} {σd σd' : List W} {hd hd' : List C} {σ σ' : List (Option V)} {H H' : Hp} {Wx : WX}
theorem Step.nw2 {ρ0 σd0 σ0 H0} (t : Step ρ0 σd0 σ0 H0 ρ σd σ H) {b : Addr} (h : Fp ρ σd σ b ∨ H b = none) : Fp ρ0 σd0 σ0 b ∨ H0 b = none := by
  rcases h with k | k
  · exact t.new b k
  · by_cases hf : Fp ρ0 σd0 σ0 b
    · exact .inl hf
    · cases e : H0 b with
      | none => exact .inr rfl
      | some o => exact ((t.keep b o e hf).ne k).elim
/-- how a statement may end, told from an anchor -/
def FinF (K : PySem.W.Frag) (ga : Nat → Addr) (fld : Nat → Str) (Wx : WX) (D : Ends) (ρ0 : List Addr) (σd0 : List W) (σ0 : List (Option V)) (H0 : Hp) : F → Prop
  | .nx σd' hd' => ∀ ρ' σ' H', SR K ga ρ' σd' hd' σ' H' → Step ρ0 σd0 σ0 H0 ρ' σd' σ' H' → D.nx σ' H'
  | .bk σd' hd' => ∀ ρ' σ' H', SR K ga ρ' σd' hd' σ' H' → Step ρ0 σd0 σ0 H0 ρ' σd' σ' H' → D.bk σ' H'
  | .ct σd' hd' => ∀ ρ' σ' H', SR K ga ρ' σd' hd' σ' H' → Step ρ0 σd0 σ0 H0 ρ' σd' σ' H' → D.ct σ' H'
  | .rt w hd' => w ≠ .none → ∀ ρ' σd' σ' H' v, SR K ga ρ' σd' hd' σ' H' → Step ρ0 σd0 σ0 H0 ρ' σd' σ' H' → AvR K ga ρ' σd' σ' H' (wAv w) v → (∀ b, Tm [wAv w] [v] b → Fp ρ0 σd0 σ0 b ∨ H0 b = none) → D.rt v H'
  | .ex c d σd' hd' => ∀ ρ' σ' H' (dx : Addr) v, SR K ga ρ' σd' hd' σ' H' → Step ρ0 σd0 σ0 H0 ρ' σd' σ' H' → RD K ga ρ' H' d v → H' dx = some (.xd [(fld c, v)]) → Wx (.ref (ga c)) (some dx) σ' H'
  | .bad => False
theorem FinF.anch {D : Ends} {ρ0 σd0 σ0 H0} (t : Step ρ0 σd0 σ0 H0 ρ σd σ H) : ∀ {f : F}, FinF K ga fld Wx D ρ0 σd0 σ0 H0 f → FinF K ga fld Wx D ρ σd σ H f
  | .nx _ _, h => fun ρ' σ' H' s t' => h ρ' σ' H' s (t.trans t')
  | .bk _ _, h => fun ρ' σ' H' s t' => h ρ' σ' H' s (t.trans t')
  | .ct _ _, h => fun ρ' σ' H' s t' => h ρ' σ' H' s (t.trans t')
  | .rt _ _, h => fun hw ρ' σd' σ' H' v s t' a n => h hw ρ' σd' σ' H' v s (t.trans t') a fun b f => t.nw2 (n b f)
  | .ex _ _ _ _, h => fun ρ' σ' H' dx v s t' r x => h ρ' σ' H' dx v s (t.trans t') r x
  | .bad, h => h
/-- a statement's reading -/
def TS1 (K : PySem.W.Frag) (ga : Nat → Addr) (fld : Nat → Str) (Wx : WX) (f : List W → List C → F) : TS := fun D σ H => ∃ ρ σd hd, SR K ga ρ σd hd σ H ∧ FinF K ga fld Wx D ρ σd σ H (f σd hd)
theorem bnd_toF {α β : Type} {m : M α} {f : α → M β} {k : β → List W → List C → F} : (bnd m f σd hd).toF k = (m σd hd).toF fun a σ h => (f a σ h).toF k := by
  unfold bnd
  cases m σd hd <;> rfl
/-- an evaluation, and what comes behind it -/
theorem fin_tg {α β : Type} {Rel : List Addr → List W → List (Option V) → Hp → List Addr → List W → Hp → α → β → Prop} {D : Ends} {ρ0 σd0 σ0 H0} {m : M α} {k : α → List W → List C → F} {Q : β → Hp → Prop} (s : SR K ga ρ σd hd σ H) (t : Step ρ0 σd0 σ0 H0 ρ σd σ H)
    (h : FinF K ga fld Wx D ρ0 σd0 σ0 H0 ((m σd hd).toF k))
    (c : ∀ {ρ' σd' hd' H' a v}, SR K ga ρ' σd' hd' σ H' → Step ρ0 σd0 σ0 H0 ρ' σd' σ H' → Step ρ σd σ H ρ' σd' σ H' → Rel ρ σd σ H ρ' σd' H' a v → FinF K ga fld Wx D ρ0 σd0 σ0 H0 (k a σd' hd') → Q v H') : TG K ga fld Rel Wx m σ H Q := by
  refine ⟨ρ, σd, hd, s, ?_⟩
  cases e : m σd hd with
  | bad => simp [e, R.toF, FinF] at h
  | ex cc d σ1 h1 =>
    simp only [e, R.toF] at h
    exact fun ρ' H' dx v s' t' r x => h ρ' σ H' dx v s' (t.trans t') r x
  | ok a σ1 h1 =>
    simp only [e, R.toF] at h
    exact fun ρ' H' b s' t' r => c s' (t.trans t') t' r h
theorem toW_no {a : Av} {c : Nat} {d : D} : toW a σd hd ≠ .ex c d σd' hd' := by
  intro e
  cases a with
  | d y => simp [toW, ret] at e
  | c c => simp [toW, ret] at e
  | s i =>
    simp only [toW] at e
    split at e <;> cases e
/-- a value moved -/
theorem toW_ok {a : Av} {v : V} {w : W} (s : SR K ga ρ σd hd σ H) (r : AvR K ga ρ σd σ H a v) (e : toW a σd hd = .ok w σd' hd') :
    hd' = hd ∧ SR K ga ρ σd' hd σ H ∧ w ≠ .none ∧ AvR K ga ρ σd' σ H (wAv w) v ∧ (∀ b, Fp ρ σd' σ b → Fp ρ σd σ b) ∧ (∀ b, Tm [wAv w] [v] b → Fp ρ σd σ b ∨ Tm [a] [v] b) := by
  cases a with
  | d x =>
    simp only [toW, ret, R.ok.injEq] at e
    obtain ⟨rfl, rfl, rfl⟩ := e
    exact ⟨rfl, s, by simp, r, fun b f => f, fun b f => .inr f⟩
  | c c =>
    simp only [toW, ret, R.ok.injEq] at e
    obtain ⟨rfl, rfl, rfl⟩ := e
    exact ⟨rfl, s, by simp, r, fun b f => f, fun b f => .inr f⟩
  | s i =>
    have r : σ[i]? = some (some v) := r
    simp only [toW] at e
    cases h : σd[i]? with
    | none => simp [h] at e
    | some u =>
      cases u with
      | none => simp [h] at e
      | d x =>
        simp only [h, R.ok.injEq] at e
        obtain ⟨rfl, rfl, rfl⟩ := e
        obtain ⟨u, h1, q⟩ := s.slotD i x h
        rw [r] at h1; cases h1
        exact ⟨rfl, s, by simp, q, fun b f => f, fun b f => .inr (by simpa [wAv, Tm] using f)⟩
      | c c =>
        simp only [h, R.ok.injEq] at e
        obtain ⟨rfl, rfl, rfl⟩ := e
        obtain ⟨p, o, h1, h2, q⟩ := s.slotC i c h
        rw [r] at h1; cases h1
        have fd : ∀ b, Fp ρ (σd.set i .none) σ b → Fp ρ σd σ b := fun b f => by
          rcases f with f | ⟨j, c', e1, e2⟩
          · exact .inl f
          · by_cases hj : j = i
            · subst hj
              rw [List.getElem?_set] at e1
              split at e1
              · split at e1 <;> simp at e1
              · simp at *
            · rw [List.getElem?_set_ne (Ne.symm hj)] at e1
              exact .inr ⟨j, c', e1, e2⟩
        refine ⟨rfl, s.drop', by simp, ⟨p, o, rfl, h2, q, fun f => ?_⟩, fd, fun b f => .inl ?_⟩
        · rcases f with f | ⟨j, c', e1, e2⟩
          · exact s.off i c p h r f
          · by_cases hj : j = i
            · subst hj
              rw [List.getElem?_set] at e1
              split at e1
              · split at e1 <;> simp at e1
              · simp at *
            · rw [List.getElem?_set_ne (Ne.symm hj)] at e1
              exact hj (s.inj j i c' c p e1 h e2 r)
        · rcases f with ⟨c', e1, e2⟩ | f
          · cases e2
            exact .inr ⟨i, c, h, r⟩
          · exact f.elim
/-- a value put into a slot -/
theorem SR.setW {i : Nat} {w : W} {v : V} (s : SR K ga ρ σd hd σ H) (hw : w ≠ .none) (r : AvR K ga ρ σd σ H (wAv w) v) : SR K ga ρ (σd.set i w) hd (σ.set i (some v)) H ∧ ∀ b, Fp ρ (σd.set i w) (σ.set i (some v)) b → Fp ρ σd σ b ∨ Tm [wAv w] [v] b := by
  have old : ∀ {b : Addr} {w : W} {v : V}, Fp ρ (σd.set i w) (σ.set i (some v)) b → Fp ρ σd σ b ∨ ((∃ c, w = .c c) ∧ v = .ref b) := fun {b w v} f => by
    rcases f with f | ⟨j, c', e1, e2⟩
    · exact .inl (.inl f)
    · by_cases hj : j = i
      · subst hj
        rw [List.getElem?_set] at e1 e2
        simp only [if_true] at e1 e2
        split at e1
        · split at e2
          · simp at e1 e2
            exact .inr ⟨⟨c', e1⟩, e2⟩
          · cases e2
        · cases e1
      · rw [List.getElem?_set_ne (Ne.symm hj)] at e1 e2
        exact .inl (.inr ⟨j, c', e1, e2⟩)
  cases w with
  | none => exact absurd rfl hw
  | d x => exact ⟨s.setD r, fun b f => (old f).imp id fun ⟨⟨c, z⟩, _⟩ => by cases z⟩
  | c c =>
    obtain ⟨p, o, rfl, h2, q, nf⟩ := r
    exact ⟨s.setC h2 q nf, fun b f => (old f).imp id fun ⟨_, z⟩ => .inl ⟨c, rfl, z⟩⟩
theorem ts_skip {D : Ends} (h : TS1 K ga fld Wx (fun σ h => .nx σ h) D σ H) : D.nx σ H := by
  obtain ⟨ρ, σd, hd, s, h⟩ := h
  exact h ρ σ H s Step.refl
theorem ts_brk {D : Ends} (h : TS1 K ga fld Wx (fun σ h => .bk σ h) D σ H) : D.bk σ H := by
  obtain ⟨ρ, σd, hd, s, h⟩ := h
  exact h ρ σ H s Step.refl
theorem ts_cont {D : Ends} (h : TS1 K ga fld Wx (fun σ h => .ct σ h) D σ H) : D.ct σ H := by
  obtain ⟨ρ, σd, hd, s, h⟩ := h
  exact h ρ σ H s Step.refl
theorem ts_retn {D : Ends} (h : TS1 K ga fld Wx (fun _ h => .rt (.d .non) h) D σ H) : D.rt .non H := by
  obtain ⟨ρ, σd, hd, s, h⟩ := h
  exact h (by simp) ρ σd σ H .non s Step.refl (by simp [wAv, AvR, RD]) fun b f => by simp [wAv, Tm] at f
theorem ts_expr {m : M Av} {D : Ends} (h : TS1 K ga fld Wx (fun σ h => (m σ h).toF fun _ σ h => .nx σ h) D σ H) : tDrop (TA1 K ga fld Wx m) D σ H := by
  obtain ⟨ρ, σd, hd, s, h⟩ := h
  exact fin_tg s Step.refl h fun {ρ' σd' hd' H' a v} s' t' _ _ h => h ρ' σ H' s' t'
theorem ts_asg {m : M Av} {i : Nat} {D : Ends} (h : TS1 K ga fld Wx (fun σ h => (bnd m toW σ h).toF fun w σ h => .nx (σ.set i w) h) D σ H) : tAsg (TA1 K ga fld Wx m) (gName i) D σ H := by
  obtain ⟨ρ, σd, hd, s, h⟩ := h
  simp only [bnd_toF] at h
  refine fin_tg s Step.refl h fun {ρ' σd' hd' H' a v} s' t' _ r h => ?_
  cases e : toW a σd' hd' with
  | bad => simp [e, R.toF, FinF] at h
  | ex c d σ1 h1 => exact absurd e toW_no
  | ok w σ1 h1 =>
    simp only [e, R.toF] at h
    obtain ⟨rfl, s1, hw, r1, f1, n1⟩ := toW_ok s' r.1 e
    obtain ⟨s2, f2⟩ := s1.setW (i := i) hw r1
    refine h ρ' _ H' s2 ⟨t'.pre, t'.keep, fun b f => ?_⟩
    rcases f2 b f with z | z
    · exact t'.new b (f1 b z)
    · rcases n1 b z with z | z
      · exact t'.new b z
      · exact r.2 b z
theorem ts_asgH {m : M Av} {i : Nat} {D : Ends} (h : TS1 K ga fld Wx (fun σ h => (bnd m toD σ h).toF fun x σ h => .nx (σ.set i (.d x)) h) D σ H) : tAsg (TA1 K ga fld Wx m) (gName i) D σ H := by
  obtain ⟨ρ, σd, hd, s, h⟩ := h
  simp only [bnd_toF] at h
  refine fin_tg s Step.refl h fun {ρ' σd' hd' H' a v} s' t' _ r h => ?_
  cases e : toD a σd' hd' with
  | bad => simp [e, R.toF, FinF] at h
  | ex c d σ1 h1 => exact absurd e toD_no
  | ok x σ1 h1 =>
    simp only [e, R.toF] at h
    obtain ⟨ρ1, s1, p1, r1, f1⟩ := toD_ok s' r.1 e
    obtain ⟨s2, f2⟩ := s1.setW (i := i) (w := .d x) (by simp) r1
    refine h ρ1 _ H' s2 ⟨?_, t'.keep, fun b f => ?_⟩
    · obtain ⟨t, rfl⟩ := t'.pre
      obtain ⟨u, rfl⟩ := p1
      exact ⟨t ++ u, by simp⟩
    · rcases f2 b f with z | z
      · exact (f1 b z).elim (t'.new b) (r.2 b)
      · simp [wAv, Tm] at z
/-- what is told becomes data: the state behind it -/
theorem toD_step {ρ0 σd0 σ0 H0} {a : Av} {v : V} {x : D} (s : SR K ga ρ σd hd σ H) (t : Step ρ0 σd0 σ0 H0 ρ σd σ H) (r : AvR K ga ρ σd σ H a v) (n : ∀ b, Tm [a] [v] b → Fp ρ0 σd0 σ0 b ∨ H0 b = none) (e : toD a σd hd = .ok x σd' hd') :
    ∃ ρ', SR K ga ρ' σd' hd' σ H ∧ Step ρ0 σd0 σ0 H0 ρ' σd' σ H ∧ RD K ga ρ' H x v ∧ (∃ u, ρ' = ρ ++ u) := by
  obtain ⟨ρ1, s1, p1, r1, f1⟩ := toD_ok s r e
  refine ⟨ρ1, s1, ⟨?_, t.keep, fun b f => (f1 b f).elim (t.new b) (n b)⟩, r1, p1⟩
  obtain ⟨t', h⟩ := t.pre
  obtain ⟨u, rfl⟩ := p1
  exact ⟨t' ++ u, by rw [h]; simp⟩
theorem ts_unp {m : M Av} {is : List Nat} {D : Ends} (h : TS1 K ga fld Wx (fun σ h => (bnd (bnd m toD) (bindT (.t is)) σ h).toF fun _ σ h => .nx σ h) D σ H) : tAsg (TA1 K ga fld Wx m) (gOf K (.t is)) D σ H := by
  obtain ⟨ρ, σd, hd, s, h⟩ := h
  simp only [bnd_toF] at h
  refine fin_tg s Step.refl h fun {ρ' σd' hd' H' a v} s' t' _ r h => ?_
  cases e : toD a σd' hd' with
  | bad => simp [e, R.toF, FinF] at h
  | ex c d σ1 h1 => exact absurd e toD_no
  | ok x σ1 h1 =>
    simp only [e, R.toF] at h
    obtain ⟨ρ1, s1, t1, r1, _⟩ := toD_step s' t' r.1 r.2 e
    cases e2 : bindT (.t is) x σ1 h1 with
    | bad => rw [e2] at h; exact h.elim
    | ex c d σ2 h2 => exact absurd e2 bind_no
    | ok u σ2 h2 =>
      cases u
      rw [e2] at h
      obtain ⟨rfl, σ', s2, t2, k⟩ := bind_ok s1 r1 e2
      exact k _ (h ρ1 σ' H' s2 (t1.trans t2))
theorem ts_ret {m : M Av} {D : Ends} (h : TS1 K ga fld Wx (fun σ h => (bnd m toW σ h).toF fun w _ h => .rt w h) D σ H) : tRet (TA1 K ga fld Wx m) D σ H := by
  obtain ⟨ρ, σd, hd, s, h⟩ := h
  simp only [bnd_toF] at h
  refine fin_tg s Step.refl h fun {ρ' σd' hd' H' a v} s' t' _ r h => ?_
  cases e : toW a σd' hd' with
  | bad => simp [e, R.toF, FinF] at h
  | ex c d σ1 h1 => exact absurd e toW_no
  | ok w σ1 h1 =>
    simp only [e, R.toF] at h
    obtain ⟨rfl, s1, hw, r1, f1, n1⟩ := toW_ok s' r.1 e
    exact h hw ρ' σ1 σ H' v s1 ⟨t'.pre, t'.keep, fun b f => t'.new b (f1 b f)⟩ r1 fun b f => (n1 b f).elim (t'.new b) (r.2 b)
theorem ts_if {m : M Bool} {f g : List W → List C → F} {D : Ends} (h : TS1 K ga fld Wx (fun σ h => (m σ h).toF fun k σ h => if k then f σ h else g σ h) D σ H) : tIfS (TB1 K ga fld Wx m) (TS1 K ga fld Wx f) (TS1 K ga fld Wx g) D σ H := by
  obtain ⟨ρ, σd, hd, s, h⟩ := h
  refine fin_tg s Step.refl h fun {ρ' σd' hd' H' a v} s' t' _ r h => ?_
  have r : a = v := r
  subst r
  cases a with
  | true => exact ⟨ρ', σd', hd', s', h.anch t'⟩
  | false => exact ⟨ρ', σd', hd', s', h.anch t'⟩
theorem ts_nil {D : Ends} (h : TS1 K ga fld Wx (fun σ h => .nx σ h) D σ H) : tNext D σ H := ts_skip h
theorem ts_cons {f g : List W → List C → F} {D : Ends} (h : TS1 K ga fld Wx (fun σ h => match f σ h with
    | .nx σ h => g σ h
    | .rt w h => .rt w h
    | .bk σ h => .bk σ h
    | .ct σ h => .ct σ h
    | .ex c d σ h => .ex c d σ h
    | .bad => .bad) D σ H) : tSeq (TS1 K ga fld Wx f) (TS1 K ga fld Wx g) D σ H := by
  obtain ⟨ρ, σd, hd, s, h⟩ := h
  refine ⟨ρ, σd, hd, s, ?_⟩
  simp only [] at h
  cases e : f σd hd with
  | nx σ1 h1 =>
    rw [e] at h
    exact fun ρ' σ' H' s' t' => ⟨ρ', σ1, h1, s', h.anch t'⟩
  | rt w h1 => rw [e] at h; exact h
  | bk σ1 h1 => rw [e] at h; exact h
  | ct σ1 h1 => rw [e] at h; exact h
  | ex c d σ1 h1 => rw [e] at h; exact h
  | bad => rw [e] at h; exact h.elim
end
end Ev
end
section
set_option maxRecDepth 100000
set_option maxHeartbeats 2000000
/-! Ev11: statements, second part. -/
namespace Ev
open PySem L2

section
variable {K : PySem.W.Frag} {ga : Nat → Addr} {fld : Nat → Str} {ρ ρ' : List Addr} {σd σd' : List W} {hd hd' : List C} {σ σ' : List (Option V)} {H H' : Hp} {Wx : WX}
/-! ### sources of for loops -/
/-- a told step between an expression and what comes behind it -/
theorem ta_ghost {m : M Av} {f : Av → M Av} {σ H Q} (hf : ∀ {ρ σd hd H a v σd' hd' b}, SR K ga ρ σd hd σ H → AvR K ga ρ σd σ H a v → f a σd hd = .ok b σd' hd' → ∃ ρ', SR K ga ρ' σd' hd' σ H ∧ (∃ t, ρ' = ρ ++ t) ∧ AvR K ga ρ' σd' σ H b v ∧ (∀ p, Fp ρ' σd' σ p → Fp ρ σd σ p ∨ Tm [a] [v] p) ∧ ∀ p, Tm [b] [v] p → Fp ρ σd σ p ∨ Tm [a] [v] p)
    (hn : ∀ {a σd hd c d σd' hd'}, f a σd hd ≠ .ex c d σd' hd') (h : TA1 K ga fld Wx (bnd m f) σ H Q) : TA1 K ga fld Wx m σ H Q := by
  obtain ⟨ρ, σd, hd, s, h⟩ := h
  refine ⟨ρ, σd, hd, s, ?_⟩
  unfold bnd at h
  cases e : m σd hd with
  | bad => simp [e, R.bnd] at h
  | ex c d σ1 h1 => simpa [e, R.bnd] using h
  | ok a σ1 h1 =>
    simp only [e, R.bnd] at h
    intro ρ1 H1 v s1 t1 r1
    cases e2 : f a σ1 h1 with
    | bad => simp [e2] at h
    | ex c d σ2 h2 => exact absurd e2 hn
    | ok b σ2 h2 =>
      simp only [e2] at h
      obtain ⟨ρ2, s2, p2, r2, f2, n2⟩ := hf s1 r1.1 e2
      have k : ∀ p, Fp ρ1 σ1 σ p ∨ Tm [a] [v] p → Fp ρ σd σ p ∨ H p = none := fun p f => f.elim (t1.new p) (r1.2 p)
      refine h ρ2 H1 v s2 ⟨?_, t1.keep, fun p f => k p (f2 p f)⟩ ⟨r2, fun p f => k p (n2 p f)⟩
      obtain ⟨t, ht⟩ := t1.pre
      obtain ⟨u, rfl⟩ := p2
      exact ⟨t ++ u, by rw [ht]; simp⟩
theorem fixA_ok {fx : Bool} {a b : Av} {v : V} (s : SR K ga ρ σd hd σ H) (r : AvR K ga ρ σd σ H a v) (e : fixA fx a σd hd = .ok b σd' hd') : ∃ ρ', SR K ga ρ' σd' hd' σ H ∧ (∃ t, ρ' = ρ ++ t) ∧ AvR K ga ρ' σd' σ H b v ∧ (∀ p, Fp ρ' σd' σ p → Fp ρ σd σ p) ∧ ∀ p, Tm [b] [v] p ↔ Tm [a] [v] p := by
  have tm0 : ∀ {x : D} {y : Nat} {p : Addr}, Tm [Av.d x] [v] p ↔ Tm [Av.s y] [v] p := fun {x y p} => by simp [Tm]
  have same : ∀ {a : Av}, AvR K ga ρ σd σ H a v → ret a σd hd = .ok b σd' hd' → ∃ ρ', SR K ga ρ' σd' hd' σ H ∧ (∃ t, ρ' = ρ ++ t) ∧ AvR K ga ρ' σd' σ H b v ∧ (∀ p, Fp ρ' σd' σ p → Fp ρ σd σ p) ∧ ∀ p, Tm [b] [v] p ↔ Tm [a] [v] p := fun {a} r e => by
    simp only [ret, R.ok.injEq] at e
    obtain ⟨rfl, rfl, rfl⟩ := e
    exact ⟨ρ, s, ⟨[], by simp⟩, r, fun p f => f, fun p => Iff.rfl⟩
  unfold fixA at e
  split at e
  · cases a with
    | d x => exact same r e
    | c c => exact same r e
    | s i =>
      simp only [fix1, bnd] at e
      cases e1 : toD (.s i) σd hd with
      | bad => simp [e1, R.bnd] at e
      | ex c d σ1 h1 => exact absurd e1 toD_no
      | ok x σ1 h1 =>
        simp only [e1, R.bnd, ret, R.ok.injEq] at e
        obtain ⟨rfl, rfl, rfl⟩ := e
        obtain ⟨ρ1, s1, p1, r1, f1⟩ := toD_ok s r e1
        exact ⟨ρ1, s1, p1, r1, fun p f => (f1 p f).elim id fun z => by simp [Tm] at z, fun p => tm0⟩
  · exact same r e
theorem fixA_no {fx : Bool} {a : Av} {c : Nat} {d : D} : fixA fx a σd hd ≠ .ex c d σd' hd' := by
  intro e
  unfold fixA at e
  split at e
  · cases a with
    | d x => simp [fix1, ret] at e
    | c c => simp [fix1, ret] at e
    | s i =>
      simp only [fix1, bnd] at e
      cases e1 : toD (.s i) σd hd with
      | bad => simp [e1, R.bnd] at e
      | ex c d σ1 h1 => exact absurd e1 toD_no
      | ok x σ1 h1 => simp [e1, R.bnd, ret] at e
  · simp [ret] at e
theorem ta_fix {fx : Bool} {m : M Av} {σ H Q} (h : TA1 K ga fld Wx (bnd m (fixA fx)) σ H Q) : TA1 K ga fld Wx m σ H Q :=
  ta_ghost (fun s r e => by
    obtain ⟨ρ', s', p, r', f, n⟩ := fixA_ok s r e
    exact ⟨ρ', s', p, r', fun p q => .inl (f p q), fun p q => .inr ((n p).mp q)⟩) fixA_no h
theorem fixAs_no {fx : Bool} {c : Nat} {d : D} : ∀ {as : List Av} {σd hd σd' hd'}, fixAs fx as σd hd ≠ .ex c d σd' hd'
  | [], _, _, _, _, e => by simp [fixAs, ret] at e
  | a :: as, σd, hd, _, _, e => by
    simp only [fixAs, bnd] at e
    cases e1 : fixA fx a σd hd with
    | bad => simp [e1, R.bnd] at e
    | ex c d σ1 h1 => exact absurd e1 fixA_no
    | ok x σ1 h1 =>
      simp only [e1, R.bnd, bnd] at e
      cases e2 : fixAs fx as σ1 h1 with
      | bad => simp [e2, R.bnd] at e
      | ex c d σ2 h2 => exact absurd e2 fixAs_no
      | ok y σ2 h2 => simp [e2, ret, R.bnd] at e
theorem fixAs_ok {fx : Bool} : ∀ {as : List Av} {vs : List V} {ρ : List Addr} {σd : List W} {hd : List C} {bs : List Av} {σd' : List W} {hd' : List C}, SR K ga ρ σd hd σ H → AvsR K ga ρ σd σ H as vs → fixAs fx as σd hd = .ok bs σd' hd' →
    ∃ ρ', SR K ga ρ' σd' hd' σ H ∧ (∃ t, ρ' = ρ ++ t) ∧ AvsR K ga ρ' σd' σ H bs vs ∧ (∀ p, Fp ρ' σd' σ p → Fp ρ σd σ p) ∧ (∀ p, Tm bs vs p ↔ Tm as vs p) ∧ bs.length = as.length
  | [], vs, ρ, σd, hd, bs, _, _, s, r, e => by
    simp only [fixAs, ret, R.ok.injEq] at e
    obtain ⟨rfl, rfl, rfl⟩ := e
    exact ⟨ρ, s, ⟨[], by simp⟩, r, fun p f => f, fun p => Iff.rfl, rfl⟩
  | a :: as, vs, ρ, σd, hd, bs, _, _, s, ⟨v, us, ev, h, q, d⟩, e => by
    subst ev
    simp only [fixAs, bnd] at e
    cases e1 : fixA fx a σd hd with
    | bad => simp [e1, R.bnd] at e
    | ex c d σ1 h1 => exact absurd e1 fixA_no
    | ok b σ1 h1 =>
      simp only [e1, R.bnd, bnd] at e
      cases e2 : fixAs fx as σ1 h1 with
      | bad => simp [e2, R.bnd] at e
      | ex c d σ2 h2 => exact absurd e2 fixAs_no
      | ok bs' σ2 h2 =>
        simp only [e2, ret, R.bnd, R.ok.injEq] at e
        obtain ⟨rfl, rfl, rfl⟩ := e
        obtain ⟨ρ1, s1, p1, r1, f1, n1⟩ := fixA_ok s h e1
        obtain ⟨ρ2, s2, p2, r2, f2, n2, l2⟩ := fixAs_ok s1 (AvsR.ghost p1 (fun p f => .inl (f1 p f)) q) e2
        refine ⟨ρ2, s2, ?_, ⟨v, us, rfl, ?_, r2, ?_⟩, fun p f => f1 p (f2 p f), fun p => ?_, by simp [l2]⟩
        · obtain ⟨t, rfl⟩ := p1
          obtain ⟨u, rfl⟩ := p2
          exact ⟨t ++ u, by simp⟩
        · have z : AvsR K ga ρ1 σ1 σ H [b] [v] := ⟨v, [], rfl, r1, rfl, fun _ _ f => f.elim⟩
          exact (AvsR.ghost (vs := [v]) p2 (fun p f => .inl (f2 p f)) z).one.elim fun w ⟨ew, hw⟩ => by cases ew; exact hw
        · intro p hp f
          have h1 : Tm [a] [v] p := (n1 p).mp (.inl hp)
          rcases h1 with h1 | h1
          · exact d p h1 ((n2 p).mp f)
          · exact h1.elim
        · constructor
          · rintro (f | f)
            · rcases (n1 p).mp (.inl f) with z | z
              · exact .inl z
              · exact z.elim
            · exact .inr ((n2 p).mp f)
          · rintro (f | f)
            · rcases (n1 p).mpr (.inl f) with z | z
              · exact .inl z
              · exact z.elim
            · exact .inr ((n2 p).mpr f)
theorem tl_fix {fx : Bool} {m : M (List Av)} {σ H Q} (h : TL1 K ga fld Wx (bnd m (fixAs fx)) σ H Q) : TL1 K ga fld Wx m σ H Q := by
  obtain ⟨ρ, σd, hd, s, h⟩ := h
  refine ⟨ρ, σd, hd, s, ?_⟩
  unfold bnd at h
  cases e : m σd hd with
  | bad => simp [e, R.bnd] at h
  | ex c d σ1 h1 => simpa [e, R.bnd] using h
  | ok a σ1 h1 =>
    simp only [e, R.bnd] at h
    intro ρ1 H1 v s1 t1 r1
    cases e2 : fixAs fx a σ1 h1 with
    | bad => simp [e2] at h
    | ex c d σ2 h2 => exact absurd e2 fixAs_no
    | ok b σ2 h2 =>
      simp only [e2] at h
      obtain ⟨ρ2, s2, p2, r2, f2, n2, _⟩ := fixAs_ok s1 r1.1 e2
      refine h ρ2 H1 v s2 ⟨?_, t1.keep, fun p f => t1.new p (f2 p f)⟩ ⟨r2, fun p f => r1.2 p ((n2 p).mp f)⟩
      obtain ⟨t, ht⟩ := t1.pre
      obtain ⟨u, rfl⟩ := p2
      exact ⟨t ++ u, by rw [ht]; simp⟩

/-! ### a, b = x, y -/
theorem ts_par {ms : M (List Av)} {i j : Nat} {D : Ends} (h : TS1 K ga fld Wx (fun σ h => (bnd ms toArgs σ h).toF fun ws σ h => match ws with
    | [a, b] => .nx ((σ.set i a).set j b) h
    | _ => .bad) D σ H) : tPar i j (TL1 K ga fld Wx ms) D σ H := by
  obtain ⟨ρ, σd, hd, s, h⟩ := h
  simp only [bnd_toF] at h
  refine fin_tg s Step.refl h fun {ρ' σd' hd' H' a v} s' t' _ r h => ?_
  cases e : toArgs a σd' hd' with
  | bad => simp [e, R.toF, FinF] at h
  | ex c d σ1 h1 => exact absurd e toArgs_no
  | ok ws σ1 h1 =>
    simp only [e, R.toF] at h
    obtain ⟨ρ1, s1, p1, r1, f1, n1, hw⟩ := toArgs_ok s' r.1 e
    match ws, h with
    | [wa, wb], h =>
      obtain ⟨x, us, rfl, hx, hu, dx⟩ := r1
      obtain ⟨y, us', rfl, hy, hu', _⟩ := hu
      have hu' : us' = [] := hu'
      subst hu'
      refine ⟨x, y, rfl, ?_⟩
      obtain ⟨s2, f2⟩ := s1.setW (i := i) (hw wa (by simp)) hx
      have hy2 : AvR K ga ρ1 (σ1.set i wa) (σ.set i (some x)) H' (wAv wb) y := by
        cases wb with
        | none => exact absurd rfl (hw .none (by simp))
        | d z => exact hy
        | c z =>
          obtain ⟨p, o, rfl, h2, h3, nf⟩ := hy
          refine ⟨p, o, rfl, h2, h3, fun f => ?_⟩
          rcases f2 p f with z | z
          · exact nf z
          · rcases z with z | z
            · exact dx p z (.inl ⟨_, rfl, rfl⟩)
            · exact z.elim
      obtain ⟨s3, f3⟩ := s2.setW (i := j) (hw wb (by simp)) hy2
      refine h ρ1 _ H' s3 ⟨?_, t'.keep, fun b f => ?_⟩
      · obtain ⟨t, ht⟩ := t'.pre
        obtain ⟨u, rfl⟩ := p1
        exact ⟨t ++ u, by rw [ht]; simp⟩
      · have tmn : ∀ b, Tm [wAv wa, wAv wb] [x, y] b → Fp ρ σd σ b ∨ H b = none := fun b f => r.2 b ((n1 b).mp f)
        rcases f3 b f with z | z
        · rcases f2 b z with z | z
          · exact t'.new b (f1 b z)
          · rcases z with z | z
            · exact tmn b (.inl z)
            · exact z.elim
        · exact tmn b (.inr z)

/-! ### i op= e -/
def rAug : Operator → R2
  | .Add => rI0 fun i j => .int (i + j)
  | .Sub => rI0 fun i j => .int (i - j)
  | .Mult => rI CMulW fun i j => .int (i * j)
  | .FloorDiv => rI CDivW fun i j => .int (i / j)
  | .Mod => rI (fun _ j => 0 < j) fun i j => .int (i % j)
  | _ => fun _ _ _ _ => False
theorem iop_mulW {X : Cx} : OpR X (inplaceOp .Mult) (rI CMulW fun i j => .int (i * j)) := opI fun _ _ _ _ _ _ _ hc q => PyProof.Rows.imul_int q hc.ok
theorem pip_aug {X : Cx} (op : Operator) : PIp X op (rAug op) := fun pins s σ H x y v u Q I rx ry q => by
  have no : ∀ {P : Prop}, False → P := fun f => f.elim
  cases op with
  | Add => exact augR iop_add I rx ry q
  | Sub => exact augR iop_sub I rx ry q
  | Mult => exact augR iop_mulW I rx ry q
  | FloorDiv => exact augR iop_fdivW I rx ry q
  | Mod => exact augR iop_mod I rx ry q
  | _ => exact no q
theorem ok_aug {op : Operator} {i j k : Int} (e : augI op i j = some k) {Q : VK} (q : Q (.int k) H) : rAug op (.int i) (.int j) H Q := by
  cases op <;> simp only [augI, binI] at e
  case Add => cases e; exact ⟨i, j, rfl, rfl, q⟩
  case Sub => cases e; exact ⟨i, j, rfl, rfl, q⟩
  case Mult =>
    split at e
    · rename_i h
      cases e
      exact ⟨i, j, rfl, rfl, (by unfold CMulW; simpa [mulOk] using h), q⟩
    · cases e
  case FloorDiv =>
    split at e
    · rename_i h
      cases e
      exact ⟨i, j, rfl, rfl, h, q⟩
    · cases e
  case Mod =>
    split at e
    · rename_i h
      cases e
      exact ⟨i, j, rfl, rfl, h, q⟩
    · cases e
  all_goals cases e
end
end Ev
end
section
set_option maxRecDepth 100000
set_option maxHeartbeats 2000000
/-! Ev12: statements, third part. -/
namespace Ev
open PySem L2

section
variable {K : PySem.W.Frag} {ga : Nat → Addr} {fld : Nat → Str} {ρ ρ' : List Addr} {σd σd' : List W} {hd hd' : List C} {σ σ' : List (Option V)} {H H' : Hp} {Wx : WX}
theorem augV_ok {op : Operator} {a b : Vw} {z : Av} (e : augV op a b = some z) : ∃ i j k, a = .d (.int i) ∧ b = .d (.int j) ∧ augI op i j = some k ∧ z = .d (.int k) := by
  unfold augV at e
  split at e
  · rename_i i j
    cases h : augI op i j with
    | none => simp [h] at e
    | some k =>
      simp only [h, Option.map_some, Option.some.injEq] at e
      exact ⟨i, j, k, rfl, rfl, h, e.symm⟩
  · cases e
theorem ts_aug {m : M Av} {i : Nat} {op : Operator} {D : Ends} (h : TS1 K ga fld Wx (fun σ h => match σ[i]? with
    | some (.d (.int x)) => (bnd (bnd m view) (fun v => ofO (augV op (.d (.int x)) v)) σ h).toF fun a σ h => match a with
      | .d y => .nx (σ.set i (.d y)) h
      | _ => .bad
    | _ => .bad) D σ H) : tAug i (TA1 K ga fld Wx m) (rAug op) D σ H := by
  obtain ⟨ρ, σd, hd, s, h⟩ := h
  simp only [] at h
  split at h
  · rename_i x hx
    obtain ⟨u, h1, r1⟩ := s.slotD i _ hx
    have r1 : u = .int x := by simpa [RD] using r1
    subst r1
    refine ⟨.int x, h1, ?_⟩
    simp only [bnd_toF] at h
    refine fin_tg s Step.refl h fun {ρ' σd' hd' H' a v} s' t' _ r h => ?_
    simp only [view] at h
    cases e : vw σd' hd' a with
    | none => simp [e, R.toF, FinF] at h
    | some w =>
      simp only [e, R.toF] at h
      cases e3 : augV op (.d (.int x)) w with
      | none => simp [e3, ofO, fail, FinF] at h
      | some z =>
        obtain ⟨i', j, k, he, hb, e2, rfl⟩ := augV_ok e3
        cases he
        subst hb
        cases vi (vw_ok s' r.1 e)
        simp only [e3, ofO, ret] at h
        refine ok_aug e2 ?_
        obtain ⟨s2, f2⟩ := s'.setW (i := i) (w := .d (.int k)) (v := .int k) (by simp) (by simp [wAv, AvR, RD])
        refine h ρ' _ H' s2 ⟨t'.pre, t'.keep, fun b f => ?_⟩
        rcases f2 b f with z | z
        · exact t'.new b z
        · simp [wAv, Tm] at z
  · exact h.elim

/-! ### o[i] = e -/
def rSet : V → V → V → Hp → (Hp → Prop) → Prop := fun o i v H Q => rSetL o i v H Q ∨ rSetD o i v H Q
theorem pset_set {X : Cx} (hu : X.A.units + 1 < cLine) : PSet X rSet := fun pins s σ H o i v ov iv u Q I ro ri rv h =>
  h.elim (set_list pins s σ H o i v ov iv u Q I ro ri rv) (set_dict hu pins s σ H o i v ov iv u Q I ro ri rv)
theorem ixN_lk {n j : Nat} {k : Int} (h : Ev.ixN n k = some j) : L2.ixN n k = some j := by
  unfold Ev.ixN at h
  unfold L2.ixN
  split at h
  · rename_i h0
    split at h
    · rename_i h1
      cases h
      simp [h0, h1]
    · cases h
  · rename_i h0
    split at h
    · rename_i h1
      cases h
      have a : ¬ (0 : Int) ≤ k := h0
      simp [a, h1]
    · cases h
theorem set_ok {ρ0 σd0 σ0 H0} {a : Av} {x y v : V} {jv : Vw} {zd : D} {r : Av} {Q : Hp → Prop} (s : SR K ga ρ σd hd σ H) (t : Step ρ0 σd0 σ0 H0 ρ σd σ H) (hx : AvR K ga ρ σd σ H a x) (hj : VwR K ga ρ H jv y) (rv : RD K ga ρ H zd v) (e : change a (storeC jv zd) σd hd = .ok r σd' hd')
    (k : ∀ H', SR K ga ρ σd' hd' σ H' → Step ρ0 σd0 σ0 H0 ρ σd' σ H' → Q H') : rSet x y v H Q := by
  obtain ⟨p, o, c, c', rfl, e3, e4, e5, f2, k2⟩ := change_ok (fun _ _ => rfl) s hx e
  unfold storeC at e5
  split at e5
  · rename_i l
    split at e5
    · rename_i kk
      cases e6 : Ev.ixN l.length kk with
      | none => simp [e6] at e5
      | some j =>
        simp only [e6, Option.map_some, Option.some.injEq, Prod.mk.injEq] at e5
        obtain ⟨rfl, rfl⟩ := e5
        obtain ⟨xs, rfl, q, ql⟩ := e4
        cases vi hj
        obtain ⟨s2, t2⟩ := k2 (.lst (xs.set j v)) ⟨_, rfl, q.set j rv, by rw [List.length_set]; exact ql⟩
        exact .inl ⟨p, xs, kk, j, rfl, rfl, e3, by rw [q.length]; exact ixN_lk e6, k _ s2 (t.trans t2)⟩
    · cases e5
  · rename_i kvs
    split at e5
    · rename_i kk
      split at e5
      · rename_i hz
        rw [Bool.and_eq_true] at hz
        simp only [Option.some.injEq, Prod.mk.injEq] at e5
        obtain ⟨rfl, rfl⟩ := e5
        obtain ⟨ks, rfl, q⟩ := e4
        obtain ⟨key, hk⟩ := keyOk_key hz.1
        have hkv : y = kV key := key_v hk hj
        obtain ⟨s2, t2⟩ := k2 (.dK (L2.putK ks key v)) ⟨_, rfl, putK_ok hk rv q⟩
        refine .inr ⟨p, _, rfl, .inl ⟨ks, key, e3, hkv, ?_, rfl⟩, k _ s2 (t.trans t2)⟩
        have := of_decide_eq_true hz.2
        rw [q.length, ← szl]
        exact this
      · cases e5
    · cases e5
  · cases e5

theorem view_toF {a : Av} {k : Vw → List W → List C → F} {D : Ends} {ρ0 σd0 σ0 H0} (h : FinF K ga fld Wx D ρ0 σd0 σ0 H0 ((view a σd hd).toF k)) : ∃ u, vw σd hd a = some u ∧ FinF K ga fld Wx D ρ0 σd0 σ0 H0 (k u σd hd) := by
  simp only [view] at h
  cases e : vw σd hd a with
  | none => simp [e, R.toF, FinF] at h
  | some u => exact ⟨u, rfl, by simpa [e, R.toF] using h⟩
theorem ofO_toF {α : Type} {o : Option α} {k : α → List W → List C → F} {D : Ends} {ρ0 σd0 σ0 H0} (h : FinF K ga fld Wx D ρ0 σd0 σ0 H0 ((ofO o σd hd).toF k)) : ∃ u, o = some u ∧ FinF K ga fld Wx D ρ0 σd0 σ0 H0 (k u σd hd) := by
  cases o with
  | none => exact h.elim
  | some u => exact ⟨u, rfl, h⟩
theorem VwR.grow {u : Vw} {v : V} (m : ∃ t, ρ' = ρ ++ t) (st : Stay H H') (n : ∀ c, u ≠ .c c) (r : VwR K ga ρ H u v) : VwR K ga ρ' H' u v := by
  cases u with
  | d x => exact RD.mono m st x r
  | c c => exact absurd rfl (n c)
theorem ts_sidx {me mo mi : M Av} {D : Ends} (h : TS1 K ga fld Wx (fun σ h => (bnd (bnd me toD) (fun x => bnd mo fun a => bnd (bnd mi view) fun v => change a (storeC v x)) σ h).toF fun _ σ h => .nx σ h) D σ H) :
    tAsg (TA1 K ga fld Wx me) (gSub (TA1 K ga fld Wx mo) (TA1 K ga fld Wx mi) rSet) D σ H := by
  obtain ⟨ρ, σd, hd, s, h⟩ := h
  simp only [bnd_toF] at h
  refine fin_tg s Step.refl h fun {ρ1 σ1 h1 H1 ae ve} s1 t1 _ r1 h => ?_
  cases e : toD ae σ1 h1 with
  | bad => simp [e, R.toF, FinF] at h
  | ex c d σ1 h1 => exact absurd e toD_no
  | ok x σ2 h2 =>
    simp only [e, R.toF] at h
    obtain ⟨ρ2, s2, t2, rx, _⟩ := toD_step s1 t1 r1.1 r1.2 e
    refine fin_tg s2 t2 h fun {ρ3 σ3 h3 H3 ao vo} s3 t3 t23 r3 h => ?_
    refine fin_tg s3 t3 h fun {ρ4 σ4 h4 H4 ai vi'} s4 t4 t34 r4 h => ?_
    obtain ⟨u, hu, h⟩ := view_toF h
    cases e2 : change ao (storeC u x) σ4 h4 with
    | bad => simp [e2, R.toF, FinF] at h
    | ex c d σ5 h5 => exact absurd e2 change_no
    | ok r σ5 h5 =>
      simp only [e2, R.toF] at h
      have t24 := t23.trans t34
      exact set_ok s4 t4 (r3.1.step s3 t34) (vw_ok s4 r4.1 hu) (RD.mono t24.pre (t24.stay s2) x rx) e2 fun H' s' t' => h ρ4 σ H' s' t'

/-! ### o[i] op= e -/
theorem get_ixL {X : Cx} : PGet X (rIxL X.K) := by
  intro pins s σ H x y v u Q I rx ry h
  obtain ⟨p, xs, i, z, rfl, rfl, hq, he, q⟩ := h
  cases rx
  obtain ⟨t, rfl⟩ := ry
  obtain ⟨its, r, pl, hz⟩ := I.list hq
  obtain ⟨j, h1, h2, h3, h4, h5⟩ := atI_get he
  obtain ⟨w, ew, rw'⟩ := r.get h2
  have hl := r.length
  have hn := line63
  have fin : EP X pins σ Q w s := ⟨z, H, I, rw', q⟩
  by_cases h0 : 0 ≤ i
  · have hj : i.toNat = j := by
      rw [seqIndex_of h0 h5] at h1
      exact Option.some.inj h1
    exact wpAny_getItem_list pl.isList h0 (by omega) (by rw [hj]; simpa using ew) fin
  · have hj : (i + (its.toArray.size : Int)).toNat = j := by
      rw [seqIndex_neg (by omega) h4] at h1
      rw [List.size_toArray, ← hl]
      exact Option.some.inj h1
    exact wpAny_getItem_list_neg pl.isList (by omega) (by rw [List.size_toArray] <;> omega) (by omega) (by rw [hj]; simpa using ew) fin
def rGet (K : PySem.W.Frag) : V → V → Hp → VK → Prop := fun x y H Q => rIxL K x y H Q ∨ ∃ a v, x = V.ref a ∧ DGet H a y (some v) ∧ Q v H
theorem pget_get {X : Cx} (hu : X.A.units + 1 < cLine) : PGet X (rGet X.K) := by
  intro pins s σ H x y v u Q I rx ry h
  rcases h with h | ⟨a, z, rfl, g, q⟩
  · exact get_ixL pins s σ H x y v u Q I rx ry h
  · cases rx
    exact d_getItem hu I g ry fun w' s' I' r' => ⟨z, H, I', r', q⟩

theorem get_ok {u w : Vw} {x y : V} {xv : Vw} {Q : VK} (hu : VwR K ga ρ H u x) (hw : VwR K ga ρ H w y) (e : getV u w = some xv) (k : ∀ z v, xv = .d z → RD K ga ρ H z v → Q v H) : rGet K x y H Q := by
  unfold getV at e
  split at e
  · rename_i c
    split at e
    · rename_i z e2
      cases e
      cases c with
      | tbl j q =>
        unfold idxV at e2
        split at e2 <;> simp [seqOf] at e2
      | dic kvs =>
        obtain ⟨a, ks, rfl, h1, r⟩ := vdic hu
        have key : ∃ k q, keyD k = some q ∧ RD K ga ρ H k y ∧ (getK kvs k).map Av.d = some (Av.d z) := by
          unfold idxV at e2
          split at e2
          · exact ⟨_, _, rfl, hw, e2⟩
          · exact ⟨_, _, rfl, hw, e2⟩
          · cases e2
        obtain ⟨kk, q, h2, h3, h4⟩ := key
        cases h5 : getK kvs kk with
        | none => simp [h5] at h4
        | some z' =>
          simp only [h5, Option.map_some, Option.some.injEq] at h4
          cases h4
          obtain ⟨v, h6, h7⟩ := (getK_ok h2 r).1 z h5
          refine .inr ⟨a, v, rfl, ?_, k z v rfl h7⟩
          rw [← h6, key_v h2 h3]
          exact DGet.k h1
      | lst l =>
        unfold idxV at e2
        split at e2
        · rename_i i
          cases vi hw
          simp only [seqOf, Option.bind_some] at e2
          cases h2 : Ev.atI l i with
          | none => simp [h2] at e2
          | some z' =>
            simp only [h2, Option.map_some, Option.some.injEq] at e2
            cases e2
            obtain ⟨p, xs, rfl, hs, r⟩ := vlst hu
            have h3 : ∃ j, L2.ixN xs.length i = some j ∧ l[j]? = some z := by
              unfold Ev.atI at h2
              rw [r.length]
              cases h4 : Ev.ixN l.length i with
              | none => simp [h4] at h2
              | some j =>
                simp only [h4, Option.bind_some] at h2
                exact ⟨j, h4, h2⟩
            obtain ⟨j, h4, h5⟩ := h3
            obtain ⟨v, h6, h7⟩ := r.get h5
            have h8 : L2.atI xs i = some v := by
              unfold L2.atI
              rw [h4]
              exact h6
            exact .inl ⟨p, xs, i, v, rfl, rfl, SqL.of hs, h8, k z v rfl h7⟩
        · cases e2
        · cases e2
    · cases e
  · cases e
theorem ts_aidx {me mo mi : M Av} {op : Operator} {D : Ends} (h : TS1 K ga fld Wx (fun σ h => (bnd mo (fun a => bnd mi fun j => bnd (view a) fun av => bnd (view j) fun jv => bnd (ofO (getV av jv)) fun xv => bnd me fun y => bnd (view y) fun yv => bnd (ofO (augV op xv yv)) fun z =>
      bnd (ofO (dOf z)) fun zd => change a (storeC jv zd)) σ h).toF fun _ σ h => .nx σ h) D σ H) :
    tAugS (TA1 K ga fld Wx mo) (TA1 K ga fld Wx mi) (TA1 K ga fld Wx me) (rGet K) (rAug op) rSet D σ H := by
  obtain ⟨ρ, σd, hd, s, h⟩ := h
  simp only [bnd_toF] at h
  refine fin_tg s Step.refl h fun {ρ1 σ1 h1 H1 ao vo} s1 t1 _ r1 h => ?_
  refine fin_tg s1 t1 h fun {ρ2 σ2 h2 H2 ai y} s2 t2 t12 r2 h => ?_
  obtain ⟨u, hu, h⟩ := view_toF h
  obtain ⟨jv, hj, h⟩ := view_toF h
  obtain ⟨xv, hx, h⟩ := ofO_toF h
  have hvj := vw_ok s2 r2.1 hj
  refine get_ok (vw_ok s2 (r1.1.step s1 t12) hu) hvj hx fun z v ez rz => ?_
  subst ez
  refine fin_tg s2 t2 h fun {ρ3 σ3 h3 H3 ae ve} s3 t3 t23 r3 g1 => ?_
  obtain ⟨yv, hy, g2⟩ := view_toF g1
  obtain ⟨a, ha, g3⟩ := ofO_toF g2
  clear g1 g2 h
  obtain ⟨i, j, k, e1, rfl, e2, rfl⟩ := augV_ok ha
  cases e1
  have rz : v = .int i := by simpa [RD] using rz
  subst rz
  cases vi (vw_ok s3 r3.1 hy)
  refine ok_aug e2 ?_
  obtain ⟨zd, hz, g4⟩ := ofO_toF g3
  have hz : dOf (.d (.int k)) = some zd := hz
  simp only [dOf, Option.some.injEq] at hz
  subst hz
  cases e3 : change ao (storeC jv (.int k)) σ3 h3 with
  | bad => simp [e3, R.toF, FinF] at g4
  | ex c d σ5 h5 => exact absurd e3 change_no
  | ok r σ5 h5 =>
    simp only [e3, R.toF] at g4
    have hvj' : VwR K ga ρ3 H3 jv y := by
      cases jv with
      | d x => exact RD.mono t23.pre (t23.stay s2) x hvj
      | c c =>
        exfalso
        unfold getV at hx
        split at hx
        · unfold idxV at hx
          simp at hx
        · cases hx
    exact set_ok s3 t3 ((r1.1.step s1 t12).step s2 t23) hvj' (by simp [RD]) e3 fun H' s' t' => g4 ρ3 σ H' s' t'
end
end Ev
end
section
set_option maxRecDepth 100000
set_option maxHeartbeats 2000000
/-! Ev13: loops. -/
namespace Ev
open PySem L2

section
variable {K : PySem.W.Frag} {ga : Nat → Addr} {fld : Nat → Str} {ρ ρ' : List Addr} {σd σd' : List W} {hd hd' : List C} {σ σ' : List (Option V)} {H H' : Hp} {Wx : WX}
theorem AvsR.stepN (s : SR K ga ρ σd hd σ H) (t : Step ρ σd σ H ρ' σd' σ' H') : ∀ {as : List Av} {vs : List V}, noS as = true → AvsR K ga ρ σd σ H as vs → AvsR K ga ρ' σd' σ' H' as vs
  | [], _, _, r => r
  | a :: as, _, hn, ⟨v, ws, e, h, q, d⟩ => by
    have hn2 : noS as = true := by
      cases a <;> simp [noS] at hn <;> exact hn
    refine ⟨v, ws, e, ?_, AvsR.stepN s t hn2 q, d⟩
    cases a with
    | d x => exact RD.mono t.pre (t.stay s) x h
    | s i => simp [noS] at hn
    | c c =>
      obtain ⟨p, o, e', h1, r, nf⟩ := h
      exact ⟨p, o, e', (t.keep p o h1 nf).of r.nt, r.mono t.pre (t.stay s), fun f => (t.new p f).elim nf fun z => by rw [z] at h1; cases h1⟩
theorem ts_for {tg : Tg} {mit : M Wk} {body : List W → List C → F} {wi : L2.TI} {D : Ends} (hwi : ∀ {σ H} Rr, TI1 K ga fld Wx mit σ H Rr → wi σ H Rr)
    (h : TS1 K ga fld Wx (fun σ h => (mit σ h).toF fun s σ h => if noS s.1 then forL tg body (stands s.1 s.2.1) s.2.2 σ h else .bad) D σ H) :
    tFor wi (gOf K tg) (TS1 K ga fld Wx body) D σ H := by
  refine hwi _ ?_
  obtain ⟨ρ, σd, hd, s, h⟩ := h
  refine ⟨ρ, σd, hd, s, ?_⟩
  simp only [] at h
  cases e : mit σd hd with
  | bad => simp [e, R.toF, FinF] at h
  | ex c d σ1 h1 =>
    simp only [e, R.toF, FinF] at h
    exact fun ρ' H' dx v s' t' r x => h ρ' σ H' dx v s' t' r x
  | ok S σ1 h1 =>
    obtain ⟨src, ls, items⟩ := S
    simp only [e, R.toF] at h
    intro ρ1 H1 J svs s1 t1 a1 n1 st1 it1
    by_cases hns : noS src = true
    · rw [if_pos hns] at h
      refine ⟨fun i m σ2 H2 => m = items.length - i ∧ i ≤ items.length ∧ ∃ ρc σc hc, SR K ga ρc σc hc σ2 H2 ∧ Step ρ σd σ H ρc σc σ2 H2 ∧ AvsR K ga ρc σc σ2 H2 src svs ∧ stands src ls σc hc = true ∧
        FinF K ga fld Wx D ρ σd σ H (forL tg body (stands src ls) (items.drop i) σc hc), ⟨_, rfl, Nat.zero_le _, ρ1, σ1, h1, s1, t1, a1, st1, by simpa using h⟩, ?_⟩
      rintro i m σ2 H2 ⟨rfl, hi, ρc, σc, hc, sc, tc, ac, stc, fc⟩
      obtain ⟨_, go, stop, yld⟩ := it1 sc ac stc
      by_cases hlt : i < items.length
      · refine .inr ⟨go i hlt, fun σ3 H3 => ∃ ρc σc hc, SR K ga ρc σc hc σ3 H3 ∧ Step ρ σd σ H ρc σc σ3 H3 ∧ AvsR K ga ρc σc σ3 H3 src svs ∧ stands src ls σc hc = true ∧
          FinF K ga fld Wx D ρ σd σ H (forL tg body (stands src ls) (items.drop (i + 1)) σc hc), fun σ3 H3 w => ⟨items.length - (i + 1), by omega, rfl, by omega, w⟩, fun x H' hy => ?_⟩
        obtain ⟨gr, it, eit, rit⟩ := yld i x H' hlt hy
        have ed : items.drop i = it :: items.drop (i + 1) := by
          rw [List.drop_eq_getElem_cons hlt]
          congr 1
          rw [List.getElem?_eq_getElem hlt] at eit
          exact Option.some.inj eit
        rw [ed] at fc
        simp only [forL] at fc
        have sg : SR K ga ρc σc hc σ2 H' ∧ Step ρc σc σ2 H2 ρc σc σ2 H' := by
          rcases gr with rfl | ⟨p, o, hp, nt, rfl⟩
          · exact ⟨sc, Step.refl⟩
          · exact ⟨sc.fresh hp nt, Step.fresh hp⟩
        cases e3 : bindT tg it σc hc with
        | bad => simp [e3, FinF] at fc
        | ex c d σ3 h3 => exact absurd e3 bind_no
        | ok u σb hb =>
          cases u
          simp only [e3] at fc
          obtain ⟨rfl, σb', sb, tb, kb⟩ := bind_ok sg.1 rit e3
          refine kb _ ⟨ρc, σb, hb, sb, ?_⟩
          have t2 := sg.2.trans tb
          have t3 := tc.trans t2
          have nxt : ∀ {σ4 : List W} {h4 : List C}, FinF K ga fld Wx D ρ σd σ H (if stands src ls σ4 h4 then forL tg body (stands src ls) (items.drop (i + 1)) σ4 h4 else .bad) → ∀ ρ' σ' H', SR K ga ρ' σ4 h4 σ' H' → Step ρc σb σb' H' ρ' σ4 σ' H' → True := fun _ _ _ _ _ _ => trivial
          cases e4 : body σb hb with
          | bad => simp [e4, FinF] at fc
          | ex c d σ4 h4 => simp only [e4] at fc; exact FinF.anch t3 fc
          | rt w h4 => simp only [e4] at fc; exact FinF.anch t3 fc
          | bk σ4 h4 =>
            simp only [e4] at fc
            exact fun ρ' σ' H'' s' t' => fc ρ' σ' H'' s' (t3.trans t')
          | nx σ4 h4 =>
            simp only [e4] at fc
            intro ρ' σ' H'' s' t'
            by_cases hst : stands src ls σ4 h4 = true
            · rw [if_pos hst] at fc
              exact ⟨ρ', σ4, h4, s', t3.trans t', AvsR.stepN sc (t2.trans t') hns ac, hst, fc⟩
            · rw [if_neg hst] at fc
              exact fc.elim
          | ct σ4 h4 =>
            simp only [e4] at fc
            intro ρ' σ' H'' s' t'
            by_cases hst : stands src ls σ4 h4 = true
            · rw [if_pos hst] at fc
              exact ⟨ρ', σ4, h4, s', t3.trans t', AvsR.stepN sc (t2.trans t') hns ac, hst, fc⟩
            · rw [if_neg hst] at fc
              exact fc.elim
      · have hie : i = items.length := by omega
        subst hie
        refine .inl ⟨stop _ (Nat.le_refl _), ?_⟩
        rw [List.drop_length] at fc
        simp only [forL, FinF] at fc
        exact fc ρc σ2 H2 sc tc
    · rw [if_neg hns] at h
      exact h.elim
theorem ts_while {test : M Bool} {body : List W → List C → F} {n : Nat} {D : Ends} (h : TS1 K ga fld Wx (fun σ h => whlL test body n σ h) D σ H) : tWhile (TB1 K ga fld Wx test) (TS1 K ga fld Wx body) D σ H := by
  obtain ⟨ρ, σd, hd, s, h⟩ := h
  refine ⟨fun m σ2 H2 => ∃ ρc σc hc, SR K ga ρc σc hc σ2 H2 ∧ Step ρ σd σ H ρc σc σ2 H2 ∧ FinF K ga fld Wx D ρ σd σ H (whlL test body m σc hc), ⟨n, ρ, σd, hd, s, Step.refl, h⟩, ?_⟩
  rintro m σ2 H2 ⟨ρc, σc, hc, sc, tc, fc⟩
  cases m with
  | zero => exact fc.elim
  | succ m =>
    refine ⟨ρc, σc, hc, sc, ?_⟩
    simp only [whlL] at fc
    cases e : test σc hc with
    | bad => simp [e, FinF] at fc
    | ex c d σ1 h1 =>
      simp only [e, FinF] at fc
      exact fun ρ' H' dx v s' t' r x => fc ρ' σ2 H' dx v s' (tc.trans t') r x
    | ok b σ1 h1 =>
      intro ρ1 H1 b' s1 t1 eb
      have eb : b = b' := eb
      subst eb
      have t2 := tc.trans t1
      cases b with
      | false =>
        simp only [e, FinF] at fc
        exact fc ρ1 σ2 H1 s1 t2
      | true =>
        simp only [e] at fc
        refine ⟨fun σ3 H3 => ∃ ρc σc hc, SR K ga ρc σc hc σ3 H3 ∧ Step ρ σd σ H ρc σc σ3 H3 ∧ FinF K ga fld Wx D ρ σd σ H (whlL test body m σc hc), fun σ3 H3 w => ⟨m, Nat.lt_succ_self m, w⟩, ρ1, σ1, h1, s1, ?_⟩
        cases e4 : body σ1 h1 with
        | bad => simp [e4, FinF] at fc
        | ex c d σ4 h4 => simp only [e4] at fc; exact FinF.anch t2 fc
        | rt w h4 => simp only [e4] at fc; exact FinF.anch t2 fc
        | bk σ4 h4 =>
          simp only [e4] at fc
          exact fun ρ' σ' H'' s' t' => fc ρ' σ' H'' s' (t2.trans t')
        | nx σ4 h4 =>
          simp only [e4] at fc
          exact fun ρ' σ' H'' s' t' => ⟨ρ', σ4, h4, s', t2.trans t', fc⟩
        | ct σ4 h4 =>
          simp only [e4] at fc
          exact fun ρ' σ' H'' s' t' => ⟨ρ', σ4, h4, s', t2.trans t', fc⟩
end
end Ev
end
section
set_option maxRecDepth 100000
set_option maxHeartbeats 2000000
/-! Ev14: raise. -/
namespace Ev
open PySem L2

/-- what an own error's __init__ promises: it keeps its one argument in the field f -/
def spInit (C : Addr) (f : Str) : Sp := fun vs H Q E => ∃ a v, vs = [V.ref a, v] ∧ H a = some (exo a C none) ∧ ∀ dx, H dx = none → dx ≠ a → Q .non (upd (upd H dx (exd dx [(f, v)])) a (exo a C (some dx)))
section
variable {K : PySem.W.Frag} {ga : Nat → Addr} {fld : Nat → Str} {ρ ρ' : List Addr} {σd σd' : List W} {hd hd' : List C} {σ σ' : List (Option V)} {H H' : Hp} {Wx : WX}
theorem ts_rais {m : M Av} {k : Nat} {D : Ends} (h : TS1 K ga fld Wx (fun σ h => (bnd m toD σ h).toF fun x σ h => .ex k x σ h) D σ H) :
    tMkO (ga k) (spInit (ga k) (fld k)) [] (TL1 K ga fld Wx (bnd m fun a => bnd (ret []) fun as => ret (a :: as))) σ H (fun cls d H' => Wx cls d σ H') := by
  obtain ⟨ρ, σd, hd, s, h⟩ := h
  simp only [bnd_toF] at h
  refine ⟨ρ, σd, hd, s, ?_⟩
  unfold bnd
  cases e : m σd hd with
  | bad => simp [e, R.toF, FinF] at h
  | ex c d σ1 h1 =>
    simp only [e, R.toF, R.bnd] at h ⊢
    exact fun ρ' H' dx v s' t' r x => h ρ' σ H' dx v s' t' r x
  | ok a σ1 h1 =>
    simp only [e, R.toF, R.bnd, ret] at h ⊢
    intro ρ1 H1 vs s1 t1 r1
    obtain ⟨v, rfl, hv⟩ := r1.1.one
    refine ⟨(by decide : 1 ≤ 1000), fun p hp => ?_⟩
    cases e2 : toD a σ1 h1 with
    | bad => simp [e2, FinF] at h
    | ex c d σ2 h2 => exact absurd e2 toD_no
    | ok x σ2 h2 =>
      simp only [e2] at h
      obtain ⟨ρ2, s2, t2, rx, _⟩ := toD_step s1 t1 hv r1.2 e2
      refine ⟨p, v, rfl, upd_same, fun dx hdx hne => ⟨rfl, dx, [(fld k, v)], upd_same, ?_, ?_, ?_⟩⟩
      · rw [upd_ne hne, upd_same]
      · rw [upd_ne hne] at hdx
        exact hdx
      · have hd1 : H1 dx = none := by rw [upd_ne hne] at hdx; exact hdx
        have hh : upd (del (upd (upd (upd H1 p (exo p (ga k) none)) dx (exd dx [(fld k, v)])) p (exo p (ga k) (some dx))) p) dx (HO.xd [(fld k, v)]) = upd H1 dx (HO.xd [(fld k, v)]) := by
          funext b
          by_cases hb : b = dx
          · subst hb
            rw [upd_same, upd_same]
          · rw [upd_ne hb, upd_ne hb]
            by_cases hb2 : b = p
            · subst hb2
              rw [del_same, hp]
            · rw [del_ne hb2, upd_ne hb2, upd_ne hb, upd_ne hb2]
        rw [hh]
        refine h ρ2 σ _ dx v (s2.fresh hd1 fun _ z => by cases z) (t2.trans (Step.fresh hd1)) (RD.mono ⟨[], by simp⟩ (stay_new hd1) x rx) upd_same
end
/-- the body of such an __init__ -/
def initB (f : Str) (q1 q2 q3 q4 : Pos) (x y : Str) : List Stmt := [.Assign [.Attribute (.Name x q1) f q2] (.Name y q3) q4]
theorem ok_init {P : Program} {w : World} {K : PySem.W.Frag} {mg : Str → Option Value} {base : Heap} {qual : Str} {st : Stmt} {f C : Addr} {fd : FuncData} {k : Nat} {fl x y : Str} {q1 q2 q3 q4 : Pos}
    (F : Fun K "__init__" qual st f fd) (S : FnScope [x, y] [x, y] (defScope st)) (hb : defBody st = initB fl q1 q2 q3 q4 x y) (T : OexC K C) (hno : PySem.W.findIn K (.ref C) fl = some none)
    (hx : (defScope st).names.lookup x = some .local) (hy : (defScope st).names.lookup y = some .local) (dx : (x == ("__debug__" : Str)) = false) (dy : (y == ("__debug__" : Str)) = false) (dx2 : (x == ("__classdict__" : Str)) = false) (dy2 : (y == ("__classdict__" : Str)) = false) :
    FnOk P w K mg base (L2N.CX P w) (k + 1) f fd [x, y] (spInit C fl) := by
  obtain ⟨oc, od, kV, doc, pm, an, cdv, ct, osl, efd, lk, hcd⟩ := F.ex
  subst efd
  refine fn_of lk hcd S (fun vs H Q E ⟨a, v, e, _⟩ => by rw [e]; rfl) fun A outer s H vs Q E hr h => ?_
  refine ⟨tOst K fl (tVar 0) (tVar 1), ?_, ?_⟩
  · rw [hb]
    exact pss_one (ps_ost (pe_var rfl (.inl hx) dx dx2) (pe_var rfl (.inl hy) dy dy2))
  · obtain ⟨a, v, rfl, h1, h2⟩ := h
    exact ⟨v, rfl, .ref a, rfl, a, C, rfl, T, hno, .inl ⟨h1, fun dx n ne => h2 dx n ne⟩⟩
end Ev
end
section
set_option maxRecDepth 100000
set_option maxHeartbeats 2000000
/-! Ev15: what the rules ask of the text. -/
namespace Ev
open PySem L2

def notStar : Expr → Bool
  | .Starred .. => false
  | _ => true
theorem star_cons {e : Expr} {es : List Expr} {env : Env} (h : notStar e = true) : starEach (e :: es) env = (false, eval e env) :: starEach es env := by
  cases e <;> first | rfl | cases h
theorem star_any {pos : Pos} {env : Env} : ∀ {es : List Expr}, es.all notStar = true → ((backTo pos (starEach es env)).any (·.1)) = false
  | [], _ => rfl
  | e :: es, h => by
    simp only [List.all_cons, Bool.and_eq_true] at h
    rw [star_cons h.1]
    have ih := star_any (pos := pos) (env := env) h.2
    simpa [backTo] using ih
def notSlice : Expr → Bool
  | .Slice .. => false
  | .Tuple .. => false
  | _ => true
theorem plainIx_of {b : Expr} (h : notSlice b = true) : PlainIx b := by
  intro o i
  cases b <;> first | rfl | cases h
def notComp : Expr → Bool
  | .ListComp .. | .SetComp .. | .DictComp .. => false
  | _ => true
theorem swaps_no {e : Expr} {t : Option Expr} {l : Nat} {env : Env} (h : notComp e = true) : swapsWith e t l env = pure false := by
  cases e <;> first | rfl | cases h
def notSet : Expr → Bool
  | .Set .. => false
  | _ => true
theorem foldedSet_no {e : Expr} {env : Env} (h : notSet e = true) : ∀ x, foldedSetIterable e env x = pure x := by
  intro x
  cases e <;> first | rfl | cases h
def baseOk : Expr → Bool
  | .Name .. | .Subscript .. => true
  | _ => false
theorem base_of {o : Expr} {n : Str} {env : Env} (h : baseOk o = true) : attributeBase o n env (eval o env) = eval o env := by
  cases o <;> first | rfl | cases h
def plainT : Expr → Bool
  | .Name .. | .Subscript .. | .Call .. => true
  | _ => false
theorem plainT_of {e : Expr} {env : Env} (h : plainT e = true) : ∀ whole, isTrue e env whole = (do let v ← whole; standAt e.pos; holding [v] (truthy v)) := by
  intro whole
  cases e <;> first | rfl | cases h
theorem swap_par {x y : Str} {px py pt pt2 : Pos} {kt k2 : Nat} {a b : Expr} {env : Env} (hk : env.scope.kind = .function) (hx : env.scope.names.lookup x = some .local) (hy : env.scope.names.lookup y = some .local) (hl : (py.line == px.line) = true) (hne : x ≠ y)
    (sa : notStar a = true) (sb : notStar b = true) (hf : (foldedForSure 8 a && foldedForSure 8 b) = false) (hc : (constantsAlone 8 a && constantsAlone 8 b) = false) :
    swappedStores [.Tuple [.Name x px, .Name y py] kt pt] (.Tuple [a, b] k2 pt2) env = pure (some [x, y]) := by
  have hb : env.blockKind = .function := by
    unfold Env.blockKind
    rw [hk]
    rfl
  have star : ∀ e, notStar e = true → (match e with | .Starred value pos => true | x => false) = false := fun e h => by
    cases e <;> first | rfl | cases h
  have kx : env.kindOf x = some .local := hx
  have ky : env.kindOf y = some .local := hy
  have hl' : py.line = px.line := by simpa using hl
  unfold swappedStores
  simp only [List.length_cons, List.length_nil, hb, Expr.pos, List.head?_cons, Option.map_some, Option.getD_some, List.filterMap_cons, List.filterMap_nil, kx, ky, hl', beq_self_eq_true, Bool.and_self, if_true]
  rw [if_neg (by decide)]
  have st : ∀ {f : Expr → Bool}, f a = false → f b = false → ([a, b].any f) = false := fun {f} h1 h2 => by simp [h1, h2]
  rw [if_neg (by rw [st (star a sa) (star b sb)]; decide)]
  have he : [x, y].eraseDups = [x, y] := by
    have : (y == x) = false := by simpa using fun z => hne z.symm
    simp [List.eraseDups_cons, List.eraseDups_nil, this]
  rw [he]
  rw [if_neg (by simp)]
  have h1 : [a, b].all (foldedForSure 8) = false := by simpa using hf
  have h2 : [a, b].all (constantsAlone 8) = false := by simpa using hc
  rw [h1, h2]
  rfl
def nm (x : Str) : Bool := !(x == ("__debug__" : Str)) && !(x == ("__classdict__" : Str)) && !(x == ("__name__" : Str))
theorem nm_of {x : Str} (h : nm x = true) : (x == ("__debug__" : Str)) = false ∧ (x == ("__classdict__" : Str)) = false ∧ x ≠ ("__name__" : Str) := by
  unfold nm at h
  simp only [Bool.and_eq_true, Bool.not_eq_true'] at h
  exact ⟨h.1.1, h.1.2, fun e => by rw [e] at h; simp at h⟩
theorem small_len {n : Nat} (h : n ≤ 1000) : n ≤ sizeLine := Nat.le_trans h (by rw [← szl]; decide)
end Ev
end
section
set_option maxRecDepth 100000
set_option maxHeartbeats 4000000
/-! Ev25: several clauses `except X as e`. -/
namespace Ev
open PySem PySem.Spec PyProof.Rows L2
abbrev Su := Addr → Value → Option Addr → TS
/-- the ends of a suite that holds the exception in slot i -/
def outE (i : Nat) (D : Ends) : Ends where
  nx := fun τ G => D.nx (τ.set i none) G
  rt := D.rt
  bk := fun τ G => D.bk (τ.set i none) G
  ct := fun τ G => D.ct (τ.set i none) G
def wAsM (K : W.Frag) (i : Nat) (Wo : WX) (D : Ends) : List (Value × Su) → WX
  | [] => Wo
  | (c, ts) :: r => fun cls d τ G => ∃ b, W.exmOne K cls c = some b ∧ (b = true → ∀ a, G a = none → ts a cls d (outE i D) (τ.set i (some (.ref a))) G) ∧ (b = false → wAsM K i Wo D r cls d τ G)
inductive HdsAs (X : Cx) (n : Str) : List ExceptHandler → List (Value × Su) → Prop
  | nil : HdsAs X n [] []
  | cons {x : Str} {c : Value} {ts : Su} {b0 : Stmt} {bs : List Stmt} {p1 p2 : Pos} {hds : List ExceptHandler} {l : List (Value × Su)} (hc : Names X x c)
      (hsu : ∀ (a : Addr) (oe : Obj) (cls : Value) (d : Option Addr) (pn : List (Addr × Obj)), L2N.Zn cls d oe → (∃ fs, oe.data = .fields fs) → PSs (X.suite a ((a, oe) :: pn)) (b0 :: bs) (ts a cls d)) (r : HdsAs X n hds l) :
      HdsAs X n (.ExceptHandler (some (.Name x p1)) (some n) (b0 :: bs) p2 :: hds) ((c, ts) :: l)
theorem ps_try_manyAs {X : Cx} {n : Str} {i : Nat} {body : List Stmt} {hd0 : ExceptHandler} {hds : List ExceptHandler} {l : List (Value × Su)} {pos : Pos} {tb : WX → TS} {Wo : WX}
    (hst : X.stack = X.env :: X.outer) (hfr0 : X.env.frame = some X.env.locals) (hN : X.N.Nodup) (hi : X.N[i]? = some n) (hloc : X.env.kindOf n = some .local) (tk : L2N.Takes X Wo)
    (hbody : ∀ (W : WX) (pn : List (Addr × Obj)) (xe : Value → Shared → Prop), L2N.Takes (X.tr pn xe) W → PassesOwn (model X.prog X.w) X.A X.env xe → PSs (X.tr pn xe) body (tb W))
    (hh : HdsAs X n (hd0 :: hds) l) : PS X (.Try body (hd0 :: hds) [] [] pos) (fun D τ G => tb (wAsM X.K i Wo D l) D τ G) := by
  constructor
  intro pins s τ G D I h
  have ok := I.ok
  have frs1 : X.A.frames = some (X.env :: X.outer) := by rw [ok.frames, hst]
  refine wpAny_Try_except (wpAny_mono ((hbody (wAsM X.K i Wo D l) (X.pn ++ pins) (fun e s₁ => wpAny (model X.prog X.w) X.A (noteFrame e X.env) (fun _ s₂ =>
    wpAny (model X.prog X.w) X.A (setFlight e none) (fun _ s₃ => wpAny (model X.prog X.w) X.A (handleBy e X.env (hd0 :: hds)) (SP X pins D) X.xe s₃) X.xe s₂) X.xe s₁) ?_ PassesOwn.looking).run [] s τ G D (I.toTry _) h) ?_ ?_)
  · intro u s' xx
    obtain ⟨a, B, sI, pins', τ', G', cls, d, rfl, J', nb, up, sky, na, os, ag, w⟩ := xx
    have J := J'.ofTry ok
    have sky2 : Sky B (X.env :: X.outer) a (L2N.Zn cls d) X.env.locals s'.heap := hst ▸ sky
    show wpAny (model X.prog X.w) X.A (noteFrame (.ref a) X.env) _ _ _
    refine L2N.Sky.land L2N.Zn.steady frs1 hfr0 sky2 fun g3 fl3 up3 => ?_
    have J3 := J.landed (s' := { s' with heap := g3 }) nb fl3.1 (up.trans up3) os ag
    obtain ⟨o3, v3, he3, hz3, hd3⟩ := fl3.there
    have nfr : a ∉ frs (X.env :: X.outer) := fun hm => by
      obtain ⟨_, o', e', hnf⟩ := fl3.2.2.1.mem hm
      rw [he3] at e'
      cases e'
      exact hnf _ hd3
    have nL : a ≠ X.env.locals := fun z => nfr (List.mem_filterMap.mpr ⟨_, List.mem_cons_self, hfr0.trans (congrArg some z.symm)⟩)
    have nF : a ∉ X.fs := fun hm => by
      obtain ⟨e, hm1, q⟩ := List.mem_filterMap.mp hm
      exact nfr (List.mem_filterMap.mpr ⟨e, List.mem_cons_of_mem X.env hm1, q⟩)
    have S3 := J3.suite he3 hd3 na nL nF
    have go : ∀ {hs2 : List ExceptHandler} {l2 : List (Value × Su)}, HdsAs X n hs2 l2 → wAsM X.K i Wo D l2 cls d τ' G' → wpAny (model X.prog X.w) X.A (handleBy (.ref a) X.env hs2) (SP X pins D) X.xe { s' with heap := g3 } := by
      intro hs2 l2 hk
      induction hk with
      | nil =>
        intro w
        apply wpAny_handleBy_nil
        obtain ⟨_, _, _, oe, vs, T, oT, ts', he, hz, hd, h1, hr⟩ := id fl3
        unfold PySem.passOn
        refine wpAny_bind (wpAny_field he hd h1 ?_)
        rw [if_neg (show ¬ ((Value.ref T == Value.none) = true) by simp)]
        have last : wpAny (model X.prog X.w) X.A (setFlight (.ref a) X.env.frame) (fun _ s4 => wpAny (model X.prog X.w) X.A (throw (.ref a) : Sem Flow) (SP X pins D) X.xe s4) X.xe { s' with heap := g3 } := by
          rw [hfr0]
          exact HandSPX.setFlight_upZ fl3 fun h4 hh4 up4 => wpAny_throw (tk _ _ ⟨a, B, sI, pins, τ', G', cls, d, rfl, J, nb, (up.trans up3).trans up4, .inr (.inr (hst.symm ▸ hh4)), na, os, ag, w⟩)
        first
          | exact wpAny_bind (wpAny_pure (wpAny_bind last))
          | exact wpAny_bind last
      | @cons x c ts b0 bs p1 p2 hds2 l2 hc hsu r ih =>
        intro w
        obtain ⟨b, hb1, hyes, hno⟩ := w
        refine wpAny_handleBy_cons (codeAny_handlers_test ?_) (fun q => by cases q)
        have LT : W.Looks (model X.prog X.w) g3 (typeOf (.ref a)) cls := fun A Q E s k q => wpAny_typeOf_ref (k _ _ he3) (hz3.1.symm ▸ q)
        have LM := W.exm_one (M := model X.prog X.w) J3.kIn LT hb1
        have named : ∀ {Q : Value → Shared → Prop} {E : Value → Shared → Prop}, Q c { s' with heap := g3 } → wpAny (model X.prog X.w) (X.A.mark (some (.ref a))) (eval (.Name x p1) X.env) Q E { s' with heap := g3 } := fun {Q E} q => by
          obtain ⟨hg, hdb, hm | ⟨hm, hv, hnn⟩⟩ := hc
          · exact ld_glob (X := X.suite a ((a, o3) :: (X.pn ++ pins))) S3 hg hm q hdb
          · exact ld_blt (X := X.suite a ((a, o3) :: (X.pn ++ pins))) S3 hg hm hv q hnn hdb
        refine named (LM.here ?_)
        cases b with
        | false => exact ih (hno rfl)
        | true =>
          refine codeAny_handlers_suite_as (HandSPX.lands_againZ fl3 fun h4 fl4 up4 => ?_)
          have J4 := J.landed (s' := { s' with heap := h4 }) nb fl4.1 ((up.trans up3).trans up4) os ag
          obtain ⟨o4, v4, he4, hz4, hd4⟩ := fl4.there
          refine store_ok (X := X.suite a ((a, o4) :: (X.pn ++ pins))) (v := .ref a) (J4.suite he4 hd4 na nL nF) hN hi (.inl hloc) rfl (fun s5 S5 => ?_) (.inr hloc)
          refine wpAny_mono ((hsu a o4 cls d (X.pn ++ pins) hz4 ⟨_, hd4⟩).run [] s5 _ G' _ S5 (hyes rfl a na)) (fun f s6 hsp => ?_) (fun _ _ z => z.elim)
          have fin6 : ∀ {τ6 : L2.St} {G6 : Hp} {Q : Shared → Prop}, L2.Inv (X.suite a ((a, o4) :: (X.pn ++ pins))) [] τ6 G6 s6 → (∀ s7, L2.Inv X pins (τ6.set i none) G6 s7 → Q s7) →
              wpAny (model X.prog X.w) X.A (do bindName X.env n .none; unbindBehindTheSuite X.env n p2) (fun _ s7 => Q s7) X.xe s6 := fun S6 hq => gone_ok (S6.unsuite ok) hN hi hloc hq
          cases f with
          | next =>
            obtain ⟨τ6, G6, S6, q6⟩ := hsp
            exact fin6 S6 fun s7 J7 => ⟨_, _, J7, q6⟩
          | brk =>
            obtain ⟨τ6, G6, S6, q6⟩ := hsp
            exact fin6 S6 fun s7 J7 => ⟨_, _, J7, q6⟩
          | cont =>
            obtain ⟨τ6, G6, S6, q6⟩ := hsp
            exact fin6 S6 fun s7 J7 => ⟨_, _, J7, q6⟩
          | ret u =>
            obtain ⟨v6, τ6, G6, S6, r6, q6⟩ := hsp
            exact fin6 S6 fun s7 J7 => ⟨_, _, _, J7, r6, q6⟩
    exact go hh w
  · intro f s1 hsp
    cases f with
    | next =>
      obtain ⟨τ', G', J', q⟩ := hsp
      exact wpAny_execs_nil ⟨τ', G', J'.ofTry ok, q⟩
    | brk =>
      obtain ⟨τ', G', J', q⟩ := hsp
      exact ⟨τ', G', J'.ofTry ok, q⟩
    | cont =>
      obtain ⟨τ', G', J', q⟩ := hsp
      exact ⟨τ', G', J'.ofTry ok, q⟩
    | ret u =>
      obtain ⟨v, τ', G', J', r, q⟩ := hsp
      exact ⟨v, τ', G', J'.ofTry ok, r, q⟩
  · exact fun e s1 he => he
end Ev
end
section
set_option maxRecDepth 100000
set_option maxHeartbeats 4000000
/-! Ev26: a lambda handed to a def that calls it and catches. -/
namespace Ev
open PySem PySem.Spec PyProof.Rows L2
/-! ### what a suite hands back -/
def Kept (H H' : Hp) : Prop := (∀ b o, H b = some o → H' b = some o) ∧ ∀ b ps, H' b = some (.tbl ps) → ∃ qs, H b = some (.tbl qs)
theorem Kept.refl (H : Hp) : Kept H H := ⟨fun _ _ e => e, fun _ ps e => ⟨ps, e⟩⟩
theorem Kept.trans {H H1 H2 : Hp} (a : Kept H H1) (b : Kept H1 H2) : Kept H H2 := ⟨fun x o e => b.1 x o (a.1 x o e), fun x ps e => (b.2 x ps e).elim fun qs h => a.2 x qs h⟩
theorem Kept.tup {H : Hp} {p : Addr} {xs : List V} (hp : H p = none) : Kept H (upd H p (.tup xs)) := ⟨fun b o e => by rw [upd_ne (ne_of_none e hp)]; exact e, fun b ps e => by
  by_cases h : b = p
  · subst h; rw [upd_same] at e; cases e
  · rw [upd_ne h] at e; exact ⟨ps, e⟩⟩
/-- a constant's value -/
def cvD : D → V
  | .non => .non
  | .bl b => .bl b
  | .int i => .int i
  | .str s => .str s
  | _ => .non
def scal : D → Bool
  | .non | .bl _ | .int _ | .str _ => true
  | _ => false
mutual
def SEV (H : Hp) (v : V) : SE → V → Prop
  | .c d, w => w = cvD d
  | .fld, w => w = v
  | .tup l, w => ∃ p xs, w = .ref p ∧ H p = some (.tup xs) ∧ SEVs H v l xs ∧ xs.length ≤ SZ
def SEVs (H : Hp) (v : V) : SEs → List V → Prop
  | .nil, xs => xs = []
  | .cons e es, xs => ∃ w ws, xs = w :: ws ∧ SEV H v e w ∧ SEVs H v es ws
end
mutual
theorem SEV.kept {H H' : Hp} {v : V} (k : Kept H H') : ∀ (e : SE) {w : V}, SEV H v e w → SEV H' v e w
  | .c d, w, r => by simpa [SEV] using r
  | .fld, w, r => by simpa [SEV] using r
  | .tup l, w, r => by
    simp only [SEV] at r ⊢
    obtain ⟨p, xs, e, h, q, z⟩ := r
    exact ⟨p, xs, e, k.1 _ _ h, SEVs.kept k l q, z⟩
theorem SEVs.kept {H H' : Hp} {v : V} (k : Kept H H') : ∀ (l : SEs) {xs : List V}, SEVs H v l xs → SEVs H' v l xs
  | .nil, xs, r => by simpa [SEVs] using r
  | .cons e es, xs, r => by
    simp only [SEVs] at r ⊢
    obtain ⟨w, ws, e1, h, q⟩ := r
    exact ⟨w, ws, e1, SEV.kept k e h, SEVs.kept k es q⟩
end
mutual
def okSE : SE → Bool
  | .c d => scal d
  | .fld => true
  | .tup l => okSEs l
def okSEs : SEs → Bool
  | .nil => true
  | .cons e es => okSE e && okSEs es
end
theorem scal_rd {K : W.Frag} {ga : Nat → Addr} {ρ : List Addr} {H : Hp} {d : D} (h : scal d = true) : RD K ga ρ H d (cvD d) := by
  cases d <;> first | (simp [RD, cvD]; done) | cases h
mutual
theorem SEV.rd {K : W.Frag} {ga : Nat → Addr} {ρ : List Addr} {H : Hp} {x : D} {v : V} (hx : RD K ga ρ H x v) : ∀ (e : SE) {w : V}, okSE e = true → SEV H v e w → RD K ga ρ H (seD x e) w
  | .c d, w, h, r => by
    simp only [SEV] at r
    subst r
    exact scal_rd h
  | .fld, w, h, r => by
    simp only [SEV] at r
    subst r
    exact hx
  | .tup l, w, h, r => by
    simp only [SEV] at r
    obtain ⟨p, xs, rfl, hp, q, z⟩ := r
    have rr := SEVs.rd hx l h q
    simp only [seD, RD]
    exact ⟨p, xs, rfl, SqT.of hp, rr, by rw [← rr.length]; exact z⟩
theorem SEVs.rd {K : W.Frag} {ga : Nat → Addr} {ρ : List Addr} {H : Hp} {x : D} {v : V} (hx : RD K ga ρ H x v) : ∀ (l : SEs) {xs : List V}, okSEs l = true → SEVs H v l xs → RDs K ga ρ H (seDs x l) xs
  | .nil, xs, h, r => by
    simp only [SEVs] at r
    subst r
    exact RDs.nil
  | .cons e es, xs, h, r => by
    simp only [okSEs, Bool.and_eq_true] at h
    simp only [SEVs] at r
    obtain ⟨w, ws, rfl, h1, q⟩ := r
    exact RDs.cons (SEV.rd hx e h.1 h1) (SEVs.rd hx es h.2 q)
end
/-! ### its text -/
mutual
def cSE (n f : Str) : SE → Expr → Bool
  | .c d, p => match d, p with
    | .non, .Constant .none _ _ => true
    | .bl b, .Constant (.bool c) _ _ => b == c
    | .int i, .Constant (.int j) _ _ => decide (i = j)
    | .str s, .Constant (.str t) _ _ => decide (s = t)
    | _, _ => false
  | .fld, p => match p with
    | .Attribute (.Name x _) g _ => decide (x = n) && decide (g = f)
    | _ => false
  | .tup l, p => match p with
    | .Tuple es _ _ => decide (es.length ≤ 1000) && cSEs n f l es
    | _ => false
def cSEs (n f : Str) : SEs → List Expr → Bool
  | .nil, ps => match ps with
    | [] => true
    | _ => false
  | .cons e es, ps => match ps with
    | p :: ps => notStar p && cSE n f e p && cSEs n f es ps
    | [] => false
end
mutual
def tSE (TF : TE) : SE → TE
  | .c d => tC (cvD d)
  | .fld => TF
  | .tup l => tTup (tSEs TF l)
def tSEs (TF : TE) : SEs → TA
  | .nil => tNil
  | .cons e es => tCons (tSE TF e) (tSEs TF es)
end
mutual
theorem pe_se {Z : Cx} {n f : Str} {TF : TE} (hF : ∀ p1 p2, PE Z (.Attribute (.Name n p1) f p2) TF) : ∀ (e : SE) (p : Expr), cSE n f e p = true → PE Z p (tSE TF e)
  | .c d, p, h => by
    simp only [cSE] at h
    split at h
    · exact pe_non
    · have := eq_of_beq h; subst this; exact pe_bl
    · have := of_decide_eq_true h; subst this; exact pe_int
    · have := of_decide_eq_true h; subst this; exact pe_str
    · cases h
  | .fld, p, h => by
    simp only [cSE] at h
    split at h
    · rw [Bool.and_eq_true] at h
      have e1 := of_decide_eq_true h.1
      have e2 := of_decide_eq_true h.2
      subst e1 e2
      exact hF _ _
    · cases h
  | .tup l, p, h => by
    simp only [cSE] at h
    split at h
    · rw [Bool.and_eq_true] at h
      exact pe_tup (pa_se hF l _ h.2)
    · cases h
theorem pa_se {Z : Cx} {n f : Str} {TF : TE} (hF : ∀ p1 p2, PE Z (.Attribute (.Name n p1) f p2) TF) : ∀ (l : SEs) (ps : List Expr), cSEs n f l ps = true → PA Z ps (tSEs TF l)
  | .nil, ps, h => by
    simp only [cSEs] at h
    split at h
    · exact pa_nil
    · cases h
  | .cons e es, ps, h => by
    simp only [cSEs] at h
    split at h
    · simp only [Bool.and_eq_true] at h
      exact pa_cons (pe_se hF e _ h.1.2) (pa_se hF es _ h.2) (star_cons h.1.1)
    · cases h
end
def seLen : SEs → Nat
  | .nil => 0
  | .cons _ es => seLen es + 1
mutual
def smallSE : SE → Bool
  | .tup l => decide (seLen l ≤ 1000) && smallSEs l
  | _ => true
def smallSEs : SEs → Bool
  | .nil => true
  | .cons e es => smallSE e && smallSEs es
end
theorem SEVs.len {H : Hp} {v : V} : ∀ {l : SEs} {xs : List V}, SEVs H v l xs → xs.length = seLen l
  | .nil, xs, r => by
    simp only [SEVs] at r
    subst r
    rfl
  | .cons e es, xs, r => by
    simp only [SEVs] at r
    obtain ⟨w, ws, rfl, _, q⟩ := r
    simp [seLen, SEVs.len q]
mutual
theorem run_se {TF : TE} {σ : L2.St} {H0 : Hp} {v : V} (hTF : ∀ H' (Q : VK), Kept H0 H' → Q v H' → TF σ H' Q) : ∀ (e : SE) {H : Hp} {Q : VK}, smallSE e = true → Kept H0 H → (∀ w H2, Kept H H2 → SEV H2 v e w → Q w H2) → tSE TF e σ H Q
  | .c d, H, Q, _, k, h => h _ H (Kept.refl H) (by simp [SEV])
  | .fld, H, Q, _, k, h => hTF H Q k (h v H (Kept.refl H) (by simp [SEV]))
  | .tup l, H, Q, hs, k, h => by
    simp only [smallSE, Bool.and_eq_true, decide_eq_true_eq] at hs
    refine run_ses hTF l hs.2 k fun xs H2 k2 r => ?_
    have hl : xs.length ≤ 1000 := by rw [SEVs.len r]; exact hs.1
    refine ⟨small_len hl, fun p hp => h _ _ (k2.trans (Kept.tup hp)) ?_⟩
    simp only [SEV]
    exact ⟨p, xs, rfl, upd_same, SEVs.kept (Kept.tup hp) l r, Nat.le_trans hl (by decide)⟩
theorem run_ses {TF : TE} {σ : L2.St} {H0 : Hp} {v : V} (hTF : ∀ H' (Q : VK), Kept H0 H' → Q v H' → TF σ H' Q) : ∀ (l : SEs) {H : Hp} {Q : List V → Hp → Prop}, smallSEs l = true → Kept H0 H → (∀ xs H2, Kept H H2 → SEVs H2 v l xs → Q xs H2) → tSEs TF l σ H Q
  | .nil, H, Q, _, k, h => h [] H (Kept.refl H) (by simp [SEVs])
  | .cons e es, H, Q, hs, k, h => by
    simp only [smallSEs, Bool.and_eq_true] at hs
    refine run_se hTF e hs.1 k fun w H2 k2 r => run_ses hTF es hs.2 (k.trans k2) fun xs H3 k3 r3 => h _ H3 (k2.trans k3) ?_
    simp only [SEVs]
    exact ⟨w, xs, rfl, SEV.kept k3 e r, r3⟩
end
end Ev
end
section
set_option maxRecDepth 100000
set_option maxHeartbeats 4000000
/-! Ev27: the def that calls what it got, and catches. -/
namespace Ev
open PySem PySem.Spec PyProof.Rows L2 LamX
/-- the clauses -/
def cHds (sg : Scope) (gl : List (Str × Nat)) (fl : Nat → Str) (n : Str) : List (Nat × SE) → List ExceptHandler → Bool
  | [], hds => match hds with
    | [] => true
    | _ => false
  | (k, se) :: hs, hds => match hds with
    | .ExceptHandler (some (.Name x _)) (some m) [.Return (some r) _] _ :: hds => decide (m = n) && nm x && (sg.names.lookup x == some .globalImplicit) && (match gl.lookup x with
      | some j => j == k
      | none => false) && cSE n (fl k) se r && okSE se && smallSE se && cHds sg gl fl n hs hds
    | _ => false
mutual
def noFld : SE → Bool
  | .c _ => true
  | .fld => false
  | .tup l => noFlds l
def noFlds : SEs → Bool
  | .nil => true
  | .cons e es => noFld e && noFlds es
end
def cTry (sg : Scope) (gl : List (Str × Nat)) (fl : Nat → Str) (a n : Str) (hs : List (Nat × SE)) (aft : SE) : List Stmt → Bool
  | [.Try [.Expr (.Call (.Name a' _) [] [] _) _] (h0 :: hds) [] [] _, .Return (some r) _] => decide (a' = a) && cHds sg gl fl n hs (h0 :: hds) && cSE n Str.empty aft r && noFld aft && okSE aft && smallSE aft
  | _ => false
/-- the classes of the clauses -/
structure ClsOk (K : W.Frag) (ga : Nat → Addr) (fld : Nat → Str) (cl : List Nat) : Prop where
  xf : ∀ k ∈ cl, XfC K (ga k)
  no : ∀ k ∈ cl, W.findIn K (.ref (ga k)) (fld k) = some none
  exm : ∀ c ∈ cl, ∀ k ∈ cl, W.exmOne K (.ref (ga c)) (.ref (ga k)) = some (c == k)
/-- the wish of an exception -/
def ETry (ga : Nat → Addr) (fld : Nat → Str) (hs : List (Nat × SE)) (Q : VK) : XK := fun cls d H' => ∃ (c : Nat) (se : SE) (dx : Addr) (v : V), cls = .ref (ga c) ∧ d = some dx ∧ hs.lookup c = some se ∧ H' dx = some (.xd [(fld c, v)]) ∧ ∀ w H2, Kept H' H2 → SEV H2 v se w → Q w H2
def TTry (ga : Nat → Addr) (fld : Nat → Str) (hs : List (Nat × SE)) (aft : SE) : (XK → Hp → VK → Prop) → Hp → VK → Prop := fun tl H Q =>
  ∀ Rr : VK, (∀ v H', (∀ w H2, Kept H' H2 → SEV H2 .non aft w → Q w H2) → Rr v H') → tl (ETry ga fld hs Q) H Rr
def suT (ga : Nat → Addr) (fld : Nat → Str) (i : Nat) (q : Nat × SE) : Value × Su := (.ref (ga q.1), fun a cls d => tRet (tSE (tXf a cls d (ga q.1) (fld q.1) (tVar i)) q.2))
theorem lookup_in {hs : List (Nat × SE)} {c : Nat} {se : SE} (h : hs.lookup c = some se) : c ∈ hs.map (·.1) := by
  induction hs with
  | nil => simp at h
  | cons p r ih =>
    obtain ⟨k, e⟩ := p
    rw [List.lookup_cons] at h
    cases hk : (c == k) with
    | true => rw [beq_iff_eq.mp hk]; simp
    | false => rw [hk] at h; simp [ih h]
theorem wish_as {K : W.Frag} {ga : Nat → Addr} {fld : Nat → Str} {cl : List Nat} (O : ClsOk K ga fld cl) {i : Nat} {D : Ends} {Q : VK} (hD : D.rt = Q) {c : Nat} {dx : Addr} {v : V} {τ : L2.St} {G : Hp} (hc : c ∈ cl) (hx : G dx = some (.xd [(fld c, v)])) (hi : i < τ.length) :
    ∀ {hs : List (Nat × SE)} {se : SE}, (∀ p ∈ hs, p.1 ∈ cl ∧ smallSE p.2 = true) → hs.lookup c = some se → (∀ w H2, Kept G H2 → SEV H2 v se w → Q w H2) → wAsM K i (fun _ _ _ _ => False) D (hs.map (suT ga fld i)) (.ref (ga c)) (some dx) τ G
  | [], _, _, h, _ => by simp at h
  | (k, e) :: r, se, hs, h, hq => by
    rw [List.lookup_cons] at h
    refine ⟨c == k, O.exm c hc k (hs _ List.mem_cons_self).1, fun hk a ha => ?_, fun hk => ?_⟩
    · rw [hk] at h
      have e1 : c = k := beq_iff_eq.mp hk
      have e2 : e = se := Option.some.inj h
      subst e1 e2
      refine run_se (H0 := G) (v := v) (fun H' R k2 r2 => ?_) e (hs _ List.mem_cons_self).2 (Kept.refl G) fun w H2 k2 r2 => ?_
      · refine ⟨.ref a, by rw [List.getElem?_set]; simp [hi], rfl, rfl, dx, _, v, rfl, k2.1 _ _ hx, by simp [List.lookup], r2⟩
      · show D.rt w H2
        rw [hD]
        exact hq w H2 k2 r2
    · rw [hk] at h
      exact wish_as O hD hc hx hi (fun p hp => hs p (List.mem_cons_of_mem _ hp)) h hq
theorem hds_ok {Z : Cx} {ga : Nat → Addr} {fld : Nat → Str} {cl : List Nat} {sg : Scope} {gl : List (Str × Nat)} {n : Str} {i : Nat} (O : ClsOk Z.K ga fld cl) (hsc : Z.env.scope = sg) (hN : Z.N[i]? = some n) (hv : Vis sg n) (hn : nm n = true) (hg : ∀ x k, gl.lookup x = some k → Z.mg x = some (.ref (ga k))) :
    ∀ {hs : List (Nat × SE)} {hds : List ExceptHandler}, (∀ p ∈ hs, p.1 ∈ cl) → cHds sg gl fld n hs hds = true → HdsAs Z n hds (hs.map (suT ga fld i))
  | [], hds, _, h => by
    simp only [cHds] at h
    split at h
    · exact .nil
    · cases h
  | (k, se) :: hs, hds, hc, h => by
    simp only [cHds] at h
    split at h
    · simp only [Bool.and_eq_true, decide_eq_true_eq, beq_iff_eq] at h
      obtain ⟨⟨⟨⟨⟨⟨⟨rfl, h2⟩, h3⟩, h4⟩, h5⟩, h6⟩, h7⟩, h8⟩ := h
      split at h4
      · rename_i j ej
        have ek := eq_of_beq h4
        subst ek
        have hck := hc _ List.mem_cons_self
        refine .cons ⟨?_, (nm_of h2).1, .inl (hg _ _ ej)⟩ (fun a oe cls d pn hz hf => pss_one (ps_ret (pe_se (fun p1 p2 => ?_) se _ h5))) (hds_ok O hsc hN hv hn hg (fun p hp => hc p (List.mem_cons_of_mem _ hp)) h8)
        · unfold Gl Env.kindOf
          rw [hsc]
          exact h3
        · exact pe_xf (O.xf _ hck) (O.no _ hck) hz.zc hf (pe_var (X := Z.suite a ((a, oe) :: pn)) hN (hsc ▸ hv) (nm_of hn).1 (nm_of hn).2.1) rfl
      · cases h4
    · cases h
theorem hds_small {sg : Scope} {gl : List (Str × Nat)} {fld : Nat → Str} {n : Str} : ∀ {hs : List (Nat × SE)} {hds : List ExceptHandler}, cHds sg gl fld n hs hds = true → ∀ p ∈ hs, okSE p.2 = true ∧ smallSE p.2 = true
  | [], _, _, p, hp => by cases hp
  | (k, se) :: hs, hds, h, p, hp => by
    simp only [cHds] at h
    split at h
    · simp only [Bool.and_eq_true] at h
      rcases List.mem_cons.mp hp with e | hp
      · subst e
        exact ⟨h.1.1.2, h.1.2⟩
      · exact hds_small h.2 p hp
    · cases h
mutual
theorem pe_se0 {Z : Cx} {n f : Str} {TF : TE} : ∀ (e : SE) (p : Expr), noFld e = true → cSE n f e p = true → PE Z p (tSE TF e)
  | .c d, p, _, h => by
    simp only [cSE] at h
    split at h
    · exact pe_non
    · have := eq_of_beq h; subst this; exact pe_bl
    · have := of_decide_eq_true h; subst this; exact pe_int
    · have := of_decide_eq_true h; subst this; exact pe_str
    · cases h
  | .fld, p, hf, h => by simp [noFld] at hf
  | .tup l, p, hf, h => by
    simp only [cSE] at h
    split at h
    · rw [Bool.and_eq_true] at h
      exact pe_tup (pa_se0 l _ hf h.2)
    · cases h
theorem pa_se0 {Z : Cx} {n f : Str} {TF : TE} : ∀ (l : SEs) (ps : List Expr), noFlds l = true → cSEs n f l ps = true → PA Z ps (tSEs TF l)
  | .nil, ps, _, h => by
    simp only [cSEs] at h
    split at h
    · exact pa_nil
    · cases h
  | .cons e es, ps, hf, h => by
    simp only [cSEs] at h
    simp only [noFlds, Bool.and_eq_true] at hf
    split at h
    · simp only [Bool.and_eq_true] at h
      exact pa_cons (pe_se0 e _ hf.1 h.1.2) (pa_se0 es _ hf.2 h.2) (star_cons h.1.1)
    · cases h
end
mutual
theorem tSE_no {TF TF' : TE} : ∀ {e : SE}, noFld e = true → tSE TF e = tSE TF' e
  | .c d, _ => rfl
  | .fld, h => by simp [noFld] at h
  | .tup l, h => by
    simp only [noFld] at h
    simp only [tSE, tSEs_no (TF := TF) (TF' := TF') h]
theorem tSEs_no {TF TF' : TE} : ∀ {l : SEs}, noFlds l = true → tSEs TF l = tSEs TF' l
  | .nil, _ => rfl
  | .cons e es, h => by
    simp only [noFlds, Bool.and_eq_true] at h
    simp only [tSEs, tSE_no (TF := TF) (TF' := TF') h.1, tSEs_no (TF := TF) (TF' := TF') h.2]
end
theorem try_gives {X : Cx} {ga : Nat → Addr} {fld : Nat → Str} {cl : List Nat} {sg : Scope} {gl : List (Str × Nat)} {x a n q : Str} {g : Addr} {cdg : Value} {Ng : List Str} {i : Nat} {hs : List (Nat × SE)} {aft : SE} {bg : List Stmt}
    (O : ClsOk X.K ga fld cl) (hN : Ng.Nodup) (hi : Ng[i]? = some n) (hl : sg.names.lookup n = some .local) (hn : nm n = true) (hg : ∀ x k, gl.lookup x = some k → X.mg x = some (.ref (ga k))) (hc : ∀ p ∈ hs, p.1 ∈ cl) (h0 : Ng[0]? = some a)
    (ht : cTry sg gl fld a n hs aft bg = true) : GivesN X Ng x sg g cdg bg a q [] (TTry ga fld hs aft) := by
  intro f c' s H Q tl act hco h
  unfold cTry at ht
  split at ht
  · rename_i a' p1 p2 p3 hd0 hds p4 r p5
    simp only [Bool.and_eq_true, decide_eq_true_eq] at ht
    obtain ⟨⟨⟨⟨⟨rfl, t2⟩, t3⟩, t4⟩, t5⟩, t6⟩ := ht
    have hlt : i < Ng.length := (List.getElem?_eq_some_iff.mp hi).1
    refine ⟨_, pss_cons (ps_try_manyAs (X := (cxOf C8.CX0 X.prog X.w X.K X.mg X.base Ng x sg g cdg X.A X.stack s H C8.E0).nox) (i := i) (n := n)
      (tb := fun W D σ G => ∃ E : XK, (∀ cls d G1, E cls d G1 → W cls d σ G1) ∧ σ[0]? = some (some (.ref f)) ∧ G c' = some (CodeO c' q) ∧ tl E G fun _ G1 => D.nx σ G1)
      rfl rfl hN hi hl takesN0 (fun W pn xe tk _ => ?_) (hds_ok (Z := (cxOf C8.CX0 X.prog X.w X.K X.mg X.base Ng x sg g cdg X.A X.stack s H C8.E0).nox) O rfl hi (.inl hl) hn hg hc t2)) (pss_one (ps_ret (pe_se0 (TF := fun _ _ _ => False) aft _ t4 t3))), ?_⟩
    · constructor
      intro pins s' σ G D I h'
      obtain ⟨E, hW, e1, e2, e3⟩ := h'
      have hp := act W pn xe E p1 p2 tk
      exact (pss_one (ps_expr (pos := p3) hp rfl)).run pins s' σ G D I ⟨hW, e1, e2, e3⟩
    · have hst : (L2.start Ng [V.ref f]).length = Ng.length := by
        simp [L2.start]
        omega
      have hp0 : 0 < Ng.length := by omega
      refine ⟨ETry ga fld hs Q, fun cls d G1 he => ?_, by simp [L2.start], hco, h _ fun v H' hv => ?_⟩
      · obtain ⟨c, se, dx, v, rfl, rfl, hlk, hx, hq⟩ := he
        obtain ⟨p, hp, ep⟩ := List.mem_map.mp (lookup_in hlk)
        refine wish_as (Q := Q) O ?_ (ep ▸ hc p hp) hx (by rw [hst]; exact hlt) (fun p hp => ⟨hc p hp, (hds_small t2 p hp).2⟩) hlk hq
        rfl
      · show tSE (fun _ _ _ => False) aft _ H' Q
        rw [tSE_no t4 (TF' := fun _ H Q => Q .non H)]
        exact run_se (H0 := H') (v := .non) (fun H2 R k r => r) aft t6 (Kept.refl H') fun w H2 k r => hv w H2 k r
  · cases ht
end Ev
end
section
set_option maxRecDepth 100000
set_option maxHeartbeats 4000000
/-! Ev34: the def that calls what it got, catches, and asks another def about the field and what it got else. -/
namespace Ev
open PySem PySem.Spec PyProof.Rows L2 LamX
/-- what a def promises while an exception is handled -/
def HotFn (ga : Nat → Addr) (fld : Nat → Str) (cf : CF) (jr : Nat) (Pr : Program) (w : World) (K : W.Frag) (mg : Str → Option Value) (base : Heap) (np k : Nat) : Prop :=
  W.keepIn K (.ref (ga k)) = true ∧ ∃ fd ps, L2H.FnH Pr w K mg base (L2N.CX Pr w) jr (ga k) fd ps (spOf K ga fld cf np k) ∧ Binds K fd ps []
abbrev Cl2 := List (Nat × Nat × D × D)
def cH2 (sg : Scope) (gl : List (Str × Nat)) (fl : Nat → Str) (b n : Str) : Cl2 → List ExceptHandler → Bool
  | [], hds => match hds with
    | [] => true
    | _ => false
  | (k, j, u, v) :: hs, hds => match hds with
    | .ExceptHandler (some (.Name x _)) (some m) [.Return (some (.IfExp (.Call (.Name y _) [.Attribute (.Name m' _) f _, .Name b' _] [] _) eu ev _)) _] _ :: hds => decide (m = n) && nm x && (sg.names.lookup x == some .globalImplicit) && (match gl.lookup x with
      | some i => i == k
      | none => false) && (nm y && (sg.names.lookup y == some .globalImplicit) && (match gl.lookup y with
      | some i => i == j
      | none => false)) && decide (m' = n) && decide (f = fl k) && decide (b' = b) && cSE n Str.empty (.c u) eu && cSE n Str.empty (.c v) ev && scal u && scal v && cH2 sg gl fl b n hs hds
    | _ => false
def cTry2 (sg : Scope) (gl : List (Str × Nat)) (fl : Nat → Str) (a b n : Str) (hs : Cl2) (aft : D) : List Stmt → Bool
  | [.Try [.Expr (.Call (.Name a' _) [] [] _) _] (h0 :: hds) [] [] _, .Return (some r) _] => decide (a' = a) && cH2 sg gl fl b n hs (h0 :: hds) && cSE n Str.empty (.c aft) r && scal aft
  | _ => false
def NoE : XK := fun _ _ _ => False
def ETry2 (K : W.Frag) (ga : Nat → Addr) (fld : Nat → Str) (cf : CF) (hs : Cl2) (u : V) (Q : VK) : XK := fun cls d H' => ∃ (c : Nat) (p : Nat × D × D) (dx : Addr) (v : V), cls = .ref (ga c) ∧ d = some dx ∧ hs.lookup c = some p ∧ H' dx = some (.xd [(fld c, v)]) ∧
  spOf K ga fld cf 2 p.1 [v, u] H' (fun r H2 => ∃ z, r = .bl z ∧ Q (cvD (if z then p.2.1 else p.2.2)) H2) NoE
def TTry2 (K : W.Frag) (ga : Nat → Addr) (fld : Nat → Str) (cf : CF) (hs : Cl2) (aft : D) (u : V) : (XK → Hp → VK → Prop) → Hp → VK → Prop := fun tl H Q =>
  ∀ Rr : VK, (∀ v H', Q (cvD aft) H' → Rr v H') → tl (ETry2 K ga fld cf hs u Q) H Rr
def suT2 (K : W.Frag) (ga : Nat → Addr) (fld : Nat → Str) (cf : CF) (i : Nat) (q : Nat × Nat × D × D) : Value × Su :=
  (.ref (ga q.1), fun a cls d => tRet (tIf (tB (tCallS (spOf K ga fld cf 2 q.2.1) (fun _ => NoE) (tCons (tXf a cls d (ga q.1) (fld q.1) (tVar i)) (tCons (tVar 1) tNil)))) (tC (cvD q.2.2.1)) (tC (cvD q.2.2.2))))
theorem lookup_in2 {hs : Cl2} {c : Nat} {p : Nat × D × D} (h : hs.lookup c = some p) : c ∈ hs.map (·.1) := by
  induction hs with
  | nil => simp at h
  | cons q r ih =>
    obtain ⟨k, e⟩ := q
    rw [List.lookup_cons] at h
    cases hk : (c == k) with
    | true => rw [beq_iff_eq.mp hk]; simp
    | false => rw [hk] at h; simp [ih h]
theorem wish2_as {K : W.Frag} {ga : Nat → Addr} {fld : Nat → Str} {cf : CF} {cl : List Nat} (O : ClsOk K ga fld cl) {i : Nat} {D0 : Ends} {Q : VK} (hD : D0.rt = Q) {c : Nat} {dx : Addr} {v u : V} {τ : L2.St} {G : Hp} (hc : c ∈ cl) (hx : G dx = some (.xd [(fld c, v)])) (hi : i < τ.length) (h2 : 2 ≤ i) (hu : τ[1]? = some (some u)) :
    ∀ {hs : Cl2} {p : Nat × D × D}, (∀ p ∈ hs, p.1 ∈ cl) → hs.lookup c = some p → spOf K ga fld cf 2 p.1 [v, u] G (fun r H2 => ∃ z, r = .bl z ∧ Q (cvD (if z then p.2.1 else p.2.2)) H2) NoE → wAsM K i (fun _ _ _ _ => False) D0 (hs.map (suT2 K ga fld cf i)) (.ref (ga c)) (some dx) τ G
  | [], _, _, h, _ => by simp at h
  | (k, e) :: r, p, hs, h, hq => by
    rw [List.lookup_cons] at h
    refine ⟨c == k, O.exm c hc k (hs _ List.mem_cons_self), fun hk a ha => ?_, fun hk => ?_⟩
    · rw [hk] at h
      have e1 : c = k := beq_iff_eq.mp hk
      have e2 : e = p := Option.some.inj h
      subst e1 e2
      have g0 : (τ.set i (some (.ref a)))[i]? = some (some (.ref a)) := by rw [List.getElem?_set]; simp [hi]
      have g1 : (τ.set i (some (.ref a)))[1]? = some (some u) := by rw [List.getElem?_set_ne (by omega)]; exact hu
      refine ⟨.ref a, g0, rfl, rfl, dx, _, v, rfl, hx, by simp [List.lookup], u, g1, ?_⟩
      have post : (fun (r : V) (H2 : Hp) => ∃ z, r = .bl z ∧ Q (cvD (if z then e.2.1 else e.2.2)) H2) = fun x H1 => ∃ d, x = V.bl d ∧ if d = true then tC (cvD e.2.1) (τ.set i (some (.ref a))) H1 (outE i D0).rt else tC (cvD e.2.2) (τ.set i (some (.ref a))) H1 (outE i D0).rt := by
        funext r H2
        refine propext ⟨fun ⟨z, h1, h3⟩ => ⟨z, h1, ?_⟩, fun ⟨z, h1, h3⟩ => ⟨z, h1, ?_⟩⟩
        · cases z
          · show D0.rt (cvD e.2.2) H2
            rw [hD]; exact h3
          · show D0.rt (cvD e.2.1) H2
            rw [hD]; exact h3
        · cases z
          · have h3 : D0.rt (cvD e.2.2) H2 := h3
            rw [hD] at h3; exact h3
          · have h3 : D0.rt (cvD e.2.1) H2 := h3
            rw [hD] at h3; exact h3
      rw [post] at hq
      exact hq
    · rw [hk] at h
      exact wish2_as O hD hc hx hi h2 hu (fun p hp => hs p (List.mem_cons_of_mem _ hp)) h hq
theorem nopass {X : Cx} {σ : L2.St} : PassesAt (L2N.CX X.prog X.w) X σ NoE := fun _ _ _ _ _ _ c => by
  obtain ⟨_, _, _, _, _, _, _, _, _, _, _, _, z⟩ := c
  exact z.elim
theorem hds2_ok {Z : Cx} {ga : Nat → Addr} {fld : Nat → Str} {cf : CF} {jr : Nat} {cl : List Nat} {sg : Scope} {gl : List (Str × Nat)} {b n : Str} {i : Nat} (O : ClsOk Z.K ga fld cl) (hr : L2H.RoomH jr Z.A) (hsc : Z.env.scope = sg) (hN : Z.N[i]? = some n) (hv : Vis sg n) (hn : nm n = true)
    (hN1 : Z.N[1]? = some b) (hvb : Vis sg b) (hnb : nm b = true) (hg : ∀ x k, gl.lookup x = some k → Z.mg x = some (.ref (ga k))) :
    ∀ {hs : Cl2} {hds : List ExceptHandler}, (∀ p ∈ hs, p.1 ∈ cl ∧ HotFn ga fld cf jr Z.prog Z.w Z.K Z.mg Z.base 2 p.2.1) → cH2 sg gl fld b n hs hds = true → HdsAs Z n hds (hs.map (suT2 Z.K ga fld cf i))
  | [], hds, _, h => by
    simp only [cH2] at h
    split at h
    · exact .nil
    · cases h
  | (k, j, u, v) :: hs, hds, hc, h => by
    simp only [cH2] at h
    split at h
    · rename_i x p1 m y p2 m' p3 f p4 b' p5 p6 eu ev p7 p8 p9 hds
      simp only [Bool.and_eq_true, decide_eq_true_eq, beq_iff_eq] at h
      obtain ⟨⟨⟨⟨⟨⟨⟨⟨⟨⟨⟨⟨rfl, h2⟩, h3⟩, h4⟩, ⟨⟨h5, h6⟩, h7⟩⟩, rfl⟩, rfl⟩, rfl⟩, h11⟩, h12⟩, h13⟩, h14⟩, h15⟩ := h
      split at h4
      · rename_i i1 e1
        split at h7
        · rename_i i2 e2
          have ek := eq_of_beq h4
          have ej := eq_of_beq h7
          subst ek ej
          obtain ⟨hck, kp, fd, ps, F, hb⟩ := hc _ List.mem_cons_self
          refine .cons ⟨?_, (nm_of h2).1, .inl (hg _ _ e1)⟩ (fun a oe cls d pn hz hf => pss_one (ps_ret (pe_ifExp (pt_val ?_ (plainT_of rfl)) (pe_se0 (TF := fun _ _ _ => False) (.c u) _ rfl h11) (pe_se0 (TF := fun _ _ _ => False) (.c v) _ rfl h12))))
            (hds2_ok O hr hsc hN hv hn hN1 hvb hnb hg (fun p hp => hc p (List.mem_cons_of_mem _ hp)) h15)
          · unfold Gl Env.kindOf
            rw [hsc]
            exact h3
          · have hot : L2H.HotC (Z.suite a ((a, oe) :: pn)) := by
              obtain ⟨vs, hvs⟩ := hf
              exact ⟨(a, oe), ⟨rfl, vs, hvs, hz.2.2 vs hvs⟩, List.mem_cons_self⟩
            have hr2 : L2H.RoomH jr (Z.suite a ((a, oe) :: pn)).A := ⟨hr.dp, hr.un⟩
            have gy : Gl (Z.suite a ((a, oe) :: pn)) y := by
              unfold Gl Env.kindOf
              show Z.env.scope.names.lookup y = _
              rw [hsc]
              exact h6
            have pF : PE (Z.suite a ((a, oe) :: pn)) (.Attribute (.Name m' p3) (fld i1) p4) (tXf a cls d (ga i1) (fld i1) (tVar i)) :=
              pe_xf (O.xf _ hck) (O.no _ hck) hz.zc hf (pe_var (X := Z.suite a ((a, oe) :: pn)) hN (hsc ▸ hv) (nm_of hn).1 (nm_of hn).2.1) rfl
            have pB : PE (Z.suite a ((a, oe) :: pn)) (.Name b' p5) (tVar 1) := pe_var (X := Z.suite a ((a, oe) :: pn)) hN1 (hsc ▸ hvb) (nm_of hnb).1 (nm_of hnb).2.1
            exact L2H.pe_callH (X := Z.suite a ((a, oe) :: pn)) (E := fun _ => NoE) F hr2 hot gy (hg _ _ e2) kp hb (fun σ => nopass) (pa_cons pF (pa_cons pB pa_nil rfl) rfl) (nm_of h5).1 rfl rfl
        · cases h7
      · cases h4
    · cases h
theorem hds2_scal {sg : Scope} {gl : List (Str × Nat)} {fld : Nat → Str} {b n : Str} : ∀ {hs : Cl2} {hds : List ExceptHandler}, cH2 sg gl fld b n hs hds = true → ∀ p ∈ hs, scal p.2.2.1 = true ∧ scal p.2.2.2 = true
  | [], _, _, p, hp => by cases hp
  | (k, j, u, v) :: hs, hds, h, p, hp => by
    simp only [cH2] at h
    split at h
    · simp only [Bool.and_eq_true] at h
      rcases List.mem_cons.mp hp with e | hp
      · subst e
        exact ⟨h.1.1.2, h.1.2⟩
      · exact hds2_scal h.2 p hp
    · cases h
theorem try2_gives {X : Cx} {ga : Nat → Addr} {fld : Nat → Str} {cf : CF} {jr : Nat} {cl : List Nat} {sg : Scope} {gl : List (Str × Nat)} {x a b n q : Str} {g : Addr} {cdg : Value} {Ng : List Str} {i : Nat} {hs : Cl2} {aft : D} {bg : List Stmt} {u : V}
    (O : ClsOk X.K ga fld cl) (hr : ∀ s : Shared, L2H.RoomH jr (X.A.deeper (envOfC x sg s.heap.objs.size g cdg))) (hN : Ng.Nodup) (hi : Ng[i]? = some n) (h2 : 2 ≤ i) (hl : sg.names.lookup n = some .local) (hn : nm n = true) (hN1 : Ng[1]? = some b) (hvb : Vis sg b) (hnb : nm b = true)
    (hg : ∀ x k, gl.lookup x = some k → X.mg x = some (.ref (ga k))) (hc : ∀ p ∈ hs, p.1 ∈ cl ∧ HotFn ga fld cf jr X.prog X.w X.K X.mg X.base 2 p.2.1)
    (ht : cTry2 sg gl fld a b n hs aft bg = true) : GivesN X Ng x sg g cdg bg a q [u] (TTry2 X.K ga fld cf hs aft u) := by
  intro f c' s H Q tl act hco h
  unfold cTry2 at ht
  split at ht
  · rename_i a' p1 p2 p3 hd0 hds p4 r p5
    simp only [Bool.and_eq_true, decide_eq_true_eq] at ht
    obtain ⟨⟨⟨rfl, t2⟩, t3⟩, t4⟩ := ht
    have hlt : i < Ng.length := (List.getElem?_eq_some_iff.mp hi).1
    refine ⟨_, pss_cons (ps_try_manyAs (X := (cxOf C8.CX0 X.prog X.w X.K X.mg X.base Ng x sg g cdg X.A X.stack s H C8.E0).nox) (i := i) (n := n)
      (tb := fun W D σ G => ∃ E : XK, (∀ cls d G1, E cls d G1 → W cls d σ G1) ∧ σ[0]? = some (some (.ref f)) ∧ G c' = some (CodeO c' q) ∧ tl E G fun _ G1 => D.nx σ G1)
      rfl rfl hN hi hl takesN0 (fun W pn xe tk _ => ?_) (hds2_ok (Z := (cxOf C8.CX0 X.prog X.w X.K X.mg X.base Ng x sg g cdg X.A X.stack s H C8.E0).nox) O (hr s) rfl hi (.inl hl) hn hN1 hvb hnb hg hc t2)) (pss_one (ps_ret (pe_se0 (TF := fun _ _ _ => False) (.c aft) _ rfl t3))), ?_⟩
    · constructor
      intro pins s' σ G D I h'
      obtain ⟨E, hW, e1, e2, e3⟩ := h'
      have hp := act W pn xe E p1 p2 tk
      exact (pss_one (ps_expr (pos := p3) hp rfl)).run pins s' σ G D I ⟨hW, e1, e2, e3⟩
    · have hst : (L2.start Ng [V.ref f, u]).length = Ng.length := by
        simp [L2.start]
        omega
      have g1 : (L2.start Ng [V.ref f, u])[1]? = some (some u) := by simp [L2.start]
      refine ⟨ETry2 X.K ga fld cf hs u Q, fun cls d G1 he => ?_, by simp [L2.start], hco, h _ fun v H' hv => hv⟩
      obtain ⟨c, p, dx, v, rfl, rfl, hlk, hx, hq⟩ := he
      obtain ⟨p', hp, ep⟩ := List.mem_map.mp (lookup_in2 hlk)
      exact wish2_as (Q := Q) O rfl (ep ▸ (hc p' hp).1) hx (by rw [hst]; exact hlt) h2 g1 (fun p hp => (hc p hp).1) hlk hq
  · cases ht
end Ev
end
section
set_option maxRecDepth 100000
set_option maxHeartbeats 2000000
/-! Ev16: an evaluator's term is checked against the text. -/
namespace Ev
open PySem L2

/-- what a global name is -/
inductive Gk where
  | val (d : D) | fn (k np : Nat) | cls (k : Nat) | blt | gcd | no
  /-- a def that calls what it gets, and catches -/
  | tryf (k : Nat) (hs : List (Nat × SE)) (aft : SE)
  /-- a def that calls what it gets first, and catches; its clauses ask another def about the field and what it gets second -/
  | tryf2 (k : Nat) (hs : List (Nat × Nat × D × D)) (aft : D)
/-- how a def is called with keywords: which def, how many by place, the keywords, where each parameter's value stands -/
structure Kw where
  k : Nat
  n : Nat
  ks : List Str
  perm : List Nat
structure Ck where
  N : List Str
  sc : Scope
  gl : List (Str × Gk)
  kw : List Kw
  /-- in a def's own block: cells may be stored to -/
  fn : Bool
  /-- the name of this block's lambdas, the cell of its table -/
  lq : Str
  lt : Option Nat
  /-- while an exception is handled -/
  hot : Bool
def Ck.gt (ck : Ck) (x : Str) : Gk := (ck.gl.lookup x).getD .no
def vis (ck : Ck) (x : Str) : Bool := match ck.sc.names.lookup x with
  | some .local => true
  | some .cell => true
  | some .free => true
  | _ => false
def loc (ck : Ck) (x : Str) : Bool := match ck.sc.names.lookup x with
  | some .local => true
  | some .cell => ck.fn
  | _ => false
def kwOk (ck : Ck) (k n : Nat) (ks : List (Option Str)) (perm : List Nat) : Bool := ck.kw.any fun q => q.k == k && q.n == n && decide (q.ks.map some = ks) && decide (q.perm = perm)
def glb (ck : Ck) (x : Str) : Bool := match ck.sc.names.lookup x with
  | some .globalImplicit => true
  | _ => false
def isBlt (ck : Ck) (x : Str) : Bool := glb ck x && match ck.gt x with
  | .blt => true
  | _ => false
def tyNames : List String := ["int", "bool", "str", "tuple", "list", "dict"]
/-- constants -/
def cC (ck : Ck) : D → Expr → Bool
  | .non, .Constant .none _ _ => true
  | .bl b, .Constant (.bool c) _ _ => b == c
  | .int i, .Constant (.int j) _ _ => decide (i = j)
  | .str s, .Constant (.str t) _ _ => decide (s = t)
  | .ty n, .Name x _ => tyNames.contains n && decide (x = Str.ofString n) && isBlt ck x && nm x
  | .gf k, .Name x _ => glb ck x && nm x && match ck.gt x with
    | .fn j _ => k == j
    | .val d => beqD (.gf k) d
    | _ => false
  | d, .Name x _ => glb ck x && nm x && match ck.gt x with
    | .val d' => beqD d d'
    | _ => false
  | _, _ => false
/-- the builtin behind an operation -/
def opNm (ck : Ck) (o : O) (x : Str) : Bool := match o with
  | .len => decide (x = "len") && isBlt ck x
  | .int => decide (x = "int") && isBlt ck x
  | .abs => decide (x = "abs") && isBlt ck x
  | .isi => decide (x = "isinstance") && isBlt ck x
  | .list => decide (x = "list") && isBlt ck x
  | .tuple => decide (x = "tuple") && isBlt ck x
  | .all => decide (x = "all") && isBlt ck x
  | .any => decide (x = "any") && isBlt ck x
  | .sum => decide (x = "sum") && isBlt ck x
  | .min => decide (x = "min") && isBlt ck x
  | .max => decide (x = "max") && isBlt ck x
  | .gcd => glb ck x && nm x && match ck.gt x with
    | .gcd => true
    | _ => false
  | _ => false
def mtNm : Mt → Str → Bool
  | .append, n => decide (n = "append")
  | .extend, n => decide (n = "extend")
  | .pop, n => decide (n = "pop")
  | .popAt, n => decide (n = "pop")
def mtAr : Mt → Nat → Bool
  | .pop, n => decide (n = 0)
  | _, n => decide (n = 1)
def inRow : List Nat → Nat → Bool
  | l, i => l.contains i
def locs (ck : Ck) : List Nat → List Expr → Bool
  | [], [] => true
  | i :: is, .Name x _ :: es => decide (ck.N[i]? = some x) && loc ck x && locs ck is es
  | _, _ => false
def cTg (ck : Ck) : Tg → Expr → Bool
  | .n i, .Name x _ => decide (ck.N[i]? = some x) && loc ck x
  | .t is, .Tuple es _ _ => locs ck is es
  | _, _ => false
def isTup : Expr → Bool
  | .Tuple .. => true
  | _ => false
def keyD? : List D → List (Option Expr) → Bool
  | [], [] => true
  | .int i :: ds, some (.Constant (.int j) _ _) :: es => decide (i = j) && keyD? ds es
  | .str i :: ds, some (.Constant (.str j) _ _) :: es => decide (i = j) && keyD? ds es
  | _, _ => false
mutual
def beqSE : SE → SE → Bool
  | .c a, .c b => beqD a b
  | .fld, .fld => true
  | .tup a, .tup b => beqSEs a b
  | _, _ => false
def beqSEs : SEs → SEs → Bool
  | .nil, .nil => true
  | .cons a as, .cons b bs => beqSE a b && beqSEs as bs
  | _, _ => false
end
mutual
theorem beqSE_eq : ∀ {a b : SE}, beqSE a b = true → a = b
  | .c a, .c b, h => by rw [beqD_eq h]
  | .fld, .fld, _ => rfl
  | .tup a, .tup b, h => by rw [beqSEs_eq h]
  | .c _, .fld, h => by cases h
  | .c _, .tup _, h => by cases h
  | .fld, .c _, h => by cases h
  | .fld, .tup _, h => by cases h
  | .tup _, .c _, h => by cases h
  | .tup _, .fld, h => by cases h
theorem beqSEs_eq : ∀ {a b : SEs}, beqSEs a b = true → a = b
  | .nil, .nil, _ => rfl
  | .cons a as, .cons b bs, h => by
    simp only [beqSEs, Bool.and_eq_true] at h
    rw [beqSE_eq h.1, beqSEs_eq h.2]
  | .nil, .cons _ _, h => by cases h
  | .cons _ _, .nil, h => by cases h
end
def beqHs : List (Nat × SE) → List (Nat × SE) → Bool
  | [], [] => true
  | (a, x) :: r, (b, y) :: s => a == b && beqSE x y && beqHs r s
  | _, _ => false
theorem beqHs_eq : ∀ {a b : List (Nat × SE)}, beqHs a b = true → a = b
  | [], [], _ => rfl
  | (a, x) :: r, (b, y) :: s, h => by
    simp only [beqHs, Bool.and_eq_true, beq_iff_eq] at h
    rw [h.1.1, beqSE_eq h.1.2, beqHs_eq h.2]
  | [], _ :: _, h => by cases h
  | _ :: _, [], h => by cases h
def noPar (p : Arguments) : Bool := match p with
  | ⟨[], [], none, [], [], none, []⟩ => true
  | _ => false
def beqH2 : List (Nat × Nat × D × D) → List (Nat × Nat × D × D) → Bool
  | [], [] => true
  | (a, b, x, u) :: r, (c, d, y, v) :: s => a == c && b == d && beqD x y && beqD u v && beqH2 r s
  | _, _ => false
theorem beqH2_eq : ∀ {a b : List (Nat × Nat × D × D)}, beqH2 a b = true → a = b
  | [], [], _ => rfl
  | (a, b, x, u) :: r, (c, d, y, v) :: s, h => by
    simp only [beqH2, Bool.and_eq_true, beq_iff_eq] at h
    obtain ⟨⟨⟨⟨h1, h2⟩, h3⟩, h4⟩, h5⟩ := h
    rw [h1, h2, beqD_eq h3, beqD_eq h4, beqH2_eq h5]
  | [], _ :: _, h => by cases h
  | _ :: _, [], h => by cases h
/-- walks of a comprehension while an exception is handled -/
def hotIt (ck : Ck) : It → Bool
  | .zip _ => true
  | _ => !ck.hot
def hotOp : O → Bool
  | .any | .sum | .min | .max => false
  | _ => true
/-- the defs that a slot may hold -/
def defsOk (ck : Ck) (n : Nat) (cs : List Nat) : Bool := cs.all fun k => ck.gl.any fun p => match ck.gl.lookup p.1 with
  | some (.fn j np) => j == k && n == np
  | _ => false
mutual
def cE (ck : Ck) : Ex → Expr → Bool
  | .var i, e => match e with
    | .Name x _ => decide (ck.N[i]? = some x) && vis ck x && nm x
    | _ => false
  | .cst d, e => cC ck d e
  | .op o es, e => match o, e with
    | .bin op, .BinOp a op' b _ => decide (op = op') && cEs ck es [a, b]
    | .cmp op, .Compare a [op'] [b] _ => decide (op = op') && plainCmp op && !behindInMarks op b && cEs ck es [a, b]
    | .isn, .Compare a [.Is] [b] _ => !behindInMarks .Is b && cEs ck es [a, b]
    | .notn, .Compare a [.IsNot] [b] _ => !behindInMarks .IsNot b && cEs ck es [a, b]
    | .neg, .UnaryOp .USub a _ => cEs ck es [a]
    | .idx, .Subscript a b _ => notSlice b && cEs ck es [a, b]
    | .sli false false, .Subscript a (.Slice none none none _) _ => cEs ck es [a]
    | .sli true false, .Subscript a (.Slice (some l) none none _) _ => cEs ck es [a, l]
    | .sli false true, .Subscript a (.Slice none (some h) none _) _ => cEs ck es [a, h]
    | o, .Call (.Name x _) (a :: args) [] _ => opNm ck o x && (!ck.hot || hotOp o) && cEs ck es (a :: args)
    | _, _ => false
  | .and_ a b, e => match e with
    | .BoolOp .And (a' :: b' :: rest) pos => cE ck a a' && (match rest with
      | [] => cE ck b b'
      | _ => cE ck b (.BoolOp .And (b' :: rest) pos))
    | _ => false
  | .or_ a b, e => match e with
    | .BoolOp .Or (a' :: b' :: rest) pos => cE ck a a' && (match rest with
      | [] => cE ck b b'
      | _ => cE ck b (.BoolOp .Or (b' :: rest) pos))
    | _ => false
  | .not_ a, e => match e with
    | .UnaryOp .Not a' _ => cE ck a a'
    | _ => false
  | .ite c a b, e => match e with
    | .IfExp c' a' b' _ => cT ck c c' && cE ck a a' && cE ck b b'
    | _ => false
  | .chain o1 o2 a b c, e => match e with
    | .Compare a' [p1, p2] [b', c'] _ => decide (o1 = p1) && decide (o2 = p2) && plainCmp o1 && plainCmp o2 && !lastMarks [o1, o2] [b', c'] && cE ck a a' && cE ck b b' && cE ck c c'
    | _ => false
  | .tup es, e => match e with
    | .Tuple es' _ _ => decide (es'.length ≤ 1000) && cEs ck es es'
    | _ => false
  | .lst es, e => match e with
    | .List es' _ => decide (es'.length ≤ 1000) && cEs ck es es'
    | _ => false
  | .dict ks es, e => match e with
    | .Dict keys vals _ => decide (keys.length ≤ 15) && decide (keys.length = vals.length) && keyD? ks keys && cEs ck es vals
    | _ => false
  | .call k es, e => match e with
    | .Call (.Name x _) args [] _ => glb ck x && nm x && (match ck.gt x with
      | .fn j np => k == j && exsLen es == np
      | _ => false) && (match args with
      | [] => !ck.hot
      | _ => true) && cEs ck es args
    | _ => false
  | .callk k perm es, e => match e with
    | .Call (.Name x _) args kws _ => glb ck x && nm x && (match ck.gt x with
      | .fn j np => k == j && perm.length == np
      | _ => false) && !ck.hot && kwOk ck k args.length (kws.map (·.arg)) perm && (kws.all fun q => notStar q.value) && cEs ck es (args ++ kws.map (·.value))
    | _ => false
  | .callv i cs es, e => match e with
    | .Call (.Name x _) (a :: args) [] _ => decide (ck.N[i]? = some x) && vis ck x && nm x && defsOk ck (exsLen es) cs && !ck.hot && cEs ck es (a :: args)
    | _ => false
  | .lrng es, e => match e with
    | .Call (.Name x _) [.Call (.Name y _) args [] _] [] _ => decide (x = "list") && isBlt ck x && decide (y = "range") && isBlt ck y && !ck.hot && (match args with
      | [_] => true
      | [_, _] => true
      | _ => false) && cEs ck es args
    | _ => false
  | .lam2 g t q i body hs aft, e => match e with
    | .Call (.Name x _) [.Lambda params b scope _, .Name y _] [] _ => glb ck x && nm x && (match ck.gt x with
      | .tryf2 j hs' aft' => g == j && beqH2 hs hs' && beqD aft aft'
      | _ => false) && decide (ck.lt = some t) && decide (ck.lq = q) && LamX.lamSB ck.sc scope && noPar params && (decide (ck.N[i]? = some y) && vis ck y && nm y) && !ck.hot && cE { ck with sc := scope, fn := false, lt := none } body b
    | _ => false
  | .lam g t q body hs aft, e => match e with
    | .Call (.Name x _) [.Lambda params b scope _] [] _ => glb ck x && nm x && (match ck.gt x with
      | .tryf j hs' aft' => g == j && beqHs hs hs' && beqSE aft aft'
      | _ => false) && decide (ck.lt = some t) && decide (ck.lq = q) && LamX.lamSB ck.sc scope && noPar params && !ck.hot && cE { ck with sc := scope, fn := false, lt := none } body b
    | _ => false
  | .slc a b c, e => match e with
    | .Subscript a' (.Slice (some l) (some h) none _) _ => cE ck a a' && cE ck b l && cE ck c h
    | _ => false
  | .mth m o es, e => match e with
    | .Call (.Attribute o' n apos) args [] cpos => mtNm m n && baseOk o' && (apos.endLine == cpos.line) && decide (args.length < 20) && cE ck o o' && cEs ck es args &&
      mtAr m args.length
    | _ => false
  | .comp own tg it tests elt, e => match e with
    | .ListComp elt' [⟨tg', iter, ifs, 0⟩] scope _ => blkC ck.N ck.sc scope (own.map fun i => (ck.N.getD i default, i)) && (tgSlots tg).all (inRow own) && notSet iter && hotIt ck it && cIt ck it iter (isTup tg') &&
      cTg { ck with sc := relS scope ck.sc, fn := false, lt := none } tg tg' && cTs { ck with sc := relS scope ck.sc, fn := false, lt := none } tests ifs && cE { ck with sc := relS scope ck.sc, fn := false, lt := none } elt elt'
    | _ => false
def cEs (ck : Ck) : Exs → List Expr → Bool
  | .nil, es => match es with
    | [] => true
    | _ => false
  | .cons e es, ps => match ps with
    | p :: ps => notStar p && cE ck e p && cEs ck es ps
    | [] => false
/-- as a test -/
def cT (ck : Ck) : Ex → Expr → Bool
  | .and_ a b, e => match e with
    | .BoolOp .And (a' :: b' :: rest) pos => cT ck a a' && (match rest with
      | [] => cT ck b b'
      | _ => cT ck b (.BoolOp .And (b' :: rest) pos))
    | _ => false
  | .or_ a b, e => match e with
    | .BoolOp .Or (a' :: b' :: rest) pos => cT ck a a' && (match rest with
      | [] => cT ck b b'
      | _ => cT ck b (.BoolOp .Or (b' :: rest) pos))
    | _ => false
  | .not_ a, e => match e with
    | .UnaryOp .Not a' _ => cT ck a a'
    | _ => false
  | .op o es, e => match o, e with
    | .cmp op, .Compare a [op'] [b] _ => decide (op = op') && plainCmp op && !behindInMarks op b && cEs ck es [a, b]
    | .isn, .Compare a [.Is] [b] _ => !behindInMarks .Is b && cEs ck es [a, b]
    | .notn, .Compare a [.IsNot] [b] _ => !behindInMarks .IsNot b && cEs ck es [a, b]
    | .idx, .Subscript a b _ => notSlice b && cEs ck es [a, b]
    | o, .Call (.Name x _) (a :: args) [] _ => opNm ck o x && (!ck.hot || hotOp o) && cEs ck es (a :: args)
    | _, _ => false
  | .chain o1 o2 a b c, e => match e with
    | .Compare a' [p1, p2] [b', c'] _ => decide (o1 = p1) && decide (o2 = p2) && plainCmp o1 && plainCmp o2 && !lastMarks [o1, o2] [b', c'] && cE ck a a' && cE ck b b' && cE ck c c'
    | _ => false
  | .var i, e => match e with
    | .Name x _ => decide (ck.N[i]? = some x) && vis ck x && nm x
    | _ => false
  | .call k es, e => match e with
    | .Call (.Name x _) args [] _ => glb ck x && nm x && (match ck.gt x with
      | .fn j np => k == j && exsLen es == np
      | _ => false) && (match args with
      | [] => !ck.hot
      | _ => true) && cEs ck es args
    | _ => false
  | _, _ => false
def cTs (ck : Ck) : Exs → List Expr → Bool
  | .nil, es => match es with
    | [] => true
    | _ => false
  | .cons e es, ps => match es, ps with
    | .nil, [p] => cT ck e p
    | _, _ => false
def cIt (ck : Ck) : It → Expr → Bool → Bool
  | .seq e, p, _ => cE ck e p
  | .rng es, p, _ => match p with
    | .Call (.Name x _) args [] _ => decide (x = "range") && isBlt ck x && (match args with
      | [_] => true
      | [_, _] => true
      | _ => false) && cEs ck es args
    | _ => false
  | .enum es, p, t => match p with
    | .Call (.Name x _) [a] [] _ => t && decide (x = "enumerate") && isBlt ck x && cEs ck es [a]
    | _ => false
  | .zip es, p, t => match p with
    | .Call (.Name x _) [a, b] [] _ => t && decide (x = "zip") && isBlt ck x && cEs ck es [a, b]
    | _ => false
end
end Ev
end
section
set_option maxRecDepth 100000
set_option maxHeartbeats 2000000
/-! Ev17: a checked term is the text's reading: the parts. -/
namespace Ev
open PySem L2

/-- a def that calls what it gets, and catches -/
def TryOk (ga : Nat → Addr) (fld : Nat → Str) (K : W.Frag) (mg : Str → Option Value) (x : Str) (k : Nat) (hs : List (Nat × SE)) (aft : SE) : Prop :=
  ∃ (oc dV kV doc pm cdv ct : Value) (od an : Option Addr) (osl : Array (Option Value)) (pg : Arguments) (bg : List Stmt) (sg : Scope) (a n : Str) (Ng : List Str) (i : Nat) (gl : List (Str × Nat)) (cl : List Nat),
    K.lookup (ga k) = some ⟨oc, od, .func (W.fnOf x x pg bg sg dV kV doc pm an cdv ct), osl⟩ ∧ W.codeIn K cdv x = true ∧ Binds K (W.fnOf x x pg bg sg dV kV doc pm an cdv ct) [a] [] ∧ FnScope Ng [a] sg ∧ Ng[0]? = some a ∧ Vis sg a ∧ nm a = true ∧
    ClsOk K ga fld cl ∧ Ng[i]? = some n ∧ sg.names.lookup n = some .local ∧ nm n = true ∧ (∀ x k, gl.lookup x = some k → mg x = some (.ref (ga k))) ∧ (∀ p ∈ hs, p.1 ∈ cl) ∧ cTry sg gl fld a n hs aft bg = true
/-- the def that is called with a lambda and a value: its parts -/
structure Try2 (ga : Nat → Addr) (fld : Nat → Str) (K : W.Frag) (mg : Str → Option Value) (x : Str) (k : Nat) (hs : List (Nat × Nat × D × D)) (aft : D) : Prop where
  ex : ∃ (oc dV kV doc pm cdv ct : Value) (od an : Option Addr) (osl : Array (Option Value)) (pg : Arguments) (bg : List Stmt) (sg : Scope) (a b n : Str) (Ng : List Str) (i : Nat) (gl : List (Str × Nat)) (cl : List Nat),
    K.lookup (ga k) = some ⟨oc, od, .func (W.fnOf x x pg bg sg dV kV doc pm an cdv ct), osl⟩ ∧ W.codeIn K cdv x = true ∧ Binds K (W.fnOf x x pg bg sg dV kV doc pm an cdv ct) [a, b] [] ∧ FnScope Ng [a, b] sg ∧ Ng[0]? = some a ∧ Ng[1]? = some b ∧ Vis sg a ∧ Vis sg b ∧ nm a = true ∧ nm b = true ∧
    ClsOk K ga fld cl ∧ Ng[i]? = some n ∧ 2 ≤ i ∧ sg.names.lookup n = some .local ∧ nm n = true ∧ (∀ x k, gl.lookup x = some k → mg x = some (.ref (ga k))) ∧ (∀ p ∈ hs, p.1 ∈ cl) ∧ cTry2 sg gl fld a b n hs aft bg = true
/-- what stands behind a global name -/
def GkOk (ga : Nat → Addr) (fld : Nat → Str) (cf : CF) (jr : Nat) (X : Cx) (kw : List Kw) (hot : Bool) (x : Str) : Gk → Prop
  | .val d => ∃ u v, X.mg x = some u ∧ RelV v u ∧ ∀ ρ H, RD X.K ga ρ H d v
  | .fn k np => X.mg x = some (.ref (ga k)) ∧ W.keepIn X.K (.ref (ga k)) = true ∧ (hot = true → HotFn ga fld cf jr X.prog X.w X.K X.mg X.base np k) ∧
      (hot = false → ∃ fd ps, FnOk X.prog X.w X.K X.mg X.base (L2N.CX X.prog X.w) jr (ga k) fd ps (spOf X.K ga fld cf np k) ∧ Binds X.K fd ps [] ∧ ∀ q ∈ kw, q.k = k → KBn X.K fd ps q.n q.ks (fun us ws => permL q.perm (us ++ ws)) (fun vs zs => permL q.perm (vs ++ zs)))
  | .cls k => X.mg x = some (.ref (ga k)) ∧ OexC X.K (ga k) ∧ ∃ fI fd ps, W.findIn X.K (.ref (ga k)) (Str.ofString "__init__") = some (some (.ref fI)) ∧ W.typeIn X.K (.ref fI) = some (.type "function") ∧
      FnOk X.prog X.w X.K X.mg X.base (L2N.CX X.prog X.w) 1 fI fd ps (spInit (ga k) (fld k)) ∧ Binds X.K fd ps []
  | .blt => X.mg x = none
  | .gcd => X.mg x = some (.builtin "math.gcd")
  | .tryf k hs aft => X.mg x = some (.ref (ga k)) ∧ W.keepIn X.K (.ref (ga k)) = true ∧ TryOk ga fld X.K X.mg x k hs aft
  | .tryf2 k hs aft => X.mg x = some (.ref (ga k)) ∧ W.keepIn X.K (.ref (ga k)) = true ∧ Try2 ga fld X.K X.mg x k hs aft ∧ ∀ p ∈ hs, HotFn ga fld cf jr X.prog X.w X.K X.mg X.base 2 p.2.1
  | .no => True
structure XOk (ga : Nat → Addr) (fld : Nat → Str) (cf : CF) (jr : Nat) (X : Cx) (ck : Ck) (Wx : WX) : Prop where
  N : X.N = ck.N
  nd : X.N.Nodup
  sc : X.env.scope = ck.sc
  calm : ck.hot = false → X.calm = true ∧ Room jr X.A
  hotc : ck.hot = true → L2H.HotC X
  roomH : L2H.RoomH jr X.A
  two : 2 ≤ jr
  lam : ∀ t, ck.lt = some t → X.env.qual ++ "<lambda>" = ck.lq ∧ Room (jr + 2) X.A ∧ ∃ c, X.env.code = .ref c ∧ LamX.TabB X.base X.mg c (ga (tabBase + t))
  tk : L2N.Takes X Wx
  gl : ∀ x g, ck.gl.lookup x = some g → GkOk ga fld cf jr X ck.kw ck.hot x g
  fnc : ck.fn = true → ∀ x, X.fn x = true
section
variable {ga : Nat → Addr} {fld : Nat → Str} {cf : CF} {jr : Nat} {X : Cx} {ck : Ck} {Wx : WX}
theorem XOk.hu (o : XOk ga fld cf jr X ck Wx) : X.A.units + 64 < cLine := by have := o.roomH.un; omega
theorem XOk.hu5 (o : XOk ga fld cf jr X ck Wx) : X.A.units + 65 < cLine := by have := o.roomH.un; omega
theorem cool {b : Bool} (h : (!b) = true) : b = false := by simpa using h
theorem XOk.gt (o : XOk ga fld cf jr X ck Wx) {x : Str} {g : Gk} (h : ck.gt x = g) (n : g ≠ .no) : GkOk ga fld cf jr X ck.kw ck.hot x g := by
  unfold Ck.gt at h
  cases e : ck.gl.lookup x with
  | none => rw [e] at h; exact absurd h.symm n
  | some g' =>
    rw [e] at h
    have h : g' = g := h
    subst h
    exact o.gl x g' e
theorem XOk.vis (o : XOk ga fld cf jr X ck Wx) {x : Str} (h : vis ck x = true) : Vis X.env.scope x := by
  unfold Ev.vis at h
  unfold Vis
  rw [o.sc]
  split at h
  · rename_i e; exact .inl e
  · rename_i e; exact .inr (.inl e)
  · rename_i e; exact .inr (.inr e)
  · cases h
theorem XOk.loc (o : XOk ga fld cf jr X ck Wx) {x : Str} (h : loc ck x = true) : L2.Loc X.env.scope x ∧ (X.fn x = true ∨ X.env.scope.names.lookup x = some .local) := by
  unfold Ev.loc at h
  unfold L2.Loc
  rw [o.sc]
  split at h
  · rename_i e; exact ⟨.inl e, .inr e⟩
  · rename_i e; exact ⟨.inr e, .inl (o.fnc h x)⟩
  · cases h
theorem XOk.glb (o : XOk ga fld cf jr X ck Wx) {x : Str} (h : glb ck x = true) : Gl X x := by
  unfold Ev.glb at h
  unfold Gl Env.kindOf
  rw [o.sc]
  split at h
  · assumption
  · cases h
theorem XOk.blt (o : XOk ga fld cf jr X ck Wx) {x : Str} (h : isBlt ck x = true) : Gl X x ∧ X.mg x = none := by
  unfold isBlt at h
  rw [Bool.and_eq_true] at h
  refine ⟨o.glb h.1, ?_⟩
  have h2 := h.2
  split at h2
  · rename_i e; exact o.gt e (by simp)
  · cases h2
abbrev Te (ga : Nat → Addr) (fld : Nat → Str) (cf : CF) (X : Cx) (Wx : WX) (e : Ex) : TE := TA1 X.K ga fld Wx (ev cf e)
def AllP (ga : Nat → Addr) (fld : Nat → Str) (cf : CF) (X : Cx) (Wx : WX) : Exs → List Expr → Prop
  | .nil, [] => True
  | .cons e es, p :: ps => notStar p = true ∧ PE X p (Te ga fld cf X Wx e) ∧ AllP ga fld cf X Wx es ps
  | _, _ => False
theorem AllP.pa : ∀ {es : Exs} {ps : List Expr}, AllP ga fld cf X Wx es ps → PA X ps (TL1 X.K ga fld Wx (evs cf es))
  | .nil, [], _ => pa_cv pa_nil fun σ H Q h => tl_nil h
  | .cons e es, p :: ps, ⟨n, he, hs⟩ => pa_cv (pa_cons he (AllP.pa hs) (star_cons n)) fun σ H Q h => tl_cons h
  | .nil, _ :: _, h => h.elim
  | .cons _ _, [], h => h.elim
theorem AllP.ns : ∀ {es : Exs} {ps : List Expr}, AllP ga fld cf X Wx es ps → ps.all notStar = true
  | .nil, [], _ => rfl
  | .cons e es, p :: ps, ⟨n, he, hs⟩ => by simp [n, AllP.ns hs]
  | .nil, _ :: _, h => h.elim
  | .cons _ _, [], h => h.elim
theorem AllP.len : ∀ {es : Exs} {ps : List Expr}, AllP ga fld cf X Wx es ps → exsLen es = ps.length
  | .nil, [], _ => rfl
  | .cons e es, p :: ps, ⟨n, he, hs⟩ => by simp [exsLen, AllP.len hs]
  | .nil, _ :: _, h => h.elim
  | .cons _ _, [], h => h.elim
theorem AllP.one : ∀ {es : Exs} {a : Expr}, AllP ga fld cf X Wx es [a] → ∃ e, es = .cons e .nil ∧ PE X a (Te ga fld cf X Wx e)
  | .cons e .nil, a, ⟨_, h, _⟩ => ⟨e, rfl, h⟩
  | .cons _ (.cons _ _), _, ⟨_, _, h⟩ => h.elim
  | .nil, _, h => h.elim
theorem AllP.two : ∀ {es : Exs} {a b : Expr}, AllP ga fld cf X Wx es [a, b] → ∃ e f, es = .cons e (.cons f .nil) ∧ PE X a (Te ga fld cf X Wx e) ∧ PE X b (Te ga fld cf X Wx f)
  | .cons e es, a, b, ⟨_, h, q⟩ => by
    obtain ⟨f, rfl, h2⟩ := q.one
    exact ⟨e, f, rfl, h, h2⟩
  | .nil, _, _, h => h.elim
theorem AllP.three : ∀ {es : Exs} {a b c : Expr}, AllP ga fld cf X Wx es [a, b, c] → ∃ e f g, es = .cons e (.cons f (.cons g .nil)) ∧ PE X a (Te ga fld cf X Wx e) ∧ PE X b (Te ga fld cf X Wx f) ∧ PE X c (Te ga fld cf X Wx g)
  | .cons e es, a, b, c, ⟨_, h, q⟩ => by
    obtain ⟨f, g, rfl, h2, h3⟩ := q.two
    exact ⟨e, f, g, rfl, h, h2, h3⟩
  | .nil, _, _, _, h => h.elim
/-! ### operations -/
section
variable {K : W.Frag}
theorem bin_cv {o : O} {r : R2} (ok : OpOk K ga o (tw r)) {a b : Ex} {σ H Q} (h : TA1 K ga fld Wx (ev cf (.op o (.cons a (.cons b .nil)))) σ H Q) : tOp r (TA1 K ga fld Wx (ev cf a)) (TA1 K ga fld Wx (ev cf b)) σ H Q := by
  have h1 := tl_two (op_T ok h)
  exact tg_mono h1 fun x H1 h2 => tg_mono h2 fun y H2 ⟨x', y', e, q⟩ => by cases e; exact q
theorem un_cv {o : O} {r : V → Hp → VK → Prop} (ok : OpOk K ga o (on1 r)) {a : Ex} {σ H Q} (h : TA1 K ga fld Wx (ev cf (.op o (.cons a .nil))) σ H Q) : tUn r (TA1 K ga fld Wx (ev cf a)) σ H Q := by
  have h1 := tl_one (op_T ok h)
  exact tg_mono h1 fun x H1 ⟨x', e, q⟩ => by cases e; exact q
theorem cb_cv {o : O} {r : List V → Hp → VK → Prop} (ok : OpOk K ga o r) {es : Exs} {σ H Q} (h : TA1 K ga fld Wx (ev cf (.op o es)) σ H Q) : tCB r (TL1 K ga fld Wx (evs cf es)) σ H Q := op_T ok h
theorem idx_cv {a b : Ex} {σ H Q} (h : TA1 K ga fld Wx (ev cf (.op .idx (.cons a (.cons b .nil)))) σ H Q) :
    tDGet (TA1 K ga fld Wx (ev cf a)) (TA1 K ga fld Wx (ev cf b)) σ H Q ∨ tOp (rIx K) (TA1 K ga fld Wx (ev cf a)) (TA1 K ga fld Wx (ev cf b)) σ H Q := by
  rcases op_T2 opok_idxD opok_idx h with h | h
  · exact .inl (tg_mono (tl_two h) fun x H1 h2 => tg_mono h2 fun y H2 ⟨x', y', e, q⟩ => by cases e; exact q)
  · exact .inr (tg_mono (tl_two h) fun x H1 h2 => tg_mono h2 fun y H2 ⟨x', y', e, q⟩ => by cases e; exact q)
theorem tl_three {σ H Q} {m n l : M Av} (h : TL1 K ga fld Wx (bnd m fun a => bnd (bnd n fun b => bnd (bnd l fun c => bnd (ret []) fun cs => ret (c :: cs)) fun bs => ret (b :: bs)) fun as => ret (a :: as)) σ H Q) :
    TA1 K ga fld Wx m σ H fun x H1 => TA1 K ga fld Wx n σ H1 fun y H2 => TA1 K ga fld Wx l σ H2 fun z H3 => Q [x, y, z] H3 :=
  tg_mono (tl_cons h) fun x H1 h1 => tg_mono (tl_cons h1) fun y H2 h2 => tl_one h2
theorem sl0_cv {a : Ex} {σ H Q} (h : TA1 K ga fld Wx (ev cf (.op (.sli false false) (.cons a .nil))) σ H Q) : tSl (rSlc K) (TA1 K ga fld Wx (ev cf a)) tNoPart tNoPart σ H Q :=
  tg_mono (tl_one (op_T opok_sl0 h)) fun x H1 ⟨x', e, q⟩ => by cases e; exact q
theorem sl1_cv {a b : Ex} {σ H Q} (h : TA1 K ga fld Wx (ev cf (.op (.sli true false) (.cons a (.cons b .nil)))) σ H Q) : tSl (rSlc K) (TA1 K ga fld Wx (ev cf a)) (tPart (TA1 K ga fld Wx (ev cf b))) tNoPart σ H Q :=
  tg_mono (tl_two (op_T opok_sl1 h)) fun x H1 h1 => tg_mono h1 fun y H2 ⟨x', i, e, q⟩ => by cases e; exact ⟨i, rfl, q⟩
theorem sl2_cv {a b : Ex} {σ H Q} (h : TA1 K ga fld Wx (ev cf (.op (.sli false true) (.cons a (.cons b .nil)))) σ H Q) : tSl (rSlc K) (TA1 K ga fld Wx (ev cf a)) tNoPart (tPart (TA1 K ga fld Wx (ev cf b))) σ H Q :=
  tg_mono (tl_two (op_T opok_sl2 h)) fun x H1 h1 => tg_mono h1 fun y H2 ⟨x', i, e, q⟩ => by cases e; exact ⟨i, rfl, q⟩
/-- how a computation may end, told from an anchor -/
def FinM (K : PySem.W.Frag) (ga : Nat → Addr) (fld : Nat → Str) (Wx : WX) {α β : Type} (Rel : List Addr → List W → List (Option V) → Hp → List Addr → List W → Hp → α → β → Prop) (Q : β → Hp → Prop) (ρ : List Addr) (σd : List W) (σ : List (Option V)) (H : Hp) : R α → Prop
  | .ok a σd' hd' => ∀ ρ' H' b, SR K ga ρ' σd' hd' σ H' → Step ρ σd σ H ρ' σd' σ H' → Rel ρ σd σ H ρ' σd' H' a b → Q b H'
  | .ex c d σd' hd' => ∀ ρ' H' (dx : Addr) v, SR K ga ρ' σd' hd' σ H' → Step ρ σd σ H ρ' σd' σ H' → RD K ga ρ' H' d v → H' dx = some (.xd [(fld c, v)]) → Wx (.ref (ga c)) (some dx) σ H'
  | .bad => False
section
variable {α β γ δ : Type} {Rel : List Addr → List W → List (Option V) → Hp → List Addr → List W → Hp → α → β → Prop} {Rel' : List Addr → List W → List (Option V) → Hp → List Addr → List W → Hp → γ → δ → Prop}
  {ρ ρ0 : List Addr} {σd σd0 : List W} {hd : List C} {σ : List (Option V)} {H H0 : Hp}
theorem fin_of {m : M α} {Q : β → Hp → Prop} (h : TG K ga fld Rel Wx m σ H Q) : ∃ ρ σd hd, SR K ga ρ σd hd σ H ∧ FinM K ga fld Wx Rel Q ρ σd σ H (m σd hd) := by
  obtain ⟨ρ, σd, hd, s, h⟩ := h
  refine ⟨ρ, σd, hd, s, ?_⟩
  cases e : m σd hd <;> simp only [e] at h <;> exact h
/-- an evaluation, and what comes behind it -/
theorem fin_bnd {m : M γ} {k : γ → M α} {Q : β → Hp → Prop} {Q' : δ → Hp → Prop} (s : SR K ga ρ σd hd σ H) (t : Step ρ0 σd0 σ H0 ρ σd σ H) (h : FinM K ga fld Wx Rel Q ρ0 σd0 σ H0 (bnd m k σd hd))
    (c : ∀ {ρ' σd' hd' H' a v}, SR K ga ρ' σd' hd' σ H' → Step ρ0 σd0 σ H0 ρ' σd' σ H' → Step ρ σd σ H ρ' σd' σ H' → Rel' ρ σd σ H ρ' σd' H' a v → FinM K ga fld Wx Rel Q ρ0 σd0 σ H0 (k a σd' hd') → Q' v H') : TG K ga fld Rel' Wx m σ H Q' := by
  refine ⟨ρ, σd, hd, s, ?_⟩
  unfold bnd at h
  cases e : m σd hd with
  | bad => simp [e, R.bnd, FinM] at h
  | ex cc d σ1 h1 =>
    simp only [e, R.bnd] at h
    exact fun ρ' H' dx v s' t' r x => h ρ' H' dx v s' (t.trans t') r x
  | ok a σ1 h1 =>
    simp only [e, R.bnd] at h
    exact fun ρ' H' b s' t' r => c s' (t.trans t') t' r h
theorem fin_view {a : Av} {k : Vw → M α} {Q : β → Hp → Prop} (h : FinM K ga fld Wx Rel Q ρ0 σd0 σ H0 (bnd (view a) k σd hd)) : ∃ u, vw σd hd a = some u ∧ FinM K ga fld Wx Rel Q ρ0 σd0 σ H0 (k u σd hd) := by
  simp only [bnd, view] at h
  cases e : vw σd hd a with
  | none => simp [e, R.bnd, FinM] at h
  | some u => exact ⟨u, rfl, by simpa [e, R.bnd] using h⟩
theorem fin_int {a : Av} {k : Int → M α} {Q : β → Hp → Prop} (h : FinM K ga fld Wx Rel Q ρ0 σd0 σ H0 (bnd (intOf a) k σd hd)) : ∃ i, a = .d (.int i) ∧ FinM K ga fld Wx Rel Q ρ0 σd0 σ H0 (k i σd hd) := by
  unfold bnd intOf at h
  split at h
  · exact ⟨_, rfl, h⟩
  · exact h.elim
end
theorem ta_slc {ma mb mc : M Av} {σ H} {Q : VK} (h : TA1 K ga fld Wx (bnd ma fun x => bnd mb fun y => bnd (intOf y) fun i => bnd mc fun z => bnd (intOf z) fun j => bnd (view x) fun u => ofO (Ev.cutV u (some i) (some j))) σ H Q) :
    tSl (rSlc K) (TA1 K ga fld Wx ma) (tPart (TA1 K ga fld Wx mb)) (tPart (TA1 K ga fld Wx mc)) σ H Q := by
  obtain ⟨ρ, σd, hd, s, h⟩ := fin_of h
  refine fin_bnd s Step.refl h fun {ρ1 σ1 h1 H1 a x} s1 t1 _ r1 g1 => ?_
  refine fin_bnd s1 t1 g1 fun {ρ2 σ2 h2 H2 b y} s2 t2 t12 r2 g2 => ?_
  obtain ⟨i, rfl, g3⟩ := fin_int g2
  refine ⟨i, by simpa [AvR, RD] using r2.1, ?_⟩
  refine fin_bnd s2 t2 g3 fun {ρ3 σ3 h3 H3 c z} s3 t3 t23 r3 g4 => ?_
  obtain ⟨j, rfl, g5⟩ := fin_int g4
  refine ⟨j, by simpa [AvR, RD] using r3.1, ?_⟩
  obtain ⟨u, hu, g6⟩ := fin_view g5
  cases e : Ev.cutV u (some i) (some j) with
  | none => simp [e, ofO, fail, FinM] at g6
  | some av =>
    simp only [e, ofO, ret] at g6
    refine slc_ok (vw_ok s3 ((r1.1.step s1 t12).step s2 t23) hu) e fun v H' g q => ?_
    obtain ⟨s4, t4, a4, n4⟩ := res_ok s3 g q
    refine g6 ρ3 H' v s4 (t3.trans t4) ⟨a4, fun b f => t3.nw2 (.inr (n4 b f))⟩
end
theorem sl_c : SlR X (rSlc X.K) := sl_list.or sl_tupA
theorem call_lenD : CallR X (.builtin "len") (rLen X.K) := by
  intro pins s σ H xs us Q I r h
  rcases h with h | ⟨a, kvs, rfl, h1, q⟩
  · exact call_len_seq pins s σ H xs us Q I r h
  · obtain ⟨u, rfl, ru⟩ := vals1 r
    cases ru
    exact d_len I (.inl h1) fun t s' I' => ⟨.int kvs.length, H, I', ⟨t, rfl⟩, q⟩
/-- the builtins' calls -/
theorem pe_opc (o : XOk ga fld cf jr X ck Wx) {op : O} {x : Str} {p pos : Pos} {a : Expr} {args : List Expr} {es : Exs} (hn : opNm ck op x = true) (hh : (!ck.hot || hotOp op) = true) (h : AllP ga fld cf X Wx es (a :: args)) :
    PE X (.Call (.Name x p) (a :: args) [] pos) (TA1 X.K ga fld Wx (ev cf (.op op es))) := by
  have hc : hotOp op = false → X.calm = true := fun z => by
    rw [z, Bool.or_false] at hh
    exact (o.calm (cool hh)).1
  have pa := h.pa
  have ns := h.ns
  simp only [List.all_cons, Bool.and_eq_true] at ns
  have s1 := star_cons (es := args) (env := X.env) ns.1
  have s2 := star_any (pos := pos) (env := X.env) ns.2
  have go : ∀ {y : Str} {id : String} {r : List V → Hp → VK → Prop}, (decide (x = y) && isBlt ck x) = true → bootBuiltins y = some (.builtin id) → y ≠ ("__name__" : Str) → (y == ("__debug__" : Str)) = false → CallR X (.builtin id) r → OpOk X.K ga op r → PE X (.Call (.Name x p) (a :: args) [] pos) (TA1 X.K ga fld Wx (ev cf (.op op es))) := fun {y id r} hn hb n1 n2 hr ok => by
    rw [Bool.and_eq_true] at hn
    have e := of_decide_eq_true hn.1
    subst e
    obtain ⟨g, m⟩ := o.blt hn.2
    exact pe_cv (pe_callB hr g m hb pa n1 n2 s1 s2) fun σ H Q h => cb_cv ok h
  have goT : ∀ {y : Str} {id : String} {r : List V → Hp → VK → Prop}, (decide (x = y) && isBlt ck x) = true → bootBuiltins y = some (.type id) → y ≠ ("__name__" : Str) → (y == ("__debug__" : Str)) = false → CallR X (.type id) r → OpOk X.K ga op r → PE X (.Call (.Name x p) (a :: args) [] pos) (TA1 X.K ga fld Wx (ev cf (.op op es))) := fun {y id r} hn hb n1 n2 hr ok => by
    rw [Bool.and_eq_true] at hn
    have e := of_decide_eq_true hn.1
    subst e
    obtain ⟨g, m⟩ := o.blt hn.2
    exact pe_cv (pe_callTy hr g m hb pa n1 n2 s1 s2) fun σ H Q h => cb_cv ok h
  cases op <;> simp only [opNm] at hn
  case len => exact go hn rfl (by decide) (by decide) call_lenD opok_len
  case int => exact goT hn rfl (by decide) (by decide) call_int1 opok_int
  case abs => exact go hn rfl (by decide) (by decide) call_abs opok_abs
  case isi => exact go hn rfl (by decide) (by decide) call_isi opok_isi
  case list => exact goT hn rfl (by decide) (by decide) call_list_of opok_list
  case tuple => exact goT hn rfl (by decide) (by decide) call_tuple_of opok_tuple
  case all =>
    cases hk : ck.hot with
    | true => exact go hn rfl (by decide) (by decide) (cr_allH (o.hotc hk)) opok_all
    | false => exact go hn rfl (by decide) (by decide) (cr_all (o.calm hk).1) opok_all
  case any =>
    have hc := hc rfl
    exact go hn rfl (by decide) (by decide) (cr_any hc) opok_any
  case sum =>
    have hc := hc rfl
    exact go hn rfl (by decide) (by decide) (cr_sum hc) opok_sum
  case min =>
    have hc := hc rfl
    exact go hn rfl (by decide) (by decide) ((call_minD hc o.hu).or (call_min2 hc)) opok_min
  case max =>
    have hc := hc rfl
    exact go hn rfl (by decide) (by decide) ((call_maxD hc o.hu).or (call_max2 hc)) opok_max
  case gcd =>
    simp only [Bool.and_eq_true] at hn
    obtain ⟨⟨h1, h2⟩, h3⟩ := hn
    split at h3
    · rename_i e
      have m : X.mg x = some (.builtin "math.gcd") := o.gt e (by simp)
      exact pe_cv (pe_callBfun cr_gcd (o.glb h1) m pa (nm_of h2).1 s1 s2) fun σ H Q h => cb_cv opok_gcd h
    · cases h3
  all_goals cases hn
end
end Ev
end
section
set_option maxRecDepth 100000
set_option maxHeartbeats 4000000
/-! Ev18: a checked term is the text's reading: expressions. -/
namespace Ev
open PySem L2
section
variable {ga : Nat → Addr} {fld : Nat → Str} {cf : CF} {jr : Nat}
theorem GkOk.to {X Y : Cx} {kw : List Kw} {hot : Bool} {x : Str} {g : Gk} (h : GkOk ga fld cf jr X kw hot x g) (e1 : Y.prog = X.prog) (e2 : Y.w = X.w) (e3 : Y.K = X.K) (e4 : Y.mg = X.mg) (e5 : Y.base = X.base) : GkOk ga fld cf jr Y kw hot x g := by
  cases Y
  simp only at e1 e2 e3 e4 e5
  subst e1 e2 e3 e4 e5
  cases g <;> exact h
theorem XOk.blk {X : Cx} {ck : Ck} {Wx : WX} (o : XOk ga fld cf jr X ck Wx) (hk : ck.hot = false) {s : Shared} {H : Hp} {scope : Scope} {cl : List (Str × Addr)} {C : Addr} {fp : List Addr} :
    XOk ga fld cf jr (X.blk s H scope (compEnvC scope cl C X.env) fp) { ck with sc := relS scope ck.sc, fn := false, lt := none } Wn where
  N := o.N
  nd := o.nd
  sc := by
    show relS scope X.env.scope = _
    rw [o.sc]
  calm := o.calm
  hotc := fun h => by
    have h : ck.hot = true := h
    rw [hk] at h
    cases h
  roomH := o.roomH
  two := o.two
  lam := fun t h => by cases h
  tk := takesN0
  gl := fun x g h => (o.gl x g h).to rfl rfl rfl rfl rfl
  fnc := fun h => by cases h
theorem XOk.blkH {X : Cx} {ck : Ck} {Wx : WX} (o : XOk ga fld cf jr X ck Wx) (hk : ck.hot = true) {s : Shared} {H : Hp} {scope : Scope} {cl : List (Str × Addr)} {C : Addr} {fp : List Addr} {p : Addr × Obj} (hp : L2H.Hot1 X.A p) :
    XOk ga fld cf jr (Ev.blkH X s H scope (compEnvC scope cl C X.env) fp p) { ck with sc := relS scope ck.sc, fn := false, lt := none } Wn where
  N := o.N
  nd := o.nd
  sc := by
    show relS scope X.env.scope = _
    rw [o.sc]
  calm := fun h => by
    have h : ck.hot = false := h
    rw [hk] at h
    cases h
  hotc := fun _ => blkH_hot hp
  roomH := o.roomH
  two := o.two
  lam := fun t h => by cases h
  tk := takesN0
  gl := fun x g h => (o.gl x g h).to rfl rfl rfl rfl rfl
  fnc := fun h => by cases h
theorem locs_ok {X : Cx} {ck : Ck} {Wx : WX} (o : XOk ga fld cf jr X ck Wx) : ∀ {is : List Nat} {es : List Expr}, locs ck is es = true → PGs X es (gsOf is) ∧ (assignEach es X.env).length = is.length ∧ (assignEach es X.env).findIdx? (·.1) = none
  | [], [], _ => ⟨pgs_nil, rfl, rfl⟩
  | i :: is, .Name x p :: es, h => by
    simp only [locs, Bool.and_eq_true, decide_eq_true_eq] at h
    obtain ⟨⟨h1, h2⟩, h3⟩ := h
    obtain ⟨h4, h5, h6⟩ := locs_ok o h3
    have hl := o.loc h2
    refine ⟨pgs_cons (pg_name o.nd (by rw [o.N]; exact h1) hl.1 hl.2) h4 rfl, ?_, ?_⟩
    · have e : (assignEach (.Name x p :: es) X.env).length = (assignEach es X.env).length + 1 := rfl
      rw [e, h5]; rfl
    · have e : assignEach (.Name x p :: es) X.env = (false, assign (.Name x p) X.env) :: assignEach es X.env := rfl
      rw [e, List.findIdx?_cons]
      simp [h6]
  | [], _ :: _, h => by simp [locs] at h
  | _ :: _, [], h => by simp [locs] at h
  | _ :: _, e :: _, h => by
    cases e <;> first | (simp [locs] at h; done) | skip
    rename_i i is es x p
    simp only [locs, Bool.and_eq_true, decide_eq_true_eq] at h
    obtain ⟨⟨h1, h2⟩, h3⟩ := h
    obtain ⟨h4, h5, h6⟩ := locs_ok o h3
    have hl := o.loc h2
    refine ⟨pgs_cons (pg_name o.nd (by rw [o.N]; exact h1) hl.1 hl.2) h4 rfl, ?_, ?_⟩
    · have e : (assignEach (.Name x p :: es) X.env).length = (assignEach es X.env).length + 1 := rfl
      rw [e, h5]; rfl
    · have e : assignEach (.Name x p :: es) X.env = (false, assign (.Name x p) X.env) :: assignEach es X.env := rfl
      rw [e, List.findIdx?_cons]
      simp [h6]
theorem tg_ok {X : Cx} {ck : Ck} {Wx : WX} (o : XOk ga fld cf jr X ck Wx) {tg : Tg} {p : Expr} (h : cTg ck tg p = true) : PG X p (gOf X.K tg) := by
  unfold cTg at h
  split at h
  · simp only [Bool.and_eq_true, decide_eq_true_eq] at h
    have hl := o.loc h.2
    exact pg_name o.nd (by rw [o.N]; exact h.1) hl.1 hl.2
  · obtain ⟨h1, h2, h3⟩ := locs_ok o h
    cases hk : ck.hot with
    | false => exact pg_tup (o.calm hk).1 h1 h2 h3
    | true => exact pg_tupH (o.hotc hk) h1 h2 h3
  · cases h
theorem tb_last {K : W.Frag} {Wx : WX} {m : M Bool} {σ H} {Q : Bool → Hp → Prop} (h : TB1 K ga fld Wx (bnd m fun b => if b then ret true else ret false) σ H Q) : TB1 K ga fld Wx m σ H Q := by
  obtain ⟨ρ, σd, hd, s, h⟩ := fin_of h
  refine fin_bnd s Step.refl h fun {ρ1 σ1 h1 H1 a x} s1 t1 _ r1 g1 => ?_
  have r1 : a = x := r1
  subst r1
  cases a with
  | true => exact g1 ρ1 H1 true s1 t1 rfl
  | false => exact g1 ρ1 H1 false s1 t1 rfl
theorem tb_yes {K : W.Frag} {Wx : WX} {σ H} {Q : Bool → Hp → Prop} (h : TB1 K ga fld Wx (ret true) σ H Q) : tYes σ H Q := by
  obtain ⟨ρ, σd, hd, s, h⟩ := h
  exact h ρ H true s Step.refl rfl

/-! ### tests of an operation, of a chain -/
theorem tt_cv {K : W.Frag} {Wx : WX} {m : M Av} {t : TE} {σ H} {Q : Bool → Hp → Prop} (k : ∀ {Q}, TA1 K ga fld Wx m σ H Q → t σ H Q) (h : TB1 K ga fld Wx (bnd m isT) σ H Q) : t σ H fun x H1 => ∃ c, x = .bl c ∧ Q c H1 := k (tb_of h)
/-- a dict's written keys -/
theorem keys_ok {X : Cx} {Wx : WX} {pos : Pos} : ∀ {ks : List D} {keys : List (Option Expr)} {es : Exs} {vals : List Expr}, keyD? ks keys = true → AllP ga fld cf X Wx es vals → keys.length = vals.length →
    ∃ qs, keysOf ks = some qs ∧ qs.length = exsLen es ∧ (keys.all fun x => x.isSome) = true ∧ PPs X pos keys vals ((qs.zip (exsL es)).map fun p => (tC (kV p.1), Te ga fld cf X Wx p.2))
  | [], [], .nil, [], _, _, _ => ⟨[], rfl, rfl, rfl, pps_nil⟩
  | [], [], .nil, _ :: _, _, h, _ => h.elim
  | [], [], .cons _ _, [], _, h, _ => h.elim
  | [], [], .cons _ _, _ :: _, _, _, e => by simp at e
  | .int i :: ks, some (.Constant (.int j) _ _) :: keys, .cons e es, v :: vals, hk, ⟨n, he, hs⟩, hl => by
    simp only [keyD?, Bool.and_eq_true, decide_eq_true_eq] at hk
    obtain ⟨rfl, hk⟩ := hk
    obtain ⟨qs, h1, h2, h3, h4⟩ := keys_ok (pos := pos) hk hs (by simpa using hl)
    exact ⟨.inl i :: qs, by simp [keysOf, keyD, h1], by simp [exsLen, h2], by simpa using h3, pps_cons pe_int he h4⟩
  | .str i :: ks, some (.Constant (.str j) _ _) :: keys, .cons e es, v :: vals, hk, ⟨n, he, hs⟩, hl => by
    simp only [keyD?, Bool.and_eq_true, decide_eq_true_eq] at hk
    obtain ⟨rfl, hk⟩ := hk
    obtain ⟨qs, h1, h2, h3, h4⟩ := keys_ok (pos := pos) hk hs (by simpa using hl)
    exact ⟨.inr i :: qs, by simp [keysOf, keyD, h1], by simp [exsLen, h2], by simpa using h3, pps_cons pe_str he h4⟩
  | .int i :: ks, some (.Constant (.int j) _ _) :: keys, .nil, _, hk, h, hl => by
    cases ‹List Expr› with
    | nil => simp at hl
    | cons _ _ => exact h.elim
  | .str i :: ks, some (.Constant (.str j) _ _) :: keys, .nil, _, hk, h, hl => by
    cases ‹List Expr› with
    | nil => simp at hl
    | cons _ _ => exact h.elim
  | .int i :: ks, some (.Constant (.int j) _ _) :: keys, .cons _ _, [], hk, h, hl => h.elim
  | .str i :: ks, some (.Constant (.str j) _ _) :: keys, .cons _ _, [], hk, h, hl => h.elim
end
end Ev
end
section
set_option maxRecDepth 100000
set_option maxHeartbeats 4000000
/-! Ev19: a checked expression's term is its reading. -/
namespace Ev
open PySem L2
section
variable {ga : Nat → Addr} {fld : Nat → Str} {cf : CF} {jr : Nat}
theorem bb_ty {n : String} (h : tyNames.contains n = true) : bootBuiltins (Str.ofString n) = some (.type n) := by
  simp only [tyNames, List.contains_eq_mem, List.mem_cons, List.not_mem_nil, or_false, decide_eq_true_eq] at h
  rcases h with rfl | rfl | rfl | rfl | rfl | rfl <;> rfl
theorem sC {X : Cx} {ck : Ck} {Wx : WX} (o : XOk ga fld cf jr X ck Wx) {d : D} {p : Expr} (h : cC ck d p = true) : PE X p (Te ga fld cf X Wx (.cst d)) := by
  have cst : ∀ {v : V}, PE X p (tC v) → (∀ ρ H, RD X.K ga ρ H d v) → PE X p (Te ga fld cf X Wx (.cst d)) := fun hp hr => pe_cv hp fun σ H Q h => ta_cst hr h
  have glob : ∀ {x : Str} {pos : Pos} {d' : D}, p = .Name x pos → glb ck x = true → nm x = true → ck.gt x = .val d' → beqD d d' = true → PE X p (Te ga fld cf X Wx (.cst d)) := fun {x pos d'} hp hg hn hv hb => by
    subst hp
    obtain ⟨u, v, h1, h2, h3⟩ := o.gt hv (by simp)
    have e := beqD_eq hb
    subst e
    exact cst (pe_glob (o.glb hg) h1 h2 (nm_of hn).1) h3
  unfold cC at h
  split at h
  · exact cst pe_non fun ρ H => by simp [RD]
  · have e := eq_of_beq h
    subst e
    exact cst pe_bl fun ρ H => by simp [RD]
  · have e := of_decide_eq_true h
    subst e
    exact cst pe_int fun ρ H => by simp [RD]
  · have e := of_decide_eq_true h
    subst e
    exact cst pe_str fun ρ H => by simp [RD]
  · rename_i n x pos
    simp only [Bool.and_eq_true, decide_eq_true_eq] at h
    obtain ⟨⟨⟨h1, rfl⟩, h3⟩, h4⟩ := h
    obtain ⟨g, m⟩ := o.blt h3
    obtain ⟨n1, n2, n3⟩ := nm_of h4
    exact cst (v := .ty n) (pe_bltn g m (bb_ty h1) rfl n3 n1) fun ρ H => by simp [RD]
  · rename_i k x pos
    simp only [Bool.and_eq_true] at h
    obtain ⟨⟨h1, h2⟩, h3⟩ := h
    split at h3
    · rename_i j np e
      have hk := eq_of_beq h3
      subst hk
      obtain ⟨m, _⟩ := o.gt e (by simp)
      exact cst (v := .ref (ga k)) (pe_glob (o.glb h1) m rfl (nm_of h2).1) fun ρ H => by simp [RD]
    · rename_i d' e
      exact glob rfl h1 h2 e h3
    · cases h3
  · simp only [Bool.and_eq_true] at h
    obtain ⟨⟨h1, h2⟩, h3⟩ := h
    split at h3
    · rename_i d' e
      exact glob rfl h1 h2 e h3
    · cases h3
  · cases h
theorem sVar {X : Cx} {ck : Ck} {Wx : WX} (o : XOk ga fld cf jr X ck Wx) {i : Nat} {x : Str} {pos : Pos} (h : (decide (ck.N[i]? = some x) && vis ck x && nm x) = true) : PE X (.Name x pos) (Te ga fld cf X Wx (.var i)) := by
  simp only [Bool.and_eq_true, decide_eq_true_eq] at h
  obtain ⟨⟨h1, h2⟩, h3⟩ := h
  exact pe_cv (pe_var (by rw [o.N]; exact h1) (o.vis h2) (nm_of h3).1 (nm_of h3).2.1) fun σ H Q h => ta_var h
theorem notTrue {b : Bool} (h : (!b) = true) : b = false := by simpa using h
theorem sCmp {X : Cx} {ck : Ck} {Wx : WX} (o : XOk ga fld cf jr X ck Wx) {op : O} {cop : CmpOp} {r : R2} {es : Exs} {a b : Expr} {pos : Pos} (ho : OpR X (compareOp cop) r) (ok : OpOk X.K ga op (tw r)) (hb : behindInMarks cop b = false) (ih : AllP ga fld cf X Wx es [a, b]) :
    PE X (.Compare a [cop] [b] pos) (Te ga fld cf X Wx (.op op es)) ∧ PT X (.Compare a [cop] [b] pos) (TB1 X.K ga fld Wx (bnd (ev cf (.op op es)) isT)) := by
  obtain ⟨e, f, rfl, h1, h2⟩ := ih.two
  exact ⟨pe_cv (pe_cmpR ho h1 h2 hb) fun σ H Q h => bin_cv ok h, pt_cv (pt_cmpR ho h1 h2 hb) fun σ H Q h => tt_cv (fun h => bin_cv ok h) h⟩
theorem sVal {X : Cx} {ck : Ck} {Wx : WX} (o : XOk ga fld cf jr X ck Wx) {e : Ex} {p : Expr} (hp : plainT p = true) (h : PE X p (Te ga fld cf X Wx e)) : PT X p (TB1 X.K ga fld Wx (bnd (ev cf e) isT)) :=
  pt_cv (pt_val h (plainT_of hp)) fun σ H Q h => tt_cv (fun h => h) h
theorem sIdx {X : Cx} {ck : Ck} {Wx : WX} (o : XOk ga fld cf jr X ck Wx) {es : Exs} {a b : Expr} {pos : Pos} (hs : notSlice b = true) (ih : AllP ga fld cf X Wx es [a, b]) : PE X (.Subscript a b pos) (Te ga fld cf X Wx (.op .idx es)) := by
  obtain ⟨e, f, rfl, h1, h2⟩ := ih.two
  have hu : X.A.units + 1 < cLine := by have := o.hu; omega
  exact pe_cv (pe_orr (pe_dget hu h1 h2 (plainIx_of hs)) (pe_ix ix_seq h1 h2 (plainIx_of hs))) fun σ H Q h => idx_cv h
theorem sMth {X : Cx} {ck : Ck} {Wx : WX} (o : XOk ga fld cf jr X ck Wx) {m : Mt} {e : Ex} {es : Exs} {o' : Expr} {n : Str} {apos cpos : Pos} {args : List Expr} (hn : mtNm m n = true) (hb : baseOk o' = true) (hl : (apos.endLine == cpos.line) = true) (hz : args.length < 20)
    (hm : mtAr m args.length = true) (he : PE X o' (Te ga fld cf X Wx e)) (ih : AllP ga fld cf X Wx es args) : PE X (.Call (.Attribute o' n apos) args [] cpos) (Te ga fld cf X Wx (.mth m e es)) := by
  have some_ : ∀ {name : Str} {id : String} {r : V → List V → Hp → VK → Prop}, decide (n = name) = true → decide (args.length = 1) = true → Slot "list" name id → typeOf (.builtin id) = pure (.type "method_descriptor") → MtR X id r → MtOk X.K ga m r → PE X (.Call (.Attribute o' n apos) args [] cpos) (Te ga fld cf X Wx (.mth m e es)) := fun {name id r} hn h1 slot ty hr ok => by
    have e1 := of_decide_eq_true hn
    subst e1
    match args, ih with
    | [], _ => simp at h1
    | _ :: _ :: _, _ => simp at h1
    | [a], ih =>
      have ns := ih.ns
      simp only [List.all_cons, Bool.and_eq_true] at ns
      refine pe_cv (pe_bm PySem.F.plainAttrs_list slot ty hr he ih.pa (base_of hb) ?_ hl (star_cons ns.1) (star_any ns.2)) fun σ H Q h => ta_mth ok msem_no h
      have : starEach [a] X.env = [(false, eval a X.env)] := star_cons ns.1
      rw [this]
      rfl
  cases m <;> simp only [mtAr] at hm
  case append => exact some_ hn hm F.slot_list_append F.type_list_append mt_append mtok_append
  case extend => exact some_ hn hm F.slot_list_extend F.type_list_extend mt_extend mtok_extend
  case popAt => exact some_ hn hm F.slot_list_pop F.type_list_pop mt_popAt mtok_popAt
  case pop =>
    have e1 := of_decide_eq_true hn
    subst e1
    match args, es, ih with
    | _ :: _, _, _ => simp at hm
    | [], .cons _ _, ih => exact ih.elim
    | [], .nil, ih =>
      exact pe_cv (pe_bm0 PySem.F.plainAttrs_list F.slot_list_pop F.type_list_pop mt_pop he (base_of hb) hl) fun σ H Q h => tg_mono (ta_mth mtok_pop msem_no h) fun x H1 ⟨t, q⟩ => ⟨t, tl_nil q⟩

/-! ### calls with keywords -/
def tRow (K : W.Frag) (ga : Nat → Addr) (fld : Nat → Str) (cf : CF) (Wx : WX) : Exs → TA
  | .nil => tNil
  | .cons e es => tCons (TA1 K ga fld Wx (ev cf e)) (tRow K ga fld cf Wx es)
theorem row_of {K : W.Frag} {Wx : WX} : ∀ {es : Exs} {σ H} {Q : List V → Hp → Prop}, TL1 K ga fld Wx (evs cf es) σ H Q → tRow K ga fld cf Wx es σ H Q
  | .nil, _, _, _, h => tl_nil h
  | .cons e es, _, _, _, h => tg_mono (tl_cons h) fun x H1 h1 => row_of h1
theorem tRow_mono {K : W.Frag} {Wx : WX} : ∀ {es : Exs} {σ H} {Q Q' : List V → Hp → Prop}, tRow K ga fld cf Wx es σ H Q → (∀ vs H, vs.length = exsLen es → Q vs H → Q' vs H) → tRow K ga fld cf Wx es σ H Q'
  | .nil, _, _, _, _, h, k => k [] _ rfl h
  | .cons e es, _, _, _, _, h, k => tg_mono h fun x H1 h1 => tRow_mono h1 fun vs H e q => k _ _ (by simp [exsLen, e]) q
/-- positional arguments, then the keywords' values -/
theorem kw_rows {X : Cx} {Wx : WX} {kws : List Keyword} : ∀ {args : List Expr} {es : Exs}, AllP ga fld cf X Wx es (args ++ kws.map (·.value)) →
    ∃ e1 e2, AllP ga fld cf X Wx e1 args ∧ AllP ga fld cf X Wx e2 (kws.map (·.value)) ∧ ∀ {σ H} {Q : List V → Hp → Prop}, tRow X.K ga fld cf Wx es σ H Q → tRow X.K ga fld cf Wx e1 σ H fun vs H1 => tRow X.K ga fld cf Wx e2 σ H1 fun zs H2 => Q (vs ++ zs) H2
  | [], es, h => ⟨.nil, es, trivial, h, fun h => h⟩
  | a :: args, .nil, h => h.elim
  | a :: args, .cons e es, ⟨n, h1, h2⟩ => by
    obtain ⟨e1, e2, g1, g2, k⟩ := kw_rows h2
    exact ⟨.cons e e1, e2, ⟨n, h1, g1⟩, g2, fun h => tg_mono h fun x H1 h1 => k h1⟩
theorem AllP.row : ∀ {X : Cx} {Wx : WX} {es : Exs} {ps : List Expr}, AllP ga fld cf X Wx es ps → PA X ps (tRow X.K ga fld cf Wx es)
  | X, Wx, .nil, [], _ => pa_nil
  | X, Wx, .cons e es, p :: ps, ⟨n, he, hs⟩ => pa_cons he (AllP.row hs) (star_cons n)
  | _, _, .nil, _ :: _, h => h.elim
  | _, _, .cons _ _, [], h => h.elim
theorem AllP.pk : ∀ {X : Cx} {Wx : WX} {kws : List Keyword} {es : Exs}, AllP ga fld cf X Wx es (kws.map (·.value)) → PK X kws (tRow X.K ga fld cf Wx es)
  | X, Wx, [], .nil, _ => pk_nil
  | X, Wx, ⟨nm, v, kp⟩ :: kws, .cons e es, ⟨n, he, hs⟩ => pk_cons he (AllP.pk hs)
  | _, _, _ :: _, .nil, h => h.elim
  | _, _, [], .cons _ _, h => h.elim
theorem kw_names {env : Env} {pos : Pos} : ∀ {kws : List Keyword} {ks : List Str}, ks.map some = kws.map (·.arg) →
    (backToKw pos (keywordEach kws env)).all (·.1.isSome) = true ∧ (backToKw pos (keywordEach kws env)).filterMap (·.1) = ks ∧ (backToKw pos (keywordEach kws env)).any (·.1.isNone) = false
  | [], ks, h => by
    have : ks = [] := by simpa using h
    subst this
    exact ⟨rfl, rfl, rfl⟩
  | ⟨nm, v, kp⟩ :: kws, [], h => by simp at h
  | ⟨nm, v, kp⟩ :: kws, k :: ks, h => by
    simp only [List.map_cons, List.cons.injEq] at h
    obtain ⟨rfl, h⟩ := h
    obtain ⟨h1, h2, h3⟩ := kw_names (env := env) (pos := pos) h
    have e : backToKw pos (keywordEach (⟨some k, v, kp⟩ :: kws) env) = (some k, do let w ← eval v env; standAt pos; pure w) :: backToKw pos (keywordEach kws env) := rfl
    rw [e]
    refine ⟨?_, ?_, ?_⟩
    · rw [List.all_cons, h1]; rfl
    · rw [List.filterMap_cons]; simp [h2]
    · rw [List.any_cons, h3]; rfl
theorem run_fnK {X : Cx} {CX : CXT} {k n : Nat} {f : Addr} {fd : FuncData} {ps ks : List Str} {sp : Sp} {E : XK} {g : List Value → List Value → List Value} {gV : List V → List V → List V} {pins : List (Addr × Obj)} {s : Shared} {σ : St} {H : Hp} {Q : VK} {us ws : List Value} {vs zs : List V}
    (F : FnOk X.prog X.w X.K X.mg X.base CX k f fd ps sp) (hr : Room k X.A) (hb : KBn X.K fd ps n ks g gV) (hx : PassesAt CX X σ E)
    (I : L2.Inv X pins σ H s) (r : Vals vs us) (rz : Vals zs ws) (l1 : vs.length = n) (l2 : zs.length = ks.length) (h : sp (gV vs zs) H Q E) : wpAny (model X.prog X.w) X.A (call (.ref f) us (ks.zip ws)) (EP X pins σ Q) X.xe s := by
  have r2 := hb.rel r rz
  refine wpAny_call (codeAny_mono (F.run X.A X.stack s H ⟨us, ks.zip ws⟩ (g us ws) (gV vs zs) Q E hr I.env0 (hb.to s us ws I.kIn (r.length.symm.trans l1) (rz.length.symm.trans l2)) r2 h) fun r s' hq => ?_)
  cases r with
  | error e => exact hx pins H s e s' I hq
  | ok fl =>
    cases fl with
    | ret u => exact I.after hq
    | next => exact False.elim hq
    | brk => exact False.elim hq
    | cont => exact False.elim hq
theorem pe_kw {X : Cx} {CX : CXT} {k n : Nat} {f : Addr} {fd : FuncData} {ps ks : List Str} {sp : Sp} {E : St → XK} {g : List Value → List Value → List Value} {gV : List V → List V → List V} {x : Str} {p pos : Pos} {args : List Expr} {kws : List Keyword} {t tk : TA}
    (F : FnOk X.prog X.w X.K X.mg X.base CX k f fd ps sp) (hr : Room k X.A) (hg : Gl X x) (hm : X.mg x = some (.ref f)) (hk : W.keepIn X.K (.ref f) = true) (hb : KBn X.K fd ps n ks g gV) (hx : ∀ σ, PassesAt CX X σ (E σ))
    (ha : PA X args t) (hkw : PK X kws tk) (h0 : args = [] → t = tNil) (hn : args.all notStar = true) (hks : ks.map some = kws.map (·.arg)) (hdb : (x == ("__debug__" : Str)) = false) :
    PE X (.Call (.Name x p) args kws pos) (fun σ H Q => t σ H fun vs H1 => tk σ H1 fun zs H2 => vs.length = n ∧ zs.length = ks.length ∧ sp (gV vs zs) H2 Q (E σ)) := by
  refine ⟨fun pins s σ H Q I h => ?_⟩
  obtain ⟨k1, k2, k3⟩ := kw_names (env := X.env) (pos := pos) hks
  refine wpAny_Call_Name_kw (ld_glob I hg hm ?_ hdb)
  cases args with
  | nil =>
    have et := h0 rfl
    subst et
    have h : tk σ H fun zs H2 => ([] : List V).length = n ∧ zs.length = ks.length ∧ sp (gV [] zs) H2 Q (E σ) := h
    refine PySem.W.callWith_KW0 (h₀ := X.base) I.ok.mod.kin hk k1 ?_ (by rw [k3]; rfl)
    refine thn (hkw.run pos pins s σ H _ I h) fun ws s2 ⟨zs, H2, I2, rz, l1, l2, q2⟩ => ⟨I2.kIn, ?_⟩
    rw [k2]
    exact run_fnK (us := []) (vs := []) F hr hb (hx σ) I2 .nil rz l1 l2 q2
  | cons e es =>
    simp only [List.all_cons, Bool.and_eq_true] at hn
    have he := star_cons (es := es) (env := X.env) hn.1
    refine PySem.W.callWith_KW (h₀ := X.base) I.ok.mod.kin hk k1 (thn (ha.run pos pins s σ H _ I h) fun us s1 ⟨vs, H1, I1, r, q⟩ => ?_) (by rw [k3, Bool.or_false]; exact star_any (es := e :: es) (by simp only [List.all_cons, Bool.and_eq_true]; exact hn)) he
    refine thn (hkw.run pos pins s1 σ H1 _ I1 q) fun ws s2 ⟨zs, H2, I2, rz, l1, l2, q2⟩ => ⟨I2.kIn, ?_⟩
    rw [k2]
    exact run_fnK F hr hb (hx σ) I2 r rz l1 l2 q2
theorem sCallk {X : Cx} {ck : Ck} {Wx : WX} (o : XOk ga fld cf jr X ck Wx) {k : Nat} {perm : List Nat} {es : Exs} {x : Str} {p pos : Pos} {args : List Expr} {kws : List Keyword} (h : (glb ck x && nm x && (match ck.gt x with
      | .fn j np => k == j && perm.length == np
      | _ => false)) = true) (hh : (!ck.hot) = true) (hkw : kwOk ck k args.length (kws.map (·.arg)) perm = true) (ih : AllP ga fld cf X Wx es (args ++ kws.map (·.value))) : PE X (.Call (.Name x p) args kws pos) (Te ga fld cf X Wx (.callk k perm es)) := by
  simp only [Bool.and_eq_true] at h
  obtain ⟨⟨h1, h2⟩, h3⟩ := h
  split at h3
  · rename_i j np e
    rw [Bool.and_eq_true] at h3
    have e1 := eq_of_beq h3.1
    have e2 := eq_of_beq h3.2
    subst e1
    obtain ⟨m, kp, _, hf⟩ := o.gt e (by simp)
    obtain ⟨fd, ps, F, hb, hK⟩ := hf (cool hh)
    obtain ⟨q, hq, hq2⟩ := List.any_eq_true.mp hkw
    simp only [Bool.and_eq_true, decide_eq_true_eq, beq_iff_eq] at hq2
    obtain ⟨⟨⟨q1, q2⟩, q3⟩, q4⟩ := hq2
    have KB := hK q hq q1
    obtain ⟨es1, es2, a1, a2, cv⟩ := kw_rows ih
    have l2 : exsLen es2 = q.ks.length := by
      have := congrArg List.length q3
      simp only [List.length_map] at this
      rw [a2.len, List.length_map, this]
    refine pe_cv (pe_kw F (o.calm (cool hh)).2 (o.glb h1) m kp KB (fun σ => L2N.passAt o.tk σ) a1.row a2.pk (fun e => by
      subst e
      cases es1 with
      | nil => rfl
      | cons _ _ => exact a1.elim) a1.ns q3 (nm_of h2).1) fun σ H Q h => ?_
    have h := cv (row_of (ta_callk e2 h))
    refine tRow_mono h fun vs H1 lv h1 => tRow_mono h1 fun zs H2 lz h2 => ⟨by rw [lv, a1.len, q2], by rw [lz, l2], ?_⟩
    rw [q4]
    exact h2
  · cases h3
theorem sCall {X : Cx} {ck : Ck} {Wx : WX} (o : XOk ga fld cf jr X ck Wx) {k : Nat} {es : Exs} {x : Str} {p pos : Pos} {args : List Expr} (h : (glb ck x && nm x && (match ck.gt x with
      | .fn j np => k == j && exsLen es == np
      | _ => false)) = true) (hh : (match args with
      | [] => !ck.hot
      | _ => true) = true) (ih : AllP ga fld cf X Wx es args) : PE X (.Call (.Name x p) args [] pos) (Te ga fld cf X Wx (.call k es)) := by
  simp only [Bool.and_eq_true] at h
  obtain ⟨⟨h1, h2⟩, h3⟩ := h
  split at h3
  · rename_i j np e
    rw [Bool.and_eq_true] at h3
    have e1 := eq_of_beq h3.1
    have e2 := eq_of_beq h3.2
    subst e1
    obtain ⟨m, kp, hh1, hf⟩ := o.gt e (by simp)
    match args, es, ih with
    | [], .cons _ _, ih => exact ih.elim
    | [], .nil, ih =>
      obtain ⟨fd, ps, F, hb, _⟩ := hf (cool hh)
      have KB : KBn X.K fd ps ps.length [] (fun us ws => us ++ ws) (fun vs zs => vs ++ zs) := ⟨fun s us ws hK l1 l2 => by
        have e0 : ws = [] := List.length_eq_zero_iff.mp l2
        subst e0
        exact hb s us hK (by rw [List.append_nil]; exact l1), fun r1 r2 => Vals.append r1 r2⟩
      refine pe_cv (pe_kw (args := []) (kws := []) (t := tNil) (tk := tNil) F (o.calm (cool hh)).2 (o.glb h1) m kp KB (fun σ => L2N.passAt o.tk σ) pa_nil pk_nil (fun _ => rfl) rfl rfl (nm_of h2).1) fun σ H Q h => ?_
      have h := tl_nil (K := X.K) (ga := ga) (fld := fld) (Wx := Wx) (ta_call (np := np) (fun e => by rw [evs_len e, e2]) h)
      exact ⟨F.len _ _ _ _ h, rfl, h⟩
    | a :: args, es, ih =>
      have ns := ih.ns
      simp only [List.all_cons, Bool.and_eq_true] at ns
      cases hk : ck.hot with
      | false =>
        obtain ⟨fd, ps, F, hb, _⟩ := hf hk
        exact pe_cv (pe_callS F (o.calm hk).2 (o.glb h1) m kp hb (fun σ => L2N.passAt o.tk σ) ih.pa (nm_of h2).1 (star_cons ns.1) (star_any ns.2)) fun σ H Q h => ta_call (fun e => by rw [evs_len e, e2]) h
      | true =>
        obtain ⟨_, fd, ps, F, hb⟩ := hh1 hk
        exact pe_cv (L2H.pe_callH F o.roomH (o.hotc hk) (o.glb h1) m kp hb (fun σ => L2N.passAt o.tk σ) ih.pa (nm_of h2).1 (star_cons ns.1) (star_any ns.2)) fun σ H Q h => ta_call (fun e => by rw [evs_len e, e2]) h
  · cases h3
/-- what a slot holds is called -/
theorem pe_slotcall {X : Cx} {CX : CXT} {k i : Nat} {Cn : Nat → Prop} {gad : Nat → Addr} {x : Str} {p pos : Pos} {e : Expr} {es : List Expr} {t : TA} {sp : Nat → Sp} {E : L2.St → XK} (hr : Room k X.A) (hN : X.N[i]? = some x) (hv : Vis X.env.scope x)
    (hF : ∀ n, Cn n → W.keepIn X.K (.ref (gad n)) = true ∧ ∃ fd ps, FnOk X.prog X.w X.K X.mg X.base CX k (gad n) fd ps (sp n) ∧ Binds X.K fd ps []) (hx : ∀ σ, PassesAt CX X σ (E σ)) (ha : PA X (e :: es) t)
    (hd : (x == ("__debug__" : Str)) = false) (hcd : (x == ("__classdict__" : Str)) = false) (he : starEach (e :: es) X.env = (false, eval e X.env) :: starEach es X.env) (hpl : (backTo pos (starEach es X.env)).any (·.1) = false) :
    PE X (.Call (.Name x p) (e :: es) [] pos) (fun σ H Q => ∃ n, Cn n ∧ σ[i]? = some (some (.ref (gad n))) ∧ t σ H fun vs H1 => sp n vs H1 Q (E σ)) := by
  constructor
  intro pins s σ H Q I h
  obtain ⟨n, h0, h1, h2⟩ := h
  obtain ⟨kp, fd, ps, F, hb⟩ := hF n h0
  refine wpAny_Call_Name_kw (thn ((pe_var (pos := p) hN hv hd hcd).run pins s σ H (fun v H1 => v = .ref (gad n) ∧ H1 = H) I ⟨.ref (gad n), h1, rfl, rfl⟩) fun u s1 ⟨v, H1, I1, r1, e1, e2⟩ => ?_)
  subst e1 e2
  cases r1
  refine W.callWith_K (h₀ := X.base) I.ok.mod.kin kp (thn (ha.run pos pins s1 σ _ _ I1 h2) fun us s2 ⟨vs, H2, I2, r, q⟩ => ⟨I2.kIn, ?_⟩) he hpl
  exact run_fnS F hr hb (hx σ) I2 r q
theorem sCallv {X : Cx} {ck : Ck} {Wx : WX} (o : XOk ga fld cf jr X ck Wx) {i : Nat} {cs : List Nat} {es : Exs} {x : Str} {p pos : Pos} {a : Expr} {args : List Expr} (h1 : ck.N[i]? = some x) (h2 : vis ck x = true) (h3 : nm x = true) (h4 : defsOk ck (exsLen es) cs = true) (hh : (!ck.hot) = true)
    (ih : AllP ga fld cf X Wx es (a :: args)) : PE X (.Call (.Name x p) (a :: args) [] pos) (Te ga fld cf X Wx (.callv i cs es)) := by
  have ns := ih.ns
  simp only [List.all_cons, Bool.and_eq_true] at ns
  refine pe_cv (pe_slotcall (i := i) (Cn := fun k => cs.contains k = true) (gad := ga) (sp := fun k => spOf X.K ga fld cf (exsLen es) k) (E := WE Wx) (o.calm (cool hh)).2 (by rw [o.N]; exact h1) (o.vis h2) (fun k hk => ?_) (fun σ => L2N.passAt o.tk σ) ih.pa (nm_of h3).1 (nm_of h3).2.1 (star_cons ns.1) (star_any ns.2)) fun σ H Q h => ?_
  · have := List.all_eq_true.mp h4 k (by simpa using hk)
    obtain ⟨q, _, hq⟩ := List.any_eq_true.mp this
    split at hq
    · rename_i j np e
      rw [Bool.and_eq_true] at hq
      have e1 := eq_of_beq hq.1
      have e2 := eq_of_beq hq.2
      subst e1 e2
      obtain ⟨m, kp, _, hf⟩ := o.gl _ _ e
      obtain ⟨fd, ps, F, hb, _⟩ := hf (cool hh)
      exact ⟨kp, fd, ps, F, hb⟩
    · cases hq
  · obtain ⟨ρ, σd, hd, s, h⟩ := h
    simp only [ev] at h
    cases e : σd[i]? with
    | none => simp [e] at h
    | some w =>
      rw [e] at h
      cases w with
      | none => simp at h
      | c c => simp at h
      | d x =>
        cases x with
        | gf k =>
          simp only at h
          by_cases hk : cs.contains k = true
          · rw [if_pos hk] at h
            obtain ⟨v, e1, e2⟩ := s.slotD i _ e
            simp only [RD] at e2
            subst e2
            exact ⟨k, hk, e1, ta_call (fun e => evs_len e) ⟨ρ, σd, hd, s, h⟩⟩
          · rw [if_neg hk] at h
            exact h.elim
        | _ => simp at h
/-- list(range(..)) -/
theorem opF_T {K : W.Frag} {Wx : WX} {f : List Vw → Option Av} {r : List V → Hp → VK → Prop} (ok : ∀ (ρ : List Addr) (H : Hp) (us : List Vw) (vs : List V) (av : Av) (Q : VK), VwsR K ga ρ H us vs → f us = some av → (∀ v H', Gr H H' → Res K ga ρ H H' av v → Q v H') → r vs H Q)
    {ms : M (List Av)} {σ H Q} (h : TA1 K ga fld Wx (bnd ms fun as => bnd (views as) fun vs => ofO (f vs)) σ H Q) : TL1 K ga fld Wx ms σ H fun vs H1 => r vs H1 Q := by
  obtain ⟨ρ, σd, hd, s, h⟩ := h
  refine ⟨ρ, σd, hd, s, ?_⟩
  unfold bnd at h
  cases e1 : ms σd hd with
  | bad => simp [e1, R.bnd] at h
  | ex c d σ1 h1 => simpa [e1, R.bnd] using h
  | ok as σ1 h1 =>
    simp only [e1, R.bnd] at h
    intro ρ1 H1 vs s1 t1 r1
    rcases views_ok s1 r1.1 with e2 | ⟨us, e2, hu⟩
    · simp [e2, R.bnd, bnd] at h
    · simp only [e2, R.bnd, bnd] at h
      cases e3 : f us with
      | none => simp [e3, ofO, fail] at h
      | some av =>
        simp only [e3, ofO, ret] at h
        refine ok ρ1 H1 us vs av Q hu e3 fun v H' g q => ?_
        obtain ⟨s2, t2, a2, n2⟩ := res_ok s1 g q
        refine h ρ1 H' v s2 (t1.trans t2) ⟨a2, fun b f => ?_⟩
        have k := n2 b f
        by_cases hf : Fp ρ σd σ b
        · exact .inl hf
        · cases e : H b with
          | none => exact .inr rfl
          | some o => exact ((t1.keep b o e hf).ne k).elim
theorem rgV_rd {K : W.Frag} {ρ : List Addr} {H : Hp} : ∀ (n : Nat) (lo : Int), RDs K ga ρ H (rngD lo n) ((List.range n).map fun i => V.int (lo + (i : Nat)))
  | 0, lo => RDs.nil
  | n + 1, lo => by
    rw [List.range_succ_eq_map, List.map_cons, List.map_map]
    refine RDs.cons (by simp [RD]) ?_
    have e : ((fun i : Nat => V.int (lo + (i : Nat))) ∘ Nat.succ) = fun i : Nat => V.int (lo + 1 + (i : Nat)) := by
      funext i
      show V.int (lo + ((i + 1 : Nat) : Int)) = _
      congr 1
      omega
    rw [e]
    exact rgV_rd n (lo + 1)
theorem rngD_n : ∀ (n : Nat) (lo : Int), (rngD lo n).length = n
  | 0, _ => rfl
  | n + 1, lo => by simp [rngD, rngD_n n]
def rRgs : List V → Hp → VK → Prop := fun vs H1 Q => ∃ lo hi : Int, ((vs = [.int hi] ∧ lo = 0) ∨ vs = [.int lo, .int hi]) ∧ RgOk lo hi ∧ ∀ q, H1 q = none → Q (.ref q) (upd H1 q (.lst (rgV lo hi)))
theorem ta_rgs {K : W.Frag} {Wx : WX} {es : Exs} {σ : L2.St} {H : Hp} {Q : VK} (h : TA1 K ga fld Wx (bnd (evs cf es) fun as => bnd (views as) fun vs => ofO ((rngOf vs).map fun l => Av.c (.lst l))) σ H Q) :
    TL1 K ga fld Wx (evs cf es) σ H fun vs H1 => rRgs vs H1 Q := by
  refine opF_T (r := rRgs) (f := fun vs => (rngOf vs).map fun l => Av.c (.lst l)) (fun ρ H us vs av Q hu e hq => ?_) h
  have new : ∀ (lo hi : Int) (l : List D), l = rngD lo (hi - lo).toNat → (hi - lo).toNat ≤ SZ → av = .c (.lst l) → ∀ q, H q = none → Q (.ref q) (upd H q (.lst (rgV lo hi))) := fun lo hi l el hz ea q hn => by
    subst ea el
    exact hq _ _ (gr_new hn) ⟨q, _, rfl, hn, upd_same, _, rfl, rgV_rd _ _, by rw [rngD_n]; exact hz⟩
  unfold rngOf at e
  split at e
  · rename_i j
    split at e
    · rename_i hj
      simp only [Option.map_some, Option.some.injEq] at e
      obtain ⟨v, rfl, ha⟩ := paired1 hu
      cases vi ha
      have hz : (SZ : Int) = 16777216 := rfl
      refine ⟨0, j, .inl ⟨rfl, rfl⟩, ⟨by omega, by omega, hj.1, by have := hj.2; omega, ?_⟩, new 0 j _ (by rw [Int.sub_zero]) ?_ e.symm⟩
      · have := hj.2
        rw [Int.sub_zero]
        show j.toNat ≤ 16777216
        omega
      · have := hj.2
        rw [Int.sub_zero]
        show j.toNat ≤ 16777216
        omega
    · simp at e
  · rename_i i j
    split at e
    · rename_i hj
      simp only [Option.map_some, Option.some.injEq] at e
      obtain ⟨v, w, rfl, ha, hb⟩ := paired2 hu
      cases vi ha; cases vi hb
      have hz : (SZ : Int) = 16777216 := rfl
      refine ⟨i, j, .inr rfl, ⟨hj.1, hj.2.1, hj.2.2.1, hj.2.2.2.1, ?_⟩, new i j _ rfl ?_ e.symm⟩
      · have := hj.2.2.2.2
        show (j - i).toNat ≤ 16777216
        omega
      · have := hj.2.2.2.2
        show (j - i).toNat ≤ 16777216
        omega
    · simp at e
  · simp at e
theorem sLrng {X : Cx} {ck : Ck} {Wx : WX} (o : XOk ga fld cf jr X ck Wx) {es : Exs} {p p2 pos pos2 : Pos} {args : List Expr} (h1 : isBlt ck "list" = true) (h2 : isBlt ck "range" = true) (hh : (!ck.hot) = true)
    (hn : (match args with
      | [_] => true
      | [_, _] => true
      | _ => false) = true) (ih : AllP ga fld cf X Wx es args) : PE X (.Call (.Name "list" p) [.Call (.Name "range" p2) args [] pos2] [] pos) (Te ga fld cf X Wx (.lrng es)) := by
  obtain ⟨g1, m1⟩ := o.blt h1
  obtain ⟨g2, m2⟩ := o.blt h2
  have ns := ih.ns
  split at hn
  · rename_i a
    obtain ⟨e, rfl, pa⟩ := ih.one
    simp only [List.all_cons, Bool.and_eq_true] at ns
    exact pe_cv (pe_listRg (o.calm (cool hh)).1 g1 m1 (prg_1 g2 m2 pa (star_cons ns.1)) rfl) fun σ H Q h => tg_mono (tl_one (ta_rgs h)) fun x H1 ⟨lo, hi, hv, ok, q⟩ => by
      rcases hv with ⟨hv, rfl⟩ | hv
      · cases hv
        exact ⟨hi, rfl, ok, q⟩
      · cases hv
  · rename_i a b
    obtain ⟨e, f, rfl, pa, pb⟩ := ih.two
    simp only [List.all_cons, Bool.and_eq_true] at ns
    exact pe_cv (pe_listRg (o.calm (cool hh)).1 g1 m1 (prg_2 g2 m2 pa pb (by rw [star_cons ns.1]) (star_cons ns.2.1) (star_any (es := [b]) (by simp [ns.2.1]))) rfl) fun σ H Q h => tg_mono (tl_two (ta_rgs h)) fun x H1 h1 => tg_mono h1 fun y H2 ⟨lo, hi, hv, ok, q⟩ => by
      rcases hv with ⟨hv, _⟩ | hv
      · cases hv
      · cases hv
        exact ⟨lo, hi, rfl, rfl, ok, q⟩
  · cases hn
end
end Ev
end
section
set_option maxRecDepth 100000
set_option maxHeartbeats 4000000
/-! Ev28: g(lambda: body). -/
namespace Ev
open PySem PySem.Spec PyProof.Rows L2 LamX
section
variable {K : W.Frag} {ga : Nat → Addr} {fld : Nat → Str} {ρ ρ' : List Addr} {σd σd' : List W} {hd hd' : List C} {σ σ' : List (Option V)} {H H' H1 : Hp} {Wx : WX}
/-- all tables of a state -/
def tabsOf (ρ : List Addr) (hd : List C) : List (Addr × Str) := (List.range hd.length).filterMap fun j => match (hd[j]? : Option C), (ρ[j]? : Option Addr) with
  | some (C.tbl _ q), some a => some (a, q)
  | _, _ => none
theorem tabs_mem {p : Addr × Str} (h : p ∈ tabsOf ρ hd) : ∃ (j i : Nat), hd[j]? = some (.tbl i p.2) ∧ ρ[j]? = some p.1 := by
  obtain ⟨j, _, e⟩ := List.mem_filterMap.mp h
  cases e1 : hd[j]? with
  | none => simp [e1] at e
  | some c =>
    cases e2 : ρ[j]? with
    | none => cases c <;> simp [e1, e2] at e
    | some a =>
      cases c <;> simp [e1, e2] at e
      rename_i i q
      subst e
      exact ⟨j, i, e1, e2⟩
theorem mem_tabs {j i : Nat} {q : Str} {a : Addr} (e1 : hd[j]? = some (.tbl i q)) (e2 : ρ[j]? = some a) : (a, q) ∈ tabsOf ρ hd := by
  refine List.mem_filterMap.mpr ⟨j, List.mem_range.mpr (List.getElem?_eq_some_iff.mp e1).1, ?_⟩
  simp [e1, e2]
theorem cell_tab (s : SR K ga ρ σd hd σ H) {j i : Nat} {q : Str} (e : hd[j]? = some (.tbl i q)) : ∃ a o, ρ[j]? = some a ∧ H a = some o ∧ TbR ga ρ H i q o := by
  obtain ⟨a, o, e1, e2, r⟩ := s.cell j _ e
  rcases r with r | ⟨j', q', z, r⟩
  · exact r.elim
  · cases z
    exact ⟨a, o, e1, e2, r⟩
theorem tabs_ok (s : SR K ga ρ σd hd σ H) : Tabs (tabsOf ρ hd) H := fun p hp => by
  obtain ⟨j, i, e1, e2⟩ := tabs_mem hp
  obtain ⟨a, o, e3, e4, e5, ps, rfl, t, h⟩ := cell_tab s e1
  rw [e2] at e3
  cases e3
  exact ⟨ps, e4, t, h⟩
theorem ext_stay (x : ExtN H H1) : Stay H H1 := fun a o e m => x a o e fun ps z => by subst z; exact m trivial
/-- tables stay tables -/
def NoNew (H H1 : Hp) : Prop := ∀ b ps, H b = some (.tbl ps) → ∃ qs, H1 b = some (.tbl qs)
theorem SR.ext (s : SR K ga ρ σd hd σ H) (x : ExtN H H1) (t : Tabs (tabsOf ρ hd) H1) (nn : NoNew H H1) : SR K ga ρ σd hd σ H1 where
  len := s.len
  slotD := fun i y e => by
    obtain ⟨v, h, r⟩ := s.slotD i y e
    exact ⟨v, h, RD.mono ⟨[], by simp⟩ (ext_stay x) y r⟩
  slotC := fun i c e => by
    obtain ⟨a, o, h1, h2, r⟩ := s.slotC i c e
    exact ⟨a, o, h1, x a o h2 r.nt, r.mono ⟨[], by simp⟩ (ext_stay x)⟩
  inj := s.inj
  off := s.off
  nd := s.nd
  lenH := s.lenH
  tin := trivial
  cell := fun n c e => by
    obtain ⟨a, o, h1, h2, r⟩ := s.cell n c e
    rcases r with r | ⟨j, q, rfl, r⟩
    · exact ⟨a, o, h1, x a o h2 r.nt, .inl (r.mono ⟨[], by simp⟩ (ext_stay x))⟩
    · obtain ⟨ps, hp, ht, ha⟩ := t _ (mem_tabs e h1)
      exact ⟨a, _, h1, hp, .inr ⟨j, q, rfl, r.1, ps, rfl, ht, ha⟩⟩
theorem Step.ext (s : SR K ga ρ σd hd σ H) (x : ExtN H H1) (t : Tabs (tabsOf ρ hd) H1) (nn : NoNew H H1) : Step ρ σd σ H ρ σd σ H1 :=
  ⟨⟨[], by simp⟩, fun a o e nf => by
    by_cases h : ∃ ps, o = .tbl ps
    · obtain ⟨ps, rfl⟩ := h
      exact .inr ⟨⟨ps, rfl⟩, nn a ps e⟩
    · exact .inl (x a o e fun ps z => h ⟨ps, z⟩), fun a f => .inl f⟩
theorem Step.kept (k : Kept H H1) : Step ρ σd σ H ρ σd σ H1 := ⟨⟨[], by simp⟩, fun a o e _ => .inl (k.1 a o e), fun a f => .inl f⟩
theorem SR.kept (s : SR K ga ρ σd hd σ H) (k : Kept H H1) : SR K ga ρ σd hd σ H1 :=
  s.stayed (fun a o e _ => k.1 a o e) (fun a f => by
    obtain ⟨o, e, _⟩ := s.fp f
    rw [e, k.1 a o e]) trivial
/-- what the def makes of the lambda -/
theorem lam_try {cf : CF} {body : Ex} {hs : List (Nat × SE)} {aft : SE} {Q : VK} (hok : ∀ p ∈ hs, okSE p.2 = true) (hoa : okSE aft = true) (s : SR K ga ρ σd hd σ H) (x : ExtN H H1) (t : Tabs (tabsOf ρ hd) H1) (nn : NoNew H H1)
    (h : FinM K ga fld Wx (RelA K ga) Q ρ σd σ H (caught hs aft (ev cf body σd hd))) : TTry ga fld hs aft (fun E G R => TA1 K ga fld (fun cls d _ H => E cls d H) (ev cf body) σ G R) H1 Q := by
  intro Rr hR
  have s1 := s.ext x t nn
  have t1 := s.ext x t nn
  have st : Step ρ σd σ H ρ σd σ H1 := Step.ext s x t nn
  refine ⟨ρ, σd, hd, s1, ?_⟩
  have done : ∀ {e : SE} {y : D} {v : V} {ρ' σd' hd' H'}, okSE e = true → (∀ ρ' H' b, SR K ga ρ' σd' hd' σ H' → Step ρ σd σ H ρ' σd' σ H' → RelA K ga ρ σd σ H ρ' σd' H' (.d (seD y e)) b → Q b H') → SR K ga ρ' σd' hd' σ H' → Step ρ σd σ H1 ρ' σd' σ H' → RD K ga ρ' H' y v →
      ∀ w H2, Kept H' H2 → SEV H2 v e w → Q w H2 := fun {e y v ρ' σd' hd' H'} he h s' t' ry w H2 k r => by
    have s2 := s'.kept k
    exact h ρ' H2 w s2 ((st.trans t').trans (Step.kept k)) ⟨SEV.rd (RD.mono ⟨[], by simp⟩ (fun a o e _ => k.1 a o e) y ry) e he r, fun b f => tm1 (fun ⟨c, z, _⟩ => nomatch z) f⟩
  cases e : ev cf body σd hd with
  | bad => simp [e, caught, FinM] at h
  | ok a σ1 h1 =>
    simp only [e, caught, FinM] at h
    exact fun ρ' H' v s' t' r => hR v H' (done (y := .non) (v := .non) hoa h s' t' (by simp [RD]))
  | ex c d σ1 h1 =>
    simp only [e, caught] at h
    cases hl : hs.lookup c with
    | none => simp [hl, FinM] at h
    | some se =>
      simp only [hl, FinM] at h
      have hse : okSE se = true := by
        have : ∀ {l : List (Nat × SE)}, (∀ p ∈ l, okSE p.2 = true) → l.lookup c = some se → okSE se = true := fun {l} => by
          induction l with
          | nil => intro _ z; simp at z
          | cons p r ih =>
            obtain ⟨k, e⟩ := p
            intro hp z
            rw [List.lookup_cons] at z
            cases hk : (c == k) with
            | true =>
              rw [hk] at z
              cases z
              exact hp _ List.mem_cons_self
            | false =>
              rw [hk] at z
              exact ih (fun p h => hp p (List.mem_cons_of_mem _ h)) z
        exact this hok hl
      exact fun ρ' H' dx v s' t' r hx => ⟨c, se, dx, v, rfl, rfl, hl, hx, done hse h s' t' r⟩
end
end Ev
end
section
set_option maxRecDepth 100000
set_option maxHeartbeats 4000000
/-! Ev29: a lambda is made and handed over; no table is new by that. -/
namespace Ev
open PySem PySem.Spec PyProof.Rows L2 LamX
section
variable {X : Cx} {pins : List (Addr × Obj)} {τ : L2.St} {G : Hp} {s : Shared}
abbrev lamN (X : Cx) : Str := X.env.qual ++ "<lambda>"
theorem lam_mk {T : List (Addr × Str)} {c P : Addr} {ar : Arguments} {bd : Expr} {sc : Scope} {pos : Pos} {E : Value → Shared → Prop} {R : Value → Shared → Prop} (I : L2.Inv X pins τ G s) (TB : TabB X.base X.mg c P) (hco : X.env.code = .ref c)
    (hm : (P, lamN X) ∈ T) (hu : ∀ p ∈ T, p.1 = P → p.2 = lamN X) (hT : Tabs T G) (hd : defaultsOf ar X.env = ([], [])) (hfr : ∀ y ∈ sc.names, y.2 = .free → ∃ k, X.env.cells.lookup y.1 = some k)
    (h : ∀ (f k : Addr) (pm cv : Value) (G1 : Hp) (s' : Shared), L2.Inv X pins τ G1 s' → ExtN G G1 → NoNew G G1 → Tabs T G1 →
      s'.heap.get? f = some (W.kla_obj "<lambda>" (lamN X) ar bd sc (cloFrom X.env.cells sc.names []) pm k cv) → G1 f = none → f ∉ frs X.stack → G1 k = some (CodeO k (lamN X)) → R (.ref f) s') :
    wpAny (model X.prog X.w) X.A (eval (.Lambda ar bd sc pos) X.env) R E s := by
  obtain ⟨ps, gP, tr, cd⟩ := hT _ hm
  have bP := TB.bm.keeps I.bk
  have oP : s.heap.get? P = some { cls := .none, data := .fields ps } := I.hok P _ gP
  have off : ∀ f, s.heap.objs.size ≤ f → f ∉ frs X.stack := fun f hf z => (List.mem_cons.mp (I.stkSub _ z)).elim
    (fun e => absurd (e ▸ I.lt) (Nat.not_lt.mpr hf)) fun e => I.nofs hf e
  refine W.kla_eval hd ?_
  cases hc : codeAmong pos ps.toList with
  | some v =>
    obtain ⟨k, e, ek⟩ := cd pos v hc
    subst e
    refine W.kla_makeFunctionHit (mg := X.mg) (c := c) (P := P) (ps := ps) (closure_ok hfr) I.ok.glob (I.mod.glob.keeps I.bk) hco (TB.code.keeps I.bk) oP tr hc bP fun cv h' tk hx hsz => ?_
    exact h h'.objs.size k ((X.mg "__name__").getD .none) cv G _ (I.kept fun b o e => Heap.get?_push_of_some _ (hx b o e)) (ExtN.refl G) (fun b ps e => ⟨ps, e⟩) hT (Heap.get?_push_size _ rfl) (I.hok.fresh hsz) (off _ hsz) ek
  | none =>
    refine W.kla_makeFunction (mg := X.mg) (c := c) (P := P) (ps := ps) (closure_ok hfr) I.ok.glob (I.mod.glob.keeps I.bk) hco (TB.code.keeps I.bk) oP tr hc TB.gP bP fun k cv h' tk hx hge hlt hrec htb => ?_
    obtain ⟨k2, oc, vs, t, e2, hoc, hod, hv⟩ := hrec
    cases e2
    have nk : G k = none := I.hok.fresh hge
    have hsz : s.heap.objs.size ≤ h'.objs.size := Nat.le_trans hge (Nat.le_of_lt hlt)
    generalize hmore : (#[rawInt pos.line, rawInt pos.col, .ref k] : Array Value) = more at htb
    have I1 := inv_table (q := lamN X) (t' := tk) (more := more) (h' := h'.push (W.kla_obj "<lambda>" (lamN X) ar bd sc (cloFrom X.env.cells sc.names []) ((X.mg "__name__").getD .none) k cv)) I gP
      (fun b o hb e => Heap.get?_push_of_some _ (hx b o hb e)) (Heap.get?_push_of_some _ htb) hge ⟨oc, vs, t, Heap.get?_push_of_some _ hoc, hod, hv⟩
    have nPk : P ≠ k := ne_of_none gP nk
    have xt : ExtN G (upd (upd G P (.tbl (ps ++ more))) k (CodeO k (lamN X))) := fun b o e n => by
      have n1 : b ≠ P := fun z => n ps (Option.some.inj (e.symm.trans (z ▸ gP)))
      rw [upd_ne (ne_of_none e nk), upd_ne n1, e]
    have nn : NoNew G (upd (upd G P (.tbl (ps ++ more))) k (CodeO k (lamN X))) := fun b qs e => by
      have h1 : b ≠ k := ne_of_none e nk
      by_cases h2 : b = P
      · exact ⟨ps ++ more, by rw [upd_ne h1, h2, upd_same]⟩
      · exact ⟨qs, by rw [upd_ne h1, upd_ne h2, e]⟩
    have lst : (ps ++ more).toList = ps.toList ++ [rawInt pos.line, rawInt pos.col, .ref k] := by rw [← hmore]; simp
    refine h h'.objs.size k ((X.mg "__name__").getD .none) cv _ _ I1 xt nn (fun p hp => ?_) (Heap.get?_push_size _ rfl) ?_ (off _ hsz) upd_same
    · by_cases hb : p.1 = P
      · unfold TabS
        rw [hu p hp hb, hb]
        refine ⟨ps ++ more, (upd_ne nPk).trans upd_same, lst ▸ TriplesOk_snoc _ _ _ _ tr, fun p' v hv => ?_⟩
        rw [lst] at hv
        exact (among_app _ tr hv).elim (fun z => (cd p' v z).elim fun k0 ⟨e1, e2⟩ => ⟨k0, e1, xt _ _ e2 codeO_ne⟩) fun z => ⟨k, z, upd_same⟩
      · obtain ⟨qs, a1, a2, a3⟩ := hT p hp
        exact ⟨qs, (upd_ne (ne_of_none a1 nk)).trans ((upd_ne hb).trans a1), a2, fun p' v hv => (a3 p' v hv).elim fun k0 ⟨e1, e2⟩ => ⟨k0, e1, xt _ _ e2 codeO_ne⟩⟩
    · have n2 : h'.objs.size ≠ P := Nat.ne_of_gt (Nat.lt_of_lt_of_le (Heap.lt_size oP) hsz)
      exact (upd_ne (Nat.ne_of_gt hlt)).trans ((upd_ne n2).trans (I.hok.fresh hsz))
end
end Ev
end
section
set_option maxRecDepth 100000
set_option maxHeartbeats 4000000
/-! Ev30: x(lambda: body), over the evaluator. -/
namespace Ev
open PySem PySem.Spec PyProof.Rows L2 LamX
section
variable {X : Cx}
theorem pe_lam {T : List (Addr × Str)} {TT : (XK → Hp → VK → Prop) → Hp → VK → Prop} {x a : Str} {g c P : Addr} {k : Nat} {pg ar : Arguments} {bg : List Stmt} {sg sc : Scope} {dV kV doc pm cdv ct oc : Value} {an od : Option Addr} {osl : Array (Option Value)} {Ng : List Str}
    {bd : Expr} {t : XK → TE} {p lp pos : Pos} (hg : Gl X x) (hm : X.mg x = some (.ref g)) (hk : W.keepIn X.K (.ref g) = true) (lk : X.K.lookup g = some ⟨oc, od, .func (W.fnOf x x pg bg sg dV kV doc pm an cdv ct), osl⟩) (hcg : W.codeIn X.K cdv x = true)
    (hb : Binds X.K (W.fnOf x x pg bg sg dV kV doc pm an cdv ct) [a] []) (Sg : FnScope Ng [a] sg) (hN0 : Ng[0]? = some a) (hva : Vis sg a) (hG : GivesN X Ng x sg g cdv bg a (lamN X) [] TT) (TB : TabB X.base X.mg c P) (hco : X.env.code = .ref c) (hmT : (P, lamN X) ∈ T)
    (hu : ∀ p ∈ T, p.1 = P → p.2 = lamN X) (hr : Room (k + 2) X.A) (L : LamS X.env.scope sc) (hd : defaultsOf ar X.env = ([], [])) (hbind : ∀ (q : Str) (cl : List (Str × Addr)) (pm cv ctv : Value), bindArgs (W.kla_fn "<lambda>" q ar bd sc cl pm cv ctv) ⟨[], []⟩ = pure [])
    (hbody : ∀ (A : Around) (outer : List Env) (s : Shared) (H : Hp) (E : XK) (f c' : Addr), Room k (A.deeper (lamEnv X sc s.heap.objs.size f c')) → PE (lamCxN X A outer s H E sc f c') bd (t E)) (n1 : (x == ("__debug__" : Str)) = false) (n2 : (a == ("__debug__" : Str)) = false) (n3 : (a == ("__classdict__" : Str)) = false) :
    PE X (.Call (.Name x p) [.Lambda ar bd sc lp] [] pos) (fun σ H Q => Tabs T H ∧ ∀ H1, ExtN H H1 → NoNew H H1 → Tabs T H1 → TT (fun E H' Q' => t E σ H' Q') H1 Q) := by
  constructor
  intro pins s σ H Q I hh
  obtain ⟨hT, hh⟩ := hh
  refine wpAny_Call_Name_kw (ld_glob I hg hm (W.callWith_K (h₀ := X.base) I.ok.mod.kin hk ?_ rfl rfl) n1)
  show wpAny _ _ (spliced ((false, eval (.Lambda ar bd sc lp) X.env) :: backTo pos (starEach [] X.env))) _ _ s
  refine Calls.spliced_cons (lam_mk I TB hco hmT hu hT hd (L.has I.ok) fun f c' pm' cv H1 s' I1 xt nn T1 of nf ff oc' => Calls.spliced_nil ⟨I1.kIn, ?_⟩)
  have rc : codeAny (model X.prog X.w) X.A (.call (.ref g) ⟨[.ref f], []⟩) (CR C8.CX0 X.stack X.prog X.w H1 s' Q C8.E0) s' := by
    refine run_ofS (N := Ng) (ps := [a]) (us := [.ref f]) (vs := [.ref f]) lk hcg Sg hr I1.env0 (hb s' [.ref f] I1.kIn rfl) (.cons rfl .nil) rfl fun hr' => ?_
    have gv := hG f c' s' H1 Q (fun E H' Q' => t E σ H' Q') (fun W pn xe E p1 p2 tk => pe_actN (i := 0) I1 L of nf ff (hbind _ _ _ _ _) tk hr' (fun A outer s H hr2 => hbody A outer s H E f c' hr2) hN0 hva n2 n3) oc' (hh H1 xt nn T1)
    exact gv.elim fun t' ⟨q1, q2⟩ => ⟨t', q1.nox, q2⟩
  refine wpAny_call (codeAny_mono rc fun r s2 hq => ?_)
  have no : ∀ {α : Prop}, False → α := fun z => z.elim
  cases r with
  | error e => exact no hq
  | ok fl =>
    cases fl with
    | ret u => exact I1.after hq
    | next => exact no hq
    | brk => exact no hq
    | cont => exact no hq
end
section
variable {ga : Nat → Addr} {fld : Nat → Str} {cf : CF} {jr : Nat}
theorem cTry_ok {sg : Scope} {gl : List (Str × Nat)} {a n : Str} {hs : List (Nat × SE)} {aft : SE} {bg : List Stmt} (h : cTry sg gl fld a n hs aft bg = true) : (∀ p ∈ hs, okSE p.2 = true) ∧ okSE aft = true := by
  unfold cTry at h
  split at h
  · simp only [Bool.and_eq_true] at h
    exact ⟨fun p hp => (hds_small h.1.1.1.1.2 p hp).1, h.1.2⟩
  · cases h
/-- the context of the lambda's body -/
theorem XOk.lamC {X : Cx} {ck : Ck} {Wx : WX} (o : XOk ga fld cf jr X ck Wx) (hk : ck.hot = false) {A : Around} {outer : List Env} {s : Shared} {H : Hp} {E : XK} {sc : Scope} {f c' : Addr} (hr : Room jr (A.deeper (lamEnv X sc s.heap.objs.size f c'))) :
    XOk ga fld cf jr (lamCxN X A outer s H E sc f c') { ck with sc := sc, fn := false, lt := none } (fun cls d _ H => E cls d H) where
  N := o.N
  nd := o.nd
  sc := rfl
  calm := fun _ => ⟨rfl, hr⟩
  hotc := fun h => by
    have h : ck.hot = true := h
    rw [hk] at h
    cases h
  roomH := L2H.roomH_of hr
  two := o.two
  lam := fun t h => by cases h
  tk := L2N.takes_of rfl rfl rfl rfl
  gl := fun x g h => (o.gl x g h).to rfl rfl rfl rfl rfl
  fnc := fun h => by cases h
theorem sLam {X : Cx} {ck : Ck} {Wx : WX} (o : XOk ga fld cf jr X ck Wx) {g t : Nat} {q : Str} {body : Ex} {hs : List (Nat × SE)} {aft : SE} {x : Str} {p pos lp : Pos} {ar : Arguments} {b : Expr} {sc : Scope} (h1 : glb ck x = true) (h2 : nm x = true) (h3 : ck.gt x = .tryf g hs aft)
    (h4 : ck.lt = some t) (h5 : ck.lq = q) (h6 : lamSB ck.sc sc = true) (h7 : noPar ar = true)
    (ih : ∀ {A : Around} {outer : List Env} {s : Shared} {H : Hp} {E : XK} {f c' : Addr}, Room jr (A.deeper (lamEnv X sc s.heap.objs.size f c')) → PE (lamCxN X A outer s H E sc f c') b (TA1 X.K ga fld (fun cls d _ H => E cls d H) (ev cf body))) :
    PE X (.Call (.Name x p) [.Lambda ar b sc lp] [] pos) (Te ga fld cf X Wx (.lam g t q body hs aft)) := by
  obtain ⟨lq, lr, c, lc, TB⟩ := o.lam t h4
  obtain ⟨m, kp, oc, dV, kV, doc, pm, cdv, ct, od, an, osl, pg, bg, sg, a, n, Ng, i, gl, cl, lk, hcg, hb, Sg, hN0, hva, hna, O, hi, hln, hnn, hgl, hcl, hct⟩ := o.gt h3 (by simp)
  have har : ar = ⟨[], [], none, [], [], none, []⟩ := by
    unfold noPar at h7
    split at h7
    · rfl
    · cases h7
  subst har
  obtain ⟨ok1, ok2⟩ := cTry_ok hct
  constructor
  intro pins s σ H Q I h0
  obtain ⟨ρ, σd, hd, sr, g0⟩ := fin_of h0
  clear h0
  simp only [ev] at g0
  by_cases ht : isTab t q hd = true
  · rw [if_pos ht] at g0
    unfold isTab at ht
    split at ht
    · rename_i j q' e
      simp only [Bool.and_eq_true, decide_eq_true_eq, beq_iff_eq] at ht
      obtain ⟨ej, eq'⟩ := ht
      subst ej eq'
      obtain ⟨P, ob, e1, e2, e3⟩ := cell_tab sr e
      have eP : P = ga (tabBase + j) := by
        have := e3.1
        rw [e1] at this
        exact Option.some.inj this
      subst eP
      have eq1 : lamN X = q' := lq.trans h5
      refine (pe_lam (T := tabsOf ρ hd) (TT := TTry ga fld hs aft) (t := fun E => TA1 X.K ga fld (fun cls d _ H => E cls d H) (ev cf body)) (o.glb h1) m kp lk hcg hb Sg hN0 hva
        (try_gives O Sg.nd hi hln hnn hgl hcl hN0 hct) TB lc (by rw [eq1]; exact mem_tabs e e1) (fun p hp hpe => ?_) lr (o.sc ▸ lamS_by h6) rfl (fun _ _ _ _ _ => rfl) (fun A outer s H E f c' hr => ih hr) (nm_of h2).1 (nm_of hna).1 (nm_of hna).2.1).run pins s σ H Q I
        ⟨tabs_ok sr, fun H1 xt nn T1 => lam_try ok1 ok2 sr xt T1 nn g0⟩
      obtain ⟨j2, i2, f1, f2⟩ := tabs_mem hp
      rw [hpe] at f2
      have hjj := (List.getElem?_inj (List.getElem?_eq_some_iff.mp f2).1 sr.nd).mp (f2.trans e1.symm)
      subst hjj
      rw [e] at f1
      rw [eq1]
      injection f1 with f1
      injection f1 with f1 f3
      exact f3.symm
    · cases ht
  · rw [if_neg ht] at g0
    exact g0.elim
end
end Ev
end
section
set_option maxRecDepth 100000
set_option maxHeartbeats 4000000
/-! Ev35: x(lambda: body, y), over the evaluator. -/
namespace Ev
open PySem PySem.Spec PyProof.Rows L2 LamX
section
variable {X : Cx}
theorem pe_lam2 {T : List (Addr × Str)} {TT : V → (XK → Hp → VK → Prop) → Hp → VK → Prop} {x a b y : Str} {g c P : Addr} {k i : Nat} {pg ar : Arguments} {bg : List Stmt} {sg sc : Scope} {dV kV doc pm cdv ct oc : Value} {an od : Option Addr} {osl : Array (Option Value)} {Ng : List Str}
    {bd : Expr} {t : XK → TE} {p lp yp pos : Pos} (hg : Gl X x) (hm : X.mg x = some (.ref g)) (hk : W.keepIn X.K (.ref g) = true) (lk : X.K.lookup g = some ⟨oc, od, .func (W.fnOf x x pg bg sg dV kV doc pm an cdv ct), osl⟩) (hcg : W.codeIn X.K cdv x = true)
    (hb : Binds X.K (W.fnOf x x pg bg sg dV kV doc pm an cdv ct) [a, b] []) (Sg : FnScope Ng [a, b] sg) (hN0 : Ng[0]? = some a) (hva : Vis sg a) (hG : ∀ u, GivesN X Ng x sg g cdv bg a (lamN X) [u] (TT u)) (TB : TabB X.base X.mg c P) (hco : X.env.code = .ref c) (hmT : (P, lamN X) ∈ T)
    (hu : ∀ p ∈ T, p.1 = P → p.2 = lamN X) (hr : Room (k + 2) X.A) (L : LamS X.env.scope sc) (hd : defaultsOf ar X.env = ([], [])) (hbind : ∀ (q : Str) (cl : List (Str × Addr)) (pm cv ctv : Value), bindArgs (W.kla_fn "<lambda>" q ar bd sc cl pm cv ctv) ⟨[], []⟩ = pure [])
    (hbody : ∀ (A : Around) (outer : List Env) (s : Shared) (H : Hp) (E : XK) (f c' : Addr), Room k (A.deeper (lamEnv X sc s.heap.objs.size f c')) → PE (lamCxN X A outer s H E sc f c') bd (t E)) (n1 : (x == ("__debug__" : Str)) = false) (n2 : (a == ("__debug__" : Str)) = false) (n3 : (a == ("__classdict__" : Str)) = false)
    (hNy : X.N[i]? = some y) (hvy : Vis X.env.scope y) (n4 : (y == ("__debug__" : Str)) = false) (n5 : (y == ("__classdict__" : Str)) = false) :
    PE X (.Call (.Name x p) [.Lambda ar bd sc lp, .Name y yp] [] pos) (fun σ H Q => ∃ u, σ[i]? = some (some u) ∧ Tabs T H ∧ ∀ H1, ExtN H H1 → NoNew H H1 → Tabs T H1 → TT u (fun E H' Q' => t E σ H' Q') H1 Q) := by
  constructor
  intro pins s σ H Q I hh
  obtain ⟨u, hiu, hT, hh⟩ := hh
  refine wpAny_Call_Name_kw (ld_glob I hg hm (W.callWith_K (h₀ := X.base) I.ok.mod.kin hk ?_ rfl rfl) n1)
  show wpAny _ _ (spliced ((false, eval (.Lambda ar bd sc lp) X.env) :: backTo pos (starEach [.Name y yp] X.env))) _ _ s
  refine Calls.spliced_cons (lam_mk I TB hco hmT hu hT hd (L.has I.ok) fun f c' pm' cv H1 s' I1 xt nn T1 of nf ff oc' => ?_)
  have nl : f ≠ X.env.locals := fun z => by
    obtain ⟨m, ⟨o, es, ep, e1, e2, _⟩, _⟩ := I1.loc
    rw [← z, of] at e1
    cases e1
    cases e2
  have sub : ∀ b, b ∈ X.fs → b ∈ frs X.stack := fun b hb => by
    rcases I1.ok.stk with e | ⟨e, hf⟩
    · rw [e]; exact hb
    · rw [e]
      unfold frs
      rw [List.filterMap_cons, hf]
      exact List.mem_cons_of_mem _ hb
  have Ip := I1.pins_of (pins' := pins ++ [(f, _)]) fun q hq => (List.mem_append.mp hq).elim (fun z => I1.pin q (List.mem_append_right _ z)) fun z => by
    have e := List.mem_singleton.mp z
    subst e
    exact ⟨of, nf, nl, fun z => ff (sub _ z), fun v z => nomatch z⟩
  refine thn ((pa_cons (pe_var (pos := yp) hNy hvy n4 n5) pa_nil rfl).run pos _ s' σ H1 (fun vs H2 => vs = [u] ∧ H2 = H1) Ip ⟨u, hiu, rfl, rfl⟩) fun us s2 ⟨vs, H2, I2, r2, e1, e2⟩ => ?_
  subst e1 e2
  have of2 := (I2.pin (f, _) (List.mem_append_right _ (List.mem_append_right _ List.mem_cons_self))).1
  have I3 := I2.unpinned
  obtain ⟨w, rfl, rw⟩ : ∃ w, us = [w] ∧ RelV u w := by
    cases r2 with
    | cons r rr =>
      cases rr
      exact ⟨_, rfl, r⟩
  refine ⟨I3.kIn, ?_⟩
  have rc : codeAny (model X.prog X.w) X.A (.call (.ref g) ⟨[.ref f, w], []⟩) (CR C8.CX0 X.stack X.prog X.w H2 s2 Q C8.E0) s2 := by
    refine run_ofS (N := Ng) (ps := [a, b]) (us := [.ref f, w]) (vs := [.ref f, u]) lk hcg Sg hr I3.env0 (hb s2 [.ref f, w] I3.kIn rfl) (.cons rfl (.cons rw .nil)) rfl fun hr' => ?_
    have gv := hG u f c' s2 H2 Q (fun E H' Q' => t E σ H' Q') (fun W pn xe E p1 p2 tk => pe_actN (i := 0) I3 L of2 nf ff (hbind _ _ _ _ _) tk hr' (fun A outer s H hr2 => hbody A outer s H E f c' hr2) hN0 hva n2 n3) oc' (hh H2 xt nn T1)
    exact gv.elim fun t' ⟨q1, q2⟩ => ⟨t', q1.nox, q2⟩
  refine wpAny_call (codeAny_mono rc fun r s3 hq => ?_)
  have no : ∀ {α : Prop}, False → α := fun z => z.elim
  cases r with
  | error e => exact no hq
  | ok fl =>
    cases fl with
    | ret u => exact I3.after hq
    | next => exact no hq
    | brk => exact no hq
    | cont => exact no hq
end
section
variable {ga : Nat → Addr} {fld : Nat → Str} {cf : CF} {jr : Nat}
section
variable {K : PySem.W.Frag} {ρ ρ' : List Addr} {σd σd' : List W} {hd hd' : List C} {σ σ' : List (Option V)} {H H' H1 : Hp} {Wx : WX}
theorem scal_tup1 {d : D} {v : V} {b : Addr} (f : Tm [.d d] [v] b) : False := by
  rcases f with ⟨c, z, _⟩ | f
  · cases z
  · exact f.elim
/-- what the def makes of the lambda and the value -/
theorem lam_try2 {body : Ex} {hs : Cl2} {aft y : D} {u : V} {Q : VK} (hok : ∀ p ∈ hs, scal p.2.2.1 = true ∧ scal p.2.2.2 = true) (hoa : scal aft = true) (s : SR K ga ρ σd hd σ H) (x : ExtN H H1) (t : Tabs (tabsOf ρ hd) H1) (nn : NoNew H H1) (ru : RD K ga ρ H y u)
    (h : FinM K ga fld Wx (RelA K ga) Q ρ σd σ H (caught2 cf hs aft y (ev cf body σd hd))) : TTry2 K ga fld cf hs aft u (fun E G R => TA1 K ga fld (fun cls d _ H => E cls d H) (ev cf body) σ G R) H1 Q := by
  intro Rr hR
  have s1 := s.ext x t nn
  have st : Step ρ σd σ H ρ σd σ H1 := Step.ext s x t nn
  refine ⟨ρ, σd, hd, s1, ?_⟩
  cases e : ev cf body σd hd with
  | bad => simp [e, caught2, FinM] at h
  | ok a σ1 h1 =>
    simp only [e, caught2, FinM] at h
    exact fun ρ' H' v s' t' r => hR v H' (h ρ' H' _ s' (st.trans t') ⟨scal_rd hoa, fun b f => (scal_tup1 f).elim⟩)
  | ex c d σ1 h1 =>
    simp only [e, caught2] at h
    cases hl : hs.lookup c with
    | none => simp [hl, FinM] at h
    | some p =>
      simp only [hl] at h
      have hp : scal p.2.1 = true ∧ scal p.2.2 = true := by
        have : ∀ {l : Cl2}, (∀ p ∈ l, scal p.2.2.1 = true ∧ scal p.2.2.2 = true) → l.lookup c = some p → scal p.2.1 = true ∧ scal p.2.2 = true := fun {l} => by
          induction l with
          | nil => intro _ z; simp at z
          | cons q r ih =>
            obtain ⟨k, e⟩ := q
            intro hp z
            rw [List.lookup_cons] at z
            cases hk : (c == k) with
            | true =>
              rw [hk] at z
              cases z
              exact hp _ List.mem_cons_self
            | false =>
              rw [hk] at z
              exact ih (fun p h => hp p (List.mem_cons_of_mem _ h)) z
        exact this hok hl
      intro ρ' H' dx v s' t' r hx
      refine ⟨c, p, dx, v, rfl, rfl, hl, hx, ?_⟩
      have st2 := st.trans t'
      have ru' : RD K ga ρ' H' y u := RD.mono st2.pre (st2.stay s) y ru
      have av : AvsR K ga ρ' σ1 σ H' (([.d d, .d y] : List W).map wAv) [v, u] := ⟨v, [u], rfl, r, ⟨u, [], rfl, ru', rfl, fun _ _ f => f.elim⟩, fun b f _ => (scal_tup1 (d := d) (v := v) (b := b) (.inl f))⟩
      refine call_ok (Wx := fun cls d _ H => NoE cls d H) (ρ0 := ρ') (σd0 := σ1) (σ := σ) (H0 := H') s' Step.refl av (fun w hw => ?_) (fun b f => ?_) rfl ?_
      · rcases List.mem_cons.mp hw with rfl | hw
        · simp
        · rcases List.mem_cons.mp hw with rfl | hw
          · simp
          · cases hw
      · rcases f with ⟨c, z, _⟩ | ⟨c, z, _⟩ | f
        · cases z
        · cases z
        · exact f.elim
      · unfold callK
        split at h
        · rename_i z h2 e2
          simp only [e2, RC.toR]
          intro ρ2 H2 b s2 t2 r2
          have eb : b = .bl z := by simpa [RelA, AvR, RD] using r2.1
          subst eb
          refine ⟨z, rfl, h ρ2 H2 _ s2 (st2.trans t2) ⟨?_, fun b f => (scal_tup1 f).elim⟩⟩
          cases z
          · exact scal_rd hp.2
          · exact scal_rd hp.1
        · exact h.elim
end
theorem cTry2_ok {sg : Scope} {gl : List (Str × Nat)} {a b n : Str} {hs : Cl2} {aft : D} {bg : List Stmt} (h : cTry2 sg gl fld a b n hs aft bg = true) : (∀ p ∈ hs, scal p.2.2.1 = true ∧ scal p.2.2.2 = true) ∧ scal aft = true := by
  unfold cTry2 at h
  split at h
  · simp only [Bool.and_eq_true] at h
    exact ⟨fun p hp => hds2_scal h.1.1.2 p hp, h.2⟩
  · cases h
theorem sLam2 {X : Cx} {ck : Ck} {Wx : WX} (o : XOk ga fld cf jr X ck Wx) {g t i : Nat} {q : Str} {body : Ex} {hs : Cl2} {aft : D} {x y : Str} {p pos lp yp : Pos} {ar : Arguments} {b : Expr} {sc : Scope} (h1 : glb ck x = true) (h2 : nm x = true) (h3 : ck.gt x = .tryf2 g hs aft)
    (h4 : ck.lt = some t) (h5 : ck.lq = q) (h6 : lamSB ck.sc sc = true) (h7 : noPar ar = true) (h8 : (decide (ck.N[i]? = some y) && vis ck y && nm y) = true)
    (ih : ∀ {A : Around} {outer : List Env} {s : Shared} {H : Hp} {E : XK} {f c' : Addr}, Room jr (A.deeper (lamEnv X sc s.heap.objs.size f c')) → PE (lamCxN X A outer s H E sc f c') b (TA1 X.K ga fld (fun cls d _ H => E cls d H) (ev cf body))) :
    PE X (.Call (.Name x p) [.Lambda ar b sc lp, .Name y yp] [] pos) (Te ga fld cf X Wx (.lam2 g t q i body hs aft)) := by
  obtain ⟨lq, lr, c, lc, TB⟩ := o.lam t h4
  obtain ⟨m, kp, T2, hH⟩ := o.gt h3 (by simp)
  obtain ⟨oc, dV, kV, doc, pm, cdv, ct, od, an, osl, pg, bg, sg, a, b2, n, Ng, j, gl, cl, lk, hcg, hb, Sg, hN0, hN1, hva, hvb, hna, hnb, O, hi, hj2, hln, hnn, hgl, hcl, hct⟩ := T2.ex
  simp only [Bool.and_eq_true, decide_eq_true_eq] at h8
  obtain ⟨⟨y1, y2⟩, y3⟩ := h8
  have har : ar = ⟨[], [], none, [], [], none, []⟩ := by
    unfold noPar at h7
    split at h7
    · rfl
    · cases h7
  subst har
  obtain ⟨ok1, ok2⟩ := cTry2_ok hct
  constructor
  intro pins s σ H Q I h0
  obtain ⟨ρ, σd, hd, sr, g0⟩ := fin_of h0
  clear h0
  simp only [ev] at g0
  by_cases ht : isTab t q hd = true
  · rw [if_pos ht] at g0
    cases ey : σd[i]? with
    | none => simp [ey, FinM] at g0
    | some w =>
      rw [ey] at g0
      cases w with
      | none => exact g0.elim
      | c _ => exact g0.elim
      | d yd =>
        simp only at g0
        obtain ⟨u, hu1, hu2⟩ := sr.slotD i yd ey
        unfold isTab at ht
        split at ht
        · rename_i j' q' e
          simp only [Bool.and_eq_true, decide_eq_true_eq, beq_iff_eq] at ht
          obtain ⟨ej, eq'⟩ := ht
          subst ej eq'
          obtain ⟨P, ob, e1, e2, e3⟩ := cell_tab sr e
          have eP : P = ga (tabBase + j') := by
            have := e3.1
            rw [e1] at this
            exact Option.some.inj this
          subst eP
          have eq1 : lamN X = q' := lq.trans h5
          refine (pe_lam2 (T := tabsOf ρ hd) (TT := fun u => TTry2 X.K ga fld cf hs aft u) (t := fun E => TA1 X.K ga fld (fun cls d _ H => E cls d H) (ev cf body)) (o.glb h1) m kp lk hcg hb Sg hN0 hva
            (fun u => try2_gives (jr := jr) O (fun s => by have := L2H.roomH_of lr; exact ((this.mono (by omega : jr + 1 ≤ jr + 2)).deeper _)) Sg.nd hi hj2 hln hnn hN1 hvb hnb hgl (fun p hp => ⟨hcl p hp, hH p hp⟩) hct) TB lc (by rw [eq1]; exact mem_tabs e e1) (fun p hp hpe => ?_) lr (o.sc ▸ lamS_by h6) rfl (fun _ _ _ _ _ => rfl) (fun A outer s H E f c' hr => ih hr)
            (nm_of h2).1 (nm_of hna).1 (nm_of hna).2.1 (by rw [o.N]; exact y1) (o.vis y2) (nm_of y3).1 (nm_of y3).2.1).run pins s σ H Q I ⟨u, hu1, tabs_ok sr, fun H1 xt nn T1 => lam_try2 ok1 ok2 sr xt T1 nn hu2 g0⟩
          obtain ⟨j2, i2, f1, f2⟩ := tabs_mem hp
          rw [hpe] at f2
          have hjj := (List.getElem?_inj (List.getElem?_eq_some_iff.mp f2).1 sr.nd).mp (f2.trans e1.symm)
          subst hjj
          rw [e] at f1
          rw [eq1]
          injection f1 with f1
          injection f1 with f1 f3
          exact f3.symm
        · cases ht
  · rw [if_neg ht] at g0
    exact g0.elim
end
end Ev
end
section
set_option maxRecDepth 100000
set_option maxHeartbeats 8000000
/-! Ev20: the induction over expressions. -/
namespace Ev
open PySem L2
def isBool : Expr → Bool
  | .BoolOp .. => true
  | _ => false
section
variable {ga : Nat → Addr} {fld : Nat → Str} {cf : CF} {jr : Nat}
mutual
theorem sE : ∀ (e : Ex) (p : Expr) {X : Cx} {ck : Ck} {Wx : WX}, XOk ga fld cf jr X ck Wx → cE ck e p = true → PE X p (Te ga fld cf X Wx e)
  | .var i, p, X, ck, Wx, o, h => by
    simp only [cE] at h
    split at h
    · exact sVar o h
    · cases h
  | .cst d, p, X, ck, Wx, o, h => by
    simp only [cE] at h
    exact sC o h
  | .op op es, p, X, ck, Wx, o, h => by
    simp only [cE] at h
    split at h
    · rename_i op a op' b pos
      simp only [Bool.and_eq_true, decide_eq_true_eq] at h
      obtain ⟨rfl, h2⟩ := h
      obtain ⟨e, f, rfl, h1, h2⟩ := (sEs es _ o h2).two
      exact pe_cv (pe_op (op_bin op) h1 h2) fun σ H Q h => bin_cv (opok_bin op) h
    · rename_i op a op' b pos
      simp only [Bool.and_eq_true, decide_eq_true_eq] at h
      obtain ⟨⟨⟨rfl, h1⟩, h2⟩, h3⟩ := h
      exact (sCmp o (op_cmp o.hu5 op) (opok_cmp h1) (notTrue h2) (sEs es _ o h3)).1
    · simp only [Bool.and_eq_true] at h
      exact (sCmp o op_isN opok_isn (notTrue h.1) (sEs es _ o h.2)).1
    · simp only [Bool.and_eq_true] at h
      exact (sCmp o op_notN opok_notn (notTrue h.1) (sEs es _ o h.2)).1
    · obtain ⟨e, rfl, h1⟩ := (sEs es _ o h).one
      exact pe_cv (pe_un un_neg h1) fun σ H Q h => un_cv opok_neg h
    · simp only [Bool.and_eq_true] at h
      exact sIdx o h.1 (sEs es _ o h.2)
    · obtain ⟨e, rfl, h1⟩ := (sEs es _ o h).one
      exact pe_cv (pe_slice sl_c h1 po_none po_none) fun σ H Q h => sl0_cv h
    · obtain ⟨e, f, rfl, h1, h2⟩ := (sEs es _ o h).two
      exact pe_cv (pe_slice sl_c h1 (po_some h2) po_none) fun σ H Q h => sl1_cv h
    · obtain ⟨e, f, rfl, h1, h2⟩ := (sEs es _ o h).two
      exact pe_cv (pe_slice sl_c h1 po_none (po_some h2)) fun σ H Q h => sl2_cv h
    · simp only [Bool.and_eq_true] at h
      exact pe_opc o h.1.1 h.1.2 (sEs es _ o h.2)
    · cases h
  | .and_ a b, p, X, ck, Wx, o, h => by
    simp only [cE] at h
    split at h
    · rename_i a' b' rest pos
      rw [Bool.and_eq_true] at h
      have h2 := h.2
      refine pe_cv (pe_and (sE a _ o h.1) (tb := Te ga fld cf X Wx b) ?_) fun σ H Q h => ta_and h
      split at h2
      · exact pe_one (sE b _ o h2)
      · exact sE b _ o h2
    · cases h
  | .or_ a b, p, X, ck, Wx, o, h => by
    simp only [cE] at h
    split at h
    · rename_i a' b' rest pos
      rw [Bool.and_eq_true] at h
      have h2 := h.2
      refine pe_cv (pe_or (sE a _ o h.1) (tb := Te ga fld cf X Wx b) ?_) fun σ H Q h => ta_or h
      split at h2
      · exact pe_one (sE b _ o h2)
      · exact sE b _ o h2
    · cases h
  | .not_ a, p, X, ck, Wx, o, h => by
    simp only [cE] at h
    split at h
    · exact pe_cv (pe_not (sE a _ o h)) fun σ H Q h => ta_not h
    · cases h
  | .ite c a b, p, X, ck, Wx, o, h => by
    simp only [cE] at h
    split at h
    · simp only [Bool.and_eq_true] at h
      exact pe_cv (pe_ifExp (sT c _ o h.1.1).1 (sE a _ o h.1.2) (sE b _ o h.2)) fun σ H Q h => ta_ite h
    · cases h
  | .chain o1 o2 a b c, p, X, ck, Wx, o, h => by
    simp only [cE] at h
    split at h
    · simp only [Bool.and_eq_true, decide_eq_true_eq] at h
      obtain ⟨⟨⟨⟨⟨⟨⟨rfl, rfl⟩, h1⟩, h2⟩, h3⟩, h4⟩, h5⟩, h6⟩ := h
      exact pe_cv (pe_chain (op_cmp o.hu5 _) (op_cmp o.hu5 _) (sE a _ o h4) (sE b _ o h5) (sE c _ o h6) (notTrue h3)) fun σ H Q h => ta_chain h1 h2 h
    · cases h
  | .tup es, p, X, ck, Wx, o, h => by
    simp only [cE] at h
    split at h
    · rw [Bool.and_eq_true] at h
      have ih := sEs es _ o h.2
      refine pe_cv (pe_tup ih.pa) fun σ H Q hh => ta_tup (fun vs ⟨_, _, _, _, _, _, _, _, _, e, r⟩ => ?_) hh
      rw [r.length, evs_len e, ih.len]
      exact small_len (of_decide_eq_true h.1)
    · cases h
  | .lst es, p, X, ck, Wx, o, h => by
    simp only [cE] at h
    split at h
    · rw [Bool.and_eq_true] at h
      have ih := sEs es _ o h.2
      refine pe_cv (pe_lst ih.pa) fun σ H Q hh => ta_lst (fun vs ⟨_, _, _, _, _, _, _, _, _, e, r⟩ => ?_) hh
      rw [r.length, evs_len e, ih.len]
      exact small_len (of_decide_eq_true h.1)
    · cases h
  | .dict ks es, p, X, ck, Wx, o, h => by
    simp only [cE] at h
    split at h
    · rename_i keys vals pos
      simp only [Bool.and_eq_true, decide_eq_true_eq] at h
      obtain ⟨⟨⟨h1, h2⟩, h3⟩, h4⟩ := h
      have ih := sEs es _ o h4
      obtain ⟨qs, k1, k2, k3, k4⟩ := keys_ok (pos := pos) h3 ih h2
      have kl : qs.length = keys.length := by rw [k2, ih.len, h2]
      by_cases hk : keys = []
      · subst hk
        have hv : vals = [] := by
          cases vals with
          | nil => rfl
          | cons _ _ => simp at h2
        subst hv
        have hq : qs = [] := by
          cases qs with
          | nil => rfl
          | cons _ _ => simp at kl
        subst hq
        refine pe_cv pe_dnewK fun σ H Q h => ?_
        have h' := ta_dict k1 k2 (by simp) h
        intro p hp
        obtain ⟨e1, kvs, e2, e3, q⟩ := h' p hp
        have e4 : kvs = [] := by
          cases kvs with
          | nil => rfl
          | cons _ _ => simp at e2
        subst e4
        have e5 : upd (upd H p (HO.dK [])) p (HO.dK (mergeK [] [])) = upd H p (HO.dK []) := by
          funext b
          by_cases hb : b = p
          · subst hb; rw [upd_same, upd_same]; rfl
          · rw [upd_ne hb]
        rw [e5] at q
        exact q
      · exact pe_cv (pe_disp k4 k3 h2 hk h1) fun σ H Q h => ta_dict k1 k2 (by omega) h
    · cases h
  | .call k es, p, X, ck, Wx, o, h => by
    simp only [cE] at h
    split at h
    · simp only [Bool.and_eq_true] at h
      exact sCall o (by simp only [Bool.and_eq_true]; exact h.1.1) h.1.2 (sEs es _ o h.2)
    · cases h
  | .callk k perm es, p, X, ck, Wx, o, h => by
    simp only [cE] at h
    split at h
    · simp only [Bool.and_eq_true] at h
      obtain ⟨⟨⟨⟨⟨⟨h1, h2⟩, h3⟩, h0⟩, h4⟩, h5⟩, h6⟩ := h
      exact sCallk o (by simp only [Bool.and_eq_true]; exact ⟨⟨h1, h2⟩, h3⟩) h0 h4 (sEs es _ o h6)
    · cases h
  | .callv i cs es, p, X, ck, Wx, o, h => by
    simp only [cE] at h
    split at h
    · simp only [Bool.and_eq_true, decide_eq_true_eq] at h
      obtain ⟨⟨⟨⟨⟨h1, h2⟩, h3⟩, h4⟩, h5⟩, h6⟩ := h
      exact sCallv o h1 h2 h3 h4 h5 (sEs es _ o h6)
    · cases h
  | .lrng es, p, X, ck, Wx, o, h => by
    simp only [cE] at h
    split at h
    · simp only [Bool.and_eq_true, decide_eq_true_eq] at h
      obtain ⟨⟨⟨⟨⟨⟨rfl, h2⟩, rfl⟩, h4⟩, h5⟩, h6⟩, h7⟩ := h
      exact sLrng o h2 h4 h5 h6 (sEs es _ o h7)
    · cases h
  | .lam2 g t q i body hs aft, p, X, ck, Wx, o, h => by
    simp only [cE] at h
    split at h
    · rename_i x px params b scope lp y yp pos
      simp only [Bool.and_eq_true] at h
      obtain ⟨⟨⟨⟨⟨⟨⟨⟨⟨h1, h2⟩, h3⟩, h4⟩, h5⟩, h6⟩, h7⟩, h8⟩, h0⟩, h9⟩ := h
      split at h3
      · rename_i j hs' aft' e
        simp only [Bool.and_eq_true, beq_iff_eq] at h3
        obtain ⟨⟨e1, e2⟩, e3⟩ := h3
        have e2 := beqH2_eq e2
        have e3 := beqD_eq e3
        subst e1 e2 e3
        exact sLam2 o h1 h2 e (of_decide_eq_true h4) (of_decide_eq_true h5) h6 h7 (by simp only [Bool.and_eq_true]; exact h8) fun hr => sE body _ (o.lamC (cool h0) hr) h9
      · cases h3
    · cases h
  | .lam g t q body hs aft, p, X, ck, Wx, o, h => by
    simp only [cE] at h
    split at h
    · rename_i x px params b scope lp pos
      simp only [Bool.and_eq_true, decide_eq_true_eq] at h
      obtain ⟨⟨⟨⟨⟨⟨⟨⟨h1, h2⟩, h3⟩, h4⟩, h5⟩, h6⟩, h7⟩, h0⟩, h8⟩ := h
      split at h3
      · rename_i j hs' aft' e
        simp only [Bool.and_eq_true, beq_iff_eq] at h3
        obtain ⟨⟨e1, e2⟩, e3⟩ := h3
        have e2 := beqHs_eq e2
        have e3 := beqSE_eq e3
        subst e1 e2 e3
        exact sLam o h1 h2 e h4 h5 h6 h7 fun hr => sE body _ (o.lamC (by simpa using h0) hr) h8
      · cases h3
    · cases h
  | .slc a b c, p, X, ck, Wx, o, h => by
    simp only [cE] at h
    split at h
    · simp only [Bool.and_eq_true] at h
      exact pe_cv (pe_slice sl_c (sE a _ o h.1.1) (po_some (sE b _ o h.1.2)) (po_some (sE c _ o h.2))) fun σ H Q h => ta_slc h
    · cases h
  | .mth m e es, p, X, ck, Wx, o, h => by
    simp only [cE] at h
    split at h
    · simp only [Bool.and_eq_true] at h
      obtain ⟨⟨⟨⟨⟨⟨h1, h2⟩, h3⟩, h4⟩, h5⟩, h6⟩, h7⟩ := h
      exact sMth o h1 h2 h3 (of_decide_eq_true h4) h7 (sE e _ o h5) (sEs es _ o h6)
    · cases h
  | .comp own tg it tests elt, p, X, ck, Wx, o, h => by
    simp only [cE] at h
    split at h
    · rename_i elt' tg' iter ifs scope pos
      simp only [Bool.and_eq_true] at h
      obtain ⟨⟨⟨⟨⟨⟨⟨h1, h2⟩, h3⟩, h0⟩, h4⟩, h5⟩, h6⟩, h7⟩ := h
      have ho : (own.map fun i => (ck.N.getD i default, i)).map (·.2) = own := by simp [Function.comp_def]
      have hb : BlkOk X.N X.env.scope scope (own.map fun i => (ck.N.getD i default, i)) := by
        rw [o.N, o.sc]
        exact blkOk_by h1
      have hin : ∀ i ∈ tgSlots tg, i ∈ own := fun i hi => by
        have := List.all_eq_true.mp h2 i hi
        simpa [inRow] using this
      cases hk : ck.hot with
      | false =>
        obtain ⟨wi, p1, k1⟩ := sIt it iter tg' o h4
        have r := pe_lc (pos := pos) (g := gOf X.K tg) (te := TA1 X.K ga fld Wn (ev cf elt)) (tt := TB1 X.K ga fld Wn (evT cf tests)) (o.calm hk).1 o.nd p1 hb (fun s H C cl fp => tg_ok (o.blk hk) h5) (fun s H C cl fp => sTs tests _ (o.blk hk) h6) (fun s H C cl fp => sE elt _ (o.blk hk) h7) (foldedSet_no h3)
        rw [ho] at r
        exact pe_cv r fun σ H Q h => ta_comp hin (fun Rr q => k1 false q) h
      | true =>
        obtain ⟨wi, p1, k1⟩ := sItH it iter tg' o hk h0 h4
        have r := pe_lcH (pos := pos) (g := gOf X.K tg) (te := TA1 X.K ga fld Wn (ev cf elt)) (tt := TB1 X.K ga fld Wn (evT cf tests)) (o.hotc hk) o.nd p1 hb (fun s H C cl fp p hp => tg_ok (o.blkH hk hp) h5) (fun s H C cl fp p hp => sTs tests _ (o.blkH hk hp) h6) (fun s H C cl fp p hp => sE elt _ (o.blkH hk hp) h7) (foldedSet_no h3)
        rw [ho] at r
        exact pe_cv r fun σ H Q h => ta_comp hin (fun Rr q => k1 false q) h
    · cases h
theorem sEs : ∀ (es : Exs) (ps : List Expr) {X : Cx} {ck : Ck} {Wx : WX}, XOk ga fld cf jr X ck Wx → cEs ck es ps = true → AllP ga fld cf X Wx es ps
  | .nil, ps, X, ck, Wx, o, h => by
    simp only [cEs] at h
    split at h
    · exact trivial
    · cases h
  | .cons e es, ps, X, ck, Wx, o, h => by
    simp only [cEs] at h
    split at h
    · simp only [Bool.and_eq_true] at h
      exact ⟨h.1.1, sE e _ o h.1.2, sEs es _ o h.2⟩
    · cases h
theorem sT : ∀ (e : Ex) (p : Expr) {X : Cx} {ck : Ck} {Wx : WX}, XOk ga fld cf jr X ck Wx → cT ck e p = true → PT X p (TB1 X.K ga fld Wx (bnd (ev cf e) isT)) ∧ (isBool p = true → PW X p (TB1 X.K ga fld Wx (bnd (ev cf e) isT)))
  | .and_ a b, p, X, ck, Wx, o, h => by
    simp only [cT] at h
    split at h
    · rename_i a' b' rest pos
      rw [Bool.and_eq_true] at h
      have h2 := h.2
      have pw : PW X (.BoolOp .And (a' :: b' :: rest) pos) (TB1 X.K ga fld Wx (bnd (ev cf (.and_ a b)) isT)) := by
        refine pw_cv (pw_and (sT a _ o h.1).1 (tB' := TB1 X.K ga fld Wx (bnd (ev cf b) isT)) ?_) fun σ H Q h => tb_and h
        split at h2
        · exact pw_and1 (sT b _ o h2).1
        · exact (sT b _ o h2).2 rfl
      exact ⟨pw.pt, fun _ => pw⟩
    · cases h
  | .or_ a b, p, X, ck, Wx, o, h => by
    simp only [cT] at h
    split at h
    · rename_i a' b' rest pos
      rw [Bool.and_eq_true] at h
      have h2 := h.2
      have pw : PW X (.BoolOp .Or (a' :: b' :: rest) pos) (TB1 X.K ga fld Wx (bnd (ev cf (.or_ a b)) isT)) := by
        refine pw_cv (pw_or (sT a _ o h.1).1 (tB' := TB1 X.K ga fld Wx (bnd (ev cf b) isT)) ?_) fun σ H Q h => tb_or h
        split at h2
        · exact pw_or1 (sT b _ o h2).1
        · exact (sT b _ o h2).2 rfl
      exact ⟨pw.pt, fun _ => pw⟩
    · cases h
  | .not_ a, p, X, ck, Wx, o, h => by
    simp only [cT] at h
    split at h
    · exact ⟨pt_cv (pt_not (sT a _ o h).1) fun σ H Q h => tb_not h, fun z => by simp [isBool] at z⟩
    · cases h
  | .op op es, p, X, ck, Wx, o, h => by
    simp only [cT] at h
    split at h
    · simp only [Bool.and_eq_true, decide_eq_true_eq] at h
      obtain ⟨⟨⟨rfl, h1⟩, h2⟩, h3⟩ := h
      exact ⟨(sCmp o (op_cmp o.hu5 _) (opok_cmp h1) (notTrue h2) (sEs es _ o h3)).2, fun z => by simp [isBool] at z⟩
    · simp only [Bool.and_eq_true] at h
      exact ⟨(sCmp o op_isN opok_isn (notTrue h.1) (sEs es _ o h.2)).2, fun z => by simp [isBool] at z⟩
    · simp only [Bool.and_eq_true] at h
      exact ⟨(sCmp o op_notN opok_notn (notTrue h.1) (sEs es _ o h.2)).2, fun z => by simp [isBool] at z⟩
    · simp only [Bool.and_eq_true] at h
      exact ⟨sVal o rfl (sIdx o h.1 (sEs es _ o h.2)), fun z => by simp [isBool] at z⟩
    · simp only [Bool.and_eq_true] at h
      exact ⟨sVal o rfl (pe_opc o h.1.1 h.1.2 (sEs es _ o h.2)), fun z => by simp [isBool] at z⟩
    · cases h
  | .chain o1 o2 a b c, p, X, ck, Wx, o, h => by
    simp only [cT] at h
    split at h
    · simp only [Bool.and_eq_true, decide_eq_true_eq] at h
      obtain ⟨⟨⟨⟨⟨⟨⟨rfl, rfl⟩, h1⟩, h2⟩, h3⟩, h4⟩, h5⟩, h6⟩ := h
      exact ⟨pt_cv (pt_chain (op_cmp o.hu5 _) (op_cmp o.hu5 _) (sE a _ o h4) (sE b _ o h5) (sE c _ o h6) (notTrue h3)) fun σ H Q h => tt_cv (fun h => ta_chain h1 h2 h) h, fun z => by simp [isBool] at z⟩
    · cases h
  | .var i, p, X, ck, Wx, o, h => by
    simp only [cT] at h
    split at h
    · exact ⟨sVal o rfl (sVar o h), fun z => by simp [isBool] at z⟩
    · cases h
  | .call k es, p, X, ck, Wx, o, h => by
    simp only [cT] at h
    split at h
    · simp only [Bool.and_eq_true] at h
      exact ⟨sVal o rfl (sCall o (by simp only [Bool.and_eq_true]; exact h.1.1) h.1.2 (sEs es _ o h.2)), fun z => by simp [isBool] at z⟩
    · cases h
  | .cst _, p, X, ck, Wx, o, h => by simp [cT] at h
  | .ite _ _ _, p, X, ck, Wx, o, h => by simp [cT] at h
  | .tup _, p, X, ck, Wx, o, h => by simp [cT] at h
  | .lst _, p, X, ck, Wx, o, h => by simp [cT] at h
  | .dict _ _, p, X, ck, Wx, o, h => by simp [cT] at h
  | .callk _ _ _, p, X, ck, Wx, o, h => by simp [cT] at h
  | .callv _ _ _, p, X, ck, Wx, o, h => by simp [cT] at h
  | .lrng _, p, X, ck, Wx, o, h => by simp [cT] at h
  | .lam2 _ _ _ _ _ _ _, p, X, ck, Wx, o, h => by simp [cT] at h
  | .slc _ _ _, p, X, ck, Wx, o, h => by simp [cT] at h
  | .mth _ _ _, p, X, ck, Wx, o, h => by simp [cT] at h
  | .lam _ _ _ _ _ _, p, X, ck, Wx, o, h => by simp [cT] at h
  | .comp _ _ _ _ _, p, X, ck, Wx, o, h => by simp [cT] at h
theorem sTs : ∀ (es : Exs) (ps : List Expr) {X : Cx} {ck : Ck} {Wx : WX}, XOk ga fld cf jr X ck Wx → cTs ck es ps = true → PTs X ps (TB1 X.K ga fld Wx (evT cf es))
  | .nil, ps, X, ck, Wx, o, h => by
    simp only [cTs] at h
    split at h
    · exact ⟨fun pins s σ H Q I q => pts_nil.run pins s σ H Q I (tb_yes q)⟩
    · cases h
  | .cons e es, ps, X, ck, Wx, o, h => by
    simp only [cTs] at h
    split at h
    · exact ⟨fun pins s σ H Q I q => (pts_one (sT e _ o h).1).run pins s σ H Q I (tb_last q)⟩
    · cases h
theorem sIt : ∀ (it : It) (p tg : Expr) {X : Cx} {ck : Ck} {Wx : WX}, XOk ga fld cf jr X ck Wx → cIt ck it p (isTup tg) = true → ∃ wi, PI X tg p wi ∧ ∀ (fx : Bool) {σ H Rr}, TI1 X.K ga fld Wx (evIt cf fx it) σ H Rr → wi σ H Rr
  | .seq e, p, tg, X, ck, Wx, o, h => by
    simp only [cIt] at h
    have h1 := sE e _ o h
    exact ⟨_, pi_orr (pi_list h1) (pi_tup h1), fun fx σ H Rr q => (ti_seq q).imp (fun h => ta_fix h) (fun h => ta_fix h)⟩
  | .rng es, p, tg, X, ck, Wx, o, h => by
    simp only [cIt] at h
    split at h
    · simp only [Bool.and_eq_true, decide_eq_true_eq] at h
      obtain ⟨⟨⟨rfl, h2⟩, h3⟩, h4⟩ := h
      have ih := sEs es _ o h4
      have ns := ih.ns
      obtain ⟨g, m⟩ := o.blt h2
      split at h3
      · simp only [List.all_cons, Bool.and_eq_true] at ns
        refine ⟨_, pi_range1 g m ih.pa (star_cons ns.1), fun fx σ H Rr q => ?_⟩
        exact tg_mono (ti_rng 1 (fun e => by rw [evs_len e, ih.len]; rfl) q) fun vs H1 h => h.1 rfl
      · simp only [List.all_cons, Bool.and_eq_true] at ns
        refine ⟨_, pi_range2 g m ih.pa (by rw [star_cons ns.1, star_cons ns.2.1]; rfl) (star_cons ns.2.1), fun fx σ H Rr q => ?_⟩
        exact tg_mono (ti_rng 2 (fun e => by rw [evs_len e, ih.len]; rfl) q) fun vs H1 h => h.2 rfl
      · cases h3
    · cases h
  | .enum es, p, tg, X, ck, Wx, o, h => by
    simp only [cIt] at h
    split at h
    · simp only [Bool.and_eq_true, decide_eq_true_eq] at h
      obtain ⟨⟨⟨h1, rfl⟩, h2⟩, h4⟩ := h
      have ih := sEs es _ o h4
      have ns := ih.ns
      simp only [List.all_cons, Bool.and_eq_true] at ns
      obtain ⟨g, m⟩ := o.blt h2
      cases tg <;> simp only [isTup, Bool.false_eq_true] at h1
      exact ⟨_, pi_enumA g m ih.pa (star_cons ns.1), fun fx σ H Rr q => tl_fix (ti_enum q)⟩
    · cases h
  | .zip es, p, tg, X, ck, Wx, o, h => by
    simp only [cIt] at h
    split at h
    · simp only [Bool.and_eq_true, decide_eq_true_eq] at h
      obtain ⟨⟨⟨h1, rfl⟩, h2⟩, h4⟩ := h
      have ih := sEs es _ o h4
      have ns := ih.ns
      simp only [List.all_cons, Bool.and_eq_true] at ns
      obtain ⟨g, m⟩ := o.blt h2
      cases tg <;> simp only [isTup, Bool.false_eq_true] at h1
      exact ⟨_, RZ.pi_zipA g m ih.pa (star_cons ns.1) (star_any (es := [_]) (by simp [ns.2.1])), fun fx σ H Rr q => tl_fix (ti_zip q)⟩
    · cases h
theorem sItH : ∀ (it : It) (p tg : Expr) {X : Cx} {ck : Ck} {Wx : WX}, XOk ga fld cf jr X ck Wx → ck.hot = true → hotIt ck it = true → cIt ck it p (isTup tg) = true → ∃ wi, L2H.PIH X tg p wi ∧ ∀ (fx : Bool) {σ H Rr}, TI1 X.K ga fld Wx (evIt cf fx it) σ H Rr → wi σ H Rr
  | .seq e, p, tg, X, ck, Wx, o, hk, h0, h => by
    simp [hotIt, hk] at h0
  | .rng es, p, tg, X, ck, Wx, o, hk, h0, h => by
    simp [hotIt, hk] at h0
  | .enum es, p, tg, X, ck, Wx, o, hk, h0, h => by
    simp [hotIt, hk] at h0
  | .zip es, p, tg, X, ck, Wx, o, hk, h0, h => by
    simp only [cIt] at h
    split at h
    · simp only [Bool.and_eq_true, decide_eq_true_eq] at h
      obtain ⟨⟨⟨h1, rfl⟩, h2⟩, h4⟩ := h
      have ih := sEs es _ o h4
      have ns := ih.ns
      simp only [List.all_cons, Bool.and_eq_true] at ns
      obtain ⟨g, m⟩ := o.blt h2
      cases tg <;> simp only [isTup, Bool.false_eq_true] at h1
      exact ⟨_, pi_zipH g m ih.pa (star_cons ns.1) (star_any (es := [_]) (by simp [ns.2.1])), fun fx σ H Rr q => tl_fix (ti_zip q)⟩
    · cases h
end
end
end Ev
end
section
set_option maxRecDepth 100000
set_option maxHeartbeats 8000000
/-! Ev21: statements: the checker, and that it is sound. -/
namespace Ev
open PySem L2
/-- name = [..]: stored as the list is made -/
def swB (ck : Ck) (x : Str) (py : Pos) (scope : Scope) (pos : Pos) : Bool :=
  (ck.sc.kind == .function) && (ck.sc.names.lookup x == some .local) && py.line == pos.line && !scope.names.any fun (n, k) => n == x && (k == .local || k == .cell)
def isTupE : Expr → Bool
  | .Tuple .. => true
  | _ => false
/-- a plain local name on that line -/
def onLine (ck : Ck) (line : Nat) : Expr → Bool
  | .Name x p => (ck.sc.names.lookup x == some .local) && p.line == line
  | _ => false
def swNone (ck : Ck) : Expr → Expr → Bool
  | .Tuple ts _ _, .Tuple vs _ _ => !(ts.length == 2 || ts.length == 3) || vs.all (foldedForSure 8) || !ts.all (onLine ck ((ts.head?.map (·.pos.line)).getD 0))
  | _, _ => true
def locI (ck : Ck) (i : Nat) (x : Str) : Bool := decide (ck.N[i]? = some x) && loc ck x
def locL (ck : Ck) (i : Nat) (x : Str) : Bool := decide (ck.N[i]? = some x) && (ck.sc.names.lookup x == some .local)
def isDoc : Expr → Bool
  | .Constant (.str _) _ _ => true
  | _ => false
mutual
def cS (ck : Ck) : Sm → Stmt → Bool
  | .skip, s => match s with
    | .Pass _ => true
    | .Expr (.Constant (.str _) _ _) _ => true
    | _ => false
  | .asg i e, s => match s with
    | .Assign [.Name x _] v _ => locI ck i x && cE ck e v && (match v with
      | .SetComp .. => false
      | .DictComp .. => false
      | .ListComp .. => !ck.hot
      | _ => true)
    | _ => false
  | .asgH i e, s => match s with
    | .Assign [.Name x _] v _ => locI ck i x && cE ck e v && notComp v
    | _ => false
  | .unp is e, s => match s with
    | .Assign [.Tuple es k p] v _ => !ck.hot && notComp v && swNone ck (.Tuple es k p) v && locs ck is es && cE ck e v
    | _ => false
  | .par i j es, s => match s with
    | .Assign [.Tuple [.Name x px, .Name y py] _ _] (.Tuple [a, b] _ _) _ => !ck.hot && locL ck i x && locL ck j y && (i != j) && decide (x ≠ y) && (py.line == px.line) && (ck.sc.kind == .function) && notStar a && notStar b &&
      !(foldedForSure 8 a && foldedForSure 8 b) && !(constantsAlone 8 a && constantsAlone 8 b) && cEs ck es [a, b]
    | _ => false
  | .aug i op e, s => match s with
    | .AugAssign (.Name x _) op' v _ => locI ck i x && decide (op = op') && cE ck e v
    | _ => false
  | .sidx e o i, s => match s with
    | .Assign [.Subscript o' i' _] v _ => notSlice i' && cE ck e v && cE ck o o' && cE ck i i'
    | _ => false
  | .aidx o i op e, s => match s with
    | .AugAssign (.Subscript o' i' _) op' v _ => notSlice i' && decide (op = op') && cE ck e v && cE ck o o' && cE ck i i'
    | _ => false
  | .expr e, s => match s with
    | .Expr v _ => notComp v && cE ck e v
    | _ => false
  | .ret e, s => match s with
    | .Return (some v) _ => cE ck e v
    | _ => false
  | .retn, s => match s with
    | .Return none _ => true
    | _ => false
  | .ifs c a b, s => match s with
    | .If c' a' b' _ => cT ck c c' && cSs ck a a' && cSs ck b b'
    | _ => false
  | .for_ tg it b, s => match s with
    | .For tg' iter body [] _ => !ck.hot && notSet iter && cTg ck tg tg' && cIt ck it iter (isTup tg') && cSs ck b body
    | _ => false
  | .whl c b, s => match s with
    | .While c' body [] _ => cT ck c c' && cSs ck b body
    | _ => false
  | .brk, s => match s with
    | .Break _ => true
    | _ => false
  | .cont, s => match s with
    | .Continue _ => true
    | _ => false
  | .rais k e, s => match s with
    | .Raise (some (.Call (.Name x _) [a] [] _)) none _ => !ck.hot && glb ck x && nm x && (match ck.gt x with
      | .cls j => k == j
      | _ => false) && notStar a && cE ck e a
    | _ => false
def cSs (ck : Ck) : Sms → List Stmt → Bool
  | .nil, l => match l with
    | [] => true
    | _ => false
  | .cons s ss, l => match l with
    | st :: l => cS ck s st && cSs ck ss l
    | [] => false
end
structure XS (ga : Nat → Addr) (fld : Nat → Str) (cf : CF) (jr : Nat) (X : Cx) (ck : Ck) (Wx : WX) : Prop extends XOk ga fld cf jr X ck Wx where
  po : PassesOwn (model X.prog X.w) X.A X.env X.xe
section
variable {ga : Nat → Addr} {fld : Nat → Str} {cf : CF} {jr : Nat} {X : Cx} {ck : Ck} {Wx : WX}
theorem swap_lc {elt : Expr} {gens : List Comprehension} {scope : Scope} {pos py : Pos} {x : Str} {l : Nat} (o : XOk ga fld cf jr X ck Wx) (hk : ck.sc.kind = .function) : swapsWith (.ListComp elt gens scope pos) (some (.Name x py)) l X.env = pure (swB ck x py scope pos) := by
  have hb : X.env.blockKind = .function := by
    unfold Env.blockKind
    rw [o.sc, hk]
    rfl
  unfold swapsWith swB Env.kindOf
  simp only [hb, o.sc, hk]
  rfl
theorem swaps_sub {e o i : Expr} {p : Pos} {l : Nat} {env : Env} : swapsWith e (some (.Subscript o i p)) l env = pure false := by
  cases e <;> rfl
theorem swapped_sub {e o i : Expr} {p : Pos} {env : Env} : swappedStores [.Subscript o i p] e env = pure none := by
  cases e <;> rfl
theorem filter_short {f : Expr → Option Str} {g : Expr → Bool} (hfg : ∀ t, g t = false → f t = none) : ∀ {ts : List Expr}, (ts.filterMap f).length ≤ ts.length ∧ (ts.all g = false → (ts.filterMap f).length ≠ ts.length)
  | [] => ⟨Nat.le_refl _, fun h => by simp at h⟩
  | t :: ts => by
    obtain ⟨h1, h2⟩ := filter_short hfg (ts := ts)
    rw [List.filterMap_cons]
    cases e : f t with
    | none => exact ⟨by simp; omega, fun _ => by simp; omega⟩
    | some x =>
      refine ⟨by simp; omega, fun h => ?_⟩
      have hg : g t = true := by
        cases hg : g t with
        | true => rfl
        | false => rw [hfg t hg] at e; cases e
      have : ts.all g = false := by simpa [hg] using h
      have := h2 this
      exact fun e => this (Nat.succ.inj e)
theorem swapped_none (o : XOk ga fld cf jr X ck Wx) {es : List Expr} {k : Nat} {p : Pos} {e : Expr} (h : swNone ck (.Tuple es k p) e = true) : swappedStores [.Tuple es k p] e X.env = pure none := by
  cases e with
  | Tuple vs k2 p2 =>
    simp only [swNone, Bool.or_eq_true] at h
    unfold swappedStores
    simp only []
    split
    · rfl
    · split
      · rfl
      · split
        · rfl
        · split
          · rfl
          · rename_i h1 _ h3 h4
            exfalso
            rcases h with (h | h) | h
            · exact h1 (by simp [h])
            · exact h4 h
            · refine h3 ?_
              rw [Bool.or_eq_true]
              refine .inl ?_
              rw [bne_iff_ne]
              refine (filter_short (g := onLine ck ((es.head?.map (·.pos.line)).getD 0)) (fun t ht => ?_) (ts := es)).2 (by simpa using h)
              cases t with
              | Name x p =>
                simp only [onLine] at ht
                have e : X.env.kindOf x = ck.sc.names.lookup x := by unfold Env.kindOf; rw [o.sc]
                simp only [e, ht]
                rfl
              | _ => rfl
  | _ => rfl
theorem locL_ok (o : XOk ga fld cf jr X ck Wx) {i : Nat} {x : Str} (h : locL ck i x = true) : X.N[i]? = some x ∧ X.env.scope.names.lookup x = some .local := by
  simp only [locL, Bool.and_eq_true, decide_eq_true_eq, beq_iff_eq] at h
  exact ⟨by rw [o.N]; exact h.1, by rw [o.sc]; exact h.2⟩
theorem locI_ok (o : XOk ga fld cf jr X ck Wx) {i : Nat} {x : Str} (h : locI ck i x = true) : X.N[i]? = some x ∧ L2.Loc X.env.scope x ∧ (X.fn x = true ∨ X.env.scope.names.lookup x = some .local) := by
  simp only [locI, Bool.and_eq_true, decide_eq_true_eq] at h
  exact ⟨by rw [o.N]; exact h.1, o.loc h.2⟩
end
end Ev
end
section
set_option maxRecDepth 100000
set_option maxHeartbeats 8000000
/-! Ev22: checked statements' terms are their readings. -/
namespace Ev
open PySem L2
section
variable {ga : Nat → Addr} {fld : Nat → Str} {cf : CF} {jr : Nat}
theorem sAsg {X : Cx} {ck : Ck} {Wx : WX} (o : XS ga fld cf jr X ck Wx) {i : Nat} {x : Str} {e : Ex} {v : Expr} {px pos : Pos} (h1 : locI ck i x = true) (h2 : cE ck e v = true) (h3 : notComp v = true) :
    PS X (.Assign [.Name x px] v pos) (tAsg (Te ga fld cf X Wx e) (gName i)) := by
  obtain ⟨hi, hl, hf⟩ := locI_ok o.toXOk h1
  exact ps_set o.nd hi hl (sE e _ o.toXOk h2) (swaps_no h3) hf
theorem sAsgC {X : Cx} {ck : Ck} {Wx : WX} (o : XS ga fld cf jr X ck Wx) {i : Nat} {x : Str} {e : Ex} {elt : Expr} {gens : List Comprehension} {scope : Scope} {px lp pos : Pos} (hk : ck.sc.kind = .function) (hh : ck.hot = false) (h1 : locI ck i x = true) (h2 : cE ck e (.ListComp elt gens scope lp) = true) :
    PS X (.Assign [.Name x px] (.ListComp elt gens scope lp) pos) (tAsg (Te ga fld cf X Wx e) (gName i)) := by
  obtain ⟨hi, hl0, hf⟩ := locI_ok o.toXOk h1
  cases hs : swB ck x px scope lp with
  | false =>
    exact ps_set o.nd hi hl0 (sE e _ o.toXOk h2) (by rw [swap_lc o.toXOk hk, hs]) hf
  | true =>
    have hl : X.env.scope.names.lookup x = some .local := by
      have h := hs
      simp only [swB, Bool.and_eq_true, beq_iff_eq] at h
      rw [o.sc]
      exact h.1.1.2
    cases e with
    | comp own tg it tests elt2 =>
      simp only [cE] at h2
      split at h2
      · rename_i elt' tg' iter ifs scope' pos' heq
        cases heq
        simp only [Bool.and_eq_true] at h2
        obtain ⟨⟨⟨⟨⟨⟨⟨g1, g2⟩, g3⟩, g0⟩, g4⟩, g5⟩, g6⟩, g7⟩ := h2
        obtain ⟨wi, p1, k1⟩ := sIt it iter tg' o.toXOk g4
        have ho : (own.map fun i => (ck.N.getD i default, i)).map (·.2) = own := by simp [Function.comp_def]
        have hb : BlkOk X.N X.env.scope scope (own.map fun i => (ck.N.getD i default, i)) := by
          rw [o.N, o.sc]
          exact blkOk_by g1
        have r := ps_setLc (pos := lp) (spos := pos) (py := px) (g := gOf X.K tg) (te := TA1 X.K ga fld Wn (ev cf elt2)) (tt := TB1 X.K ga fld Wn (evT cf tests)) (o.calm hh).1 o.nd hi hl (by rw [swap_lc o.toXOk hk, hs]) p1 hb
          (fun s H C cl fp => tg_ok (o.toXOk.blk hh) g5) (fun s H C cl fp => sTs tests _ (o.toXOk.blk hh) g6) (fun s H C cl fp => sE elt2 _ (o.toXOk.blk hh) g7) (foldedSet_no g3)
        rw [ho] at r
        refine ps_cv r fun D σ H h => ?_
        refine ta_comp (fun i hi => ?_) (fun Rr q => k1 false q) h
        have := List.all_eq_true.mp g2 i hi
        simpa [inRow] using this
      · cases h2
    | var j => simp [cE] at h2
    | cst d => simp only [cE] at h2; cases d <;> simp [cC] at h2
    | op op es => simp [cE] at h2
    | and_ a b => simp [cE] at h2
    | or_ a b => simp [cE] at h2
    | not_ a => simp [cE] at h2
    | ite a b c => simp [cE] at h2
    | chain o1 o2 a b c => simp [cE] at h2
    | tup es => simp [cE] at h2
    | lst es => simp [cE] at h2
    | dict ks es => simp [cE] at h2
    | call k es => simp [cE] at h2
    | callk k p es => simp [cE] at h2
    | callv i cs es => simp [cE] at h2
    | lrng es => simp [cE] at h2
    | lam2 g t q i b hs aft => simp [cE] at h2
    | slc a b c => simp [cE] at h2
    | mth m o' es => simp [cE] at h2
    | lam g t q b hs aft => simp [cE] at h2
/-- o[i] = .. as the rule wants it -/
theorem sub_assign {o i : Expr} {pos : Pos} {env : Env} (h : notSlice i = true) : ∀ v, assign (.Subscript o i pos) env v = (do
      let ov ← holding [v] (eval o env)
      let iv ← holding [v, ov] (eval i env)
      standAt pos
      holding [v, ov, iv] (setItem ov iv v)
      release [v, ov, iv] []) := by
  intro v
  cases i <;> first | rfl | cases h
theorem aug_store {i : Expr} (h : notSlice i = true) : ∀ ov iv new, augStore i ov iv new = (do holding [new, ov, iv] (setItem ov iv new); release [new, ov, iv] []; pure .next) := by
  intro ov iv new
  cases i <;> first | rfl | cases h
theorem ps_sidx {X : Cx} {ck : Ck} {Wx : WX} (o : XS ga fld cf jr X ck Wx) {e a i : Ex} {v o' i' : Expr} {p pos : Pos} (h0 : notSlice i' = true) (h1 : cE ck e v = true) (h2 : cE ck a o' = true) (h3 : cE ck i i' = true) :
    PS X (.Assign [.Subscript o' i' p] v pos) (tAsg (Te ga fld cf X Wx e) (gSub (Te ga fld cf X Wx a) (Te ga fld cf X Wx i) rSet)) := by
  have hu : X.A.units + 1 < cLine := by have := o.hu; omega
  exact ps_asg (sE e _ o.toXOk h1) (pg_sub (sE a _ o.toXOk h2) (sE i _ o.toXOk h3) (pset_set hu) (sub_assign h0)) (show swapsWith v (some (.Subscript o' i' p)) pos.line X.env = pure false from swaps_sub) swapped_sub rfl
mutual
theorem sS : ∀ (s : Sm) (st : Stmt) {X : Cx} {ck : Ck} {Wx : WX}, XS ga fld cf jr X ck Wx → ck.sc.kind = .function → cS ck s st = true → PS X st (TS1 X.K ga fld Wx (evS cf s))
  | .skip, st, X, ck, Wx, o, hk, h => by
    simp only [cS] at h
    split at h
    · exact ps_cv ps_pass fun D σ H h => ts_skip h
    · exact ps_cv ps_doc fun D σ H h => ts_skip h
    · cases h
  | .asg i e, st, X, ck, Wx, o, hk, h => by
    simp only [cS] at h
    split at h
    · rename_i x px v pos
      simp only [Bool.and_eq_true] at h
      obtain ⟨⟨h1, h2⟩, h3⟩ := h
      have cv : ∀ {D σ H}, TS1 X.K ga fld Wx (evS cf (.asg i e)) D σ H → tAsg (Te ga fld cf X Wx e) (gName i) D σ H := fun h => ts_asg h
      by_cases hc : notComp v = true
      · exact ps_cv (sAsg o h1 h2 hc) fun D σ H h => cv h
      · cases v <;> first | (exact absurd rfl hc) | (simp at h3; done) | skip
        exact ps_cv (sAsgC o hk (cool h3) h1 h2) fun D σ H h => cv h
    · cases h
  | .asgH i e, st, X, ck, Wx, o, hk, h => by
    simp only [cS] at h
    split at h
    · simp only [Bool.and_eq_true] at h
      obtain ⟨⟨h1, h2⟩, h3⟩ := h
      exact ps_cv (sAsg o h1 h2 h3) fun D σ H h => ts_asgH h
    · cases h
  | .unp is e, st, X, ck, Wx, o, hk, h => by
    simp only [cS] at h
    split at h
    · rename_i tes tk tp v pos
      simp only [Bool.and_eq_true] at h
      obtain ⟨⟨⟨⟨h0, h1⟩, h2⟩, h3⟩, h4⟩ := h
      obtain ⟨g1, g2, g3⟩ := locs_ok o.toXOk h3
      have h0 : ck.hot = false := by simpa using h0
      exact ps_cv (ps_asg (sE e _ o.toXOk h4) (pg_tup (o.calm h0).1 g1 g2 g3) (show swapsWith v (some (.Tuple tes tk tp)) pos.line X.env = pure false from swaps_no h1) (swapped_none o.toXOk h2) rfl) fun D σ H h => ts_unp h
    · cases h
  | .par i j es, st, X, ck, Wx, o, hk, h => by
    simp only [cS] at h
    split at h
    · simp only [Bool.and_eq_true, decide_eq_true_eq, Bool.not_eq_true', bne_iff_ne, beq_iff_eq] at h
      obtain ⟨⟨⟨⟨⟨⟨⟨⟨⟨⟨⟨h0, h1⟩, h2⟩, h3⟩, h4⟩, h5⟩, h6⟩, h7⟩, h8⟩, h9⟩, h10⟩, h11⟩ := h
      have h0 : ck.hot = false := by simpa using h0
      obtain ⟨hi, hx⟩ := locL_ok o.toXOk h1
      obtain ⟨hj, hy⟩ := locL_ok o.toXOk h2
      have ih := sEs es _ o.toXOk h11
      refine ps_cv (ps_par (o.calm h0).1 o.nd hi hj h3 hx hy ih.pa (swap_par (by rw [o.sc]; exact hk) hx hy (by simpa using h5) h4 h7 h8 h9 h10) rfl) fun D σ H h => ts_par h
    · cases h
  | .aug i op e, st, X, ck, Wx, o, hk, h => by
    simp only [cS] at h
    split at h
    · simp only [Bool.and_eq_true, decide_eq_true_eq] at h
      obtain ⟨⟨h1, rfl⟩, h3⟩ := h
      obtain ⟨hi, hx, hf⟩ := locI_ok o.toXOk h1
      exact ps_cv (ps_aug o.nd hi hx (sE e _ o.toXOk h3) (pip_aug op) hf) fun D σ H h => ts_aug h
    · cases h
  | .sidx e a i, st, X, ck, Wx, o, hk, h => by
    simp only [cS] at h
    split at h
    · simp only [Bool.and_eq_true] at h
      obtain ⟨⟨⟨h1, h2⟩, h3⟩, h4⟩ := h
      exact ps_cv (ps_sidx o h1 h2 h3 h4) fun D σ H h => ts_sidx h
    · cases h
  | .aidx a i op e, st, X, ck, Wx, o, hk, h => by
    simp only [cS] at h
    split at h
    · simp only [Bool.and_eq_true, decide_eq_true_eq] at h
      obtain ⟨⟨⟨⟨h1, rfl⟩, h2⟩, h3⟩, h4⟩ := h
      have hu : X.A.units + 1 < cLine := by have := o.hu; omega
      exact ps_cv (ps_augS (sE a _ o.toXOk h3) (sE i _ o.toXOk h4) (pget_get hu) (sE e _ o.toXOk h2) (pip_aug op) (pset_set hu) (aug_store h1)) fun D σ H h => ts_aidx h
    · cases h
  | .expr e, st, X, ck, Wx, o, hk, h => by
    simp only [cS] at h
    split at h
    · simp only [Bool.and_eq_true] at h
      exact ps_cv (ps_expr (sE e _ o.toXOk h.2) (swaps_no h.1)) fun D σ H h => ts_expr h
    · cases h
  | .ret e, st, X, ck, Wx, o, hk, h => by
    simp only [cS] at h
    split at h
    · exact ps_cv (ps_ret (sE e _ o.toXOk h)) fun D σ H h => ts_ret h
    · cases h
  | .retn, st, X, ck, Wx, o, hk, h => by
    simp only [cS] at h
    split at h
    · exact ps_cv ps_retN fun D σ H h => ts_retn h
    · cases h
  | .ifs c a b, st, X, ck, Wx, o, hk, h => by
    simp only [cS] at h
    split at h
    · simp only [Bool.and_eq_true] at h
      exact ps_cv (ps_if (sT c _ o.toXOk h.1.1).1 (sSs a _ o hk h.1.2) (sSs b _ o hk h.2)) fun D σ H h => ts_if h
    · cases h
  | .for_ tg it b, st, X, ck, Wx, o, hk, h => by
    simp only [cS] at h
    split at h
    · simp only [Bool.and_eq_true] at h
      obtain ⟨⟨⟨⟨h0, h1⟩, h2⟩, h3⟩, h4⟩ := h
      obtain ⟨wi, p1, k1⟩ := sIt it _ _ o.toXOk h3
      have h0 : ck.hot = false := by simpa using h0
      exact ps_cv (ps_for o.po (o.calm h0).1 p1 (tg_ok o.toXOk h2) (sSs b _ o hk h4) (foldedSet_no h1)) fun D σ H h => ts_for (fun Rr q => k1 true q) h
    · cases h
  | .whl c b, st, X, ck, Wx, o, hk, h => by
    simp only [cS] at h
    split at h
    · simp only [Bool.and_eq_true] at h
      exact ps_cv (ps_while o.po (sT c _ o.toXOk h.1).1 (sSs b _ o hk h.2)) fun D σ H h => ts_while h
    · cases h
  | .brk, st, X, ck, Wx, o, hk, h => by
    simp only [cS] at h
    split at h
    · exact ps_cv ps_break fun D σ H h => ts_brk h
    · cases h
  | .cont, st, X, ck, Wx, o, hk, h => by
    simp only [cS] at h
    split at h
    · exact ps_cv ps_continue fun D σ H h => ts_cont h
    · cases h
  | .rais k e, st, X, ck, Wx, o, hk, h => by
    simp only [cS] at h
    split at h
    · simp only [Bool.and_eq_true] at h
      obtain ⟨⟨⟨⟨⟨h0, h1⟩, h2⟩, h3⟩, h4⟩, h5⟩ := h
      split at h3
      · rename_i j ej
        have ek := eq_of_beq h3
        subst ek
        obtain ⟨m, T, fI, fd, ps, i1, i2, F, hb⟩ := o.toXOk.gt ej (by simp)
        have h0 : ck.hot = false := by simpa using h0
        have pa : PA X [_] (TL1 X.K ga fld Wx (bnd (ev cf e) fun a => bnd (ret []) fun as => ret (a :: as))) := AllP.pa (es := .cons e .nil) ⟨h4, sE e _ o.toXOk h5, trivial⟩
        exact ps_cv (L2N.ps_raise (o.calm h0).1 o.tk (pmk_oexN T i1 i2 F ((o.calm h0).2.mono o.two) hb (fun _ _ _ _ _ _ _ h => by
          obtain ⟨_, _, _, _, _, _, _, _, _, _, _, _, z⟩ := h
          exact z.elim) (o.toXOk.glb h1) m pa (nm_of h2).1 (star_cons h4) rfl)) fun D σ H h => ts_rais h
      · cases h3
    · cases h
theorem sSs : ∀ (ss : Sms) (l : List Stmt) {X : Cx} {ck : Ck} {Wx : WX}, XS ga fld cf jr X ck Wx → ck.sc.kind = .function → cSs ck ss l = true → PSs X l (TS1 X.K ga fld Wx (evSs cf ss))
  | .nil, l, X, ck, Wx, o, hk, h => by
    simp only [cSs] at h
    split at h
    · exact pss_cv pss_nil fun D σ H h => ts_nil h
    · cases h
  | .cons s ss, l, X, ck, Wx, o, hk, h => by
    simp only [cSs] at h
    split at h
    · rw [Bool.and_eq_true] at h
      exact pss_cv (pss_cons (sS s _ o hk h.1) (sSs ss _ o hk h.2)) fun D σ H h => ts_cons h
    · cases h
end
end
end Ev
end
section
set_option maxRecDepth 100000
set_option maxHeartbeats 4000000
/-! Ev23: the end of a call. -/
namespace Ev
open PySem L2
section
variable {K : PySem.W.Frag} {ga : Nat → Addr} {fld : Nat → Str} {ρ ρ' : List Addr} {σd σd' : List W} {hd hd' : List C} {σ σ' : List (Option V)} {H H' : Hp} {Wx : WX}
mutual
theorem RD.cut {n : Nat} : ∀ {d : D} {v : V}, refsD n d = true → RD K ga ρ H d v → RD K ga (ρ.take n) H d v
  | .non, v, _, r => by simpa [RD] using r
  | .bl b, v, _, r => by simpa [RD] using r
  | .int i, v, _, r => by simpa [RD] using r
  | .str s, v, _, r => by simpa [RD] using r
  | .ty t, v, _, r => by simpa [RD] using r
  | .gf k, v, _, r => by simpa [RD] using r
  | .ref m, v, h, r => by
    simp only [refsD, decide_eq_true_eq] at h
    simp only [RD] at r ⊢
    obtain ⟨a, e, rfl⟩ := r
    exact ⟨a, by rw [List.getElem?_take, if_pos h]; exact e, rfl⟩
  | .tup l, v, h, r => by
    simp only [refsD] at h
    simp only [RD] at r ⊢
    obtain ⟨a, xs, e, h1, q, z⟩ := r
    exact ⟨a, xs, e, h1, RDs.cut h q, z⟩
  | .flst l, v, h, r => by
    simp only [refsD] at h
    simp only [RD] at r ⊢
    obtain ⟨a, xs, e, h1, q, z⟩ := r
    exact ⟨a, xs, e, h1, RDs.cut h q, z⟩
theorem RDs.cut {n : Nat} : ∀ {l : List D} {vs : List V}, refsDs n l = true → RDs K ga ρ H l vs → RDs K ga (ρ.take n) H l vs
  | [], _, _, r => by simpa [RDs] using r
  | d :: ds, _, h, r => by
    simp only [refsDs, Bool.and_eq_true] at h
    simp only [RDs] at r ⊢
    obtain ⟨v, vs, e, h1, q⟩ := r
    exact ⟨v, vs, e, RD.cut h.1 h1, RDs.cut h.2 q⟩
end
mutual
theorem RD.refs : ∀ {d : D} {v : V}, RD K ga ρ H d v → refsD ρ.length d = true
  | .non, v, _ => rfl
  | .bl b, v, _ => rfl
  | .int i, v, _ => rfl
  | .str s, v, _ => rfl
  | .ty t, v, _ => rfl
  | .gf k, v, _ => rfl
  | .ref m, v, r => by
    simp only [RD] at r
    obtain ⟨a, e, rfl⟩ := r
    simp only [refsD, decide_eq_true_eq]
    exact (List.getElem?_eq_some_iff.mp e).1
  | .tup l, v, r => by
    simp only [RD] at r
    obtain ⟨a, xs, e, h1, q, z⟩ := r
    exact RDs.refs q
  | .flst l, v, r => by
    simp only [RD] at r
    obtain ⟨a, xs, e, h1, q, z⟩ := r
    exact RDs.refs q
theorem RDs.refs : ∀ {l : List D} {vs : List V}, RDs K ga ρ H l vs → refsDs ρ.length l = true
  | [], _, _ => rfl
  | d :: ds, _, r => by
    simp only [RDs] at r
    obtain ⟨v, vs, e, h1, q⟩ := r
    simp only [refsDs, Bool.and_eq_true]
    exact ⟨RD.refs h1, RDs.refs q⟩
end
theorem key_refs {n : Nat} {k : D} {q : Key} (h : keyD k = some q) : refsD n k = true := by
  cases k <;> simp [keyD] at h <;> rfl
theorem RKv.cut {n : Nat} : ∀ {l : List (D × D)} {ks : List (Key × V)}, (l.all fun p => refsD n p.1 && refsD n p.2) = true → RKv K ga ρ H l ks → RKv K ga (ρ.take n) H l ks
  | [], _, _, r => r
  | p :: ps, _, h, ⟨k, v, r, e, h1, h2, h3⟩ => by
    simp only [List.all_cons, Bool.and_eq_true] at h
    exact ⟨k, v, r, e, h1, RD.cut h.1.2 h2, RKv.cut (by simpa using h.2) h3⟩
theorem RKv.refs : ∀ {l : List (D × D)} {ks : List (Key × V)}, RKv K ga ρ H l ks → (l.all fun p => refsD ρ.length p.1 && refsD ρ.length p.2) = true
  | [], _, _ => rfl
  | p :: ps, _, ⟨k, v, r, e, h1, h2, h3⟩ => by
    simp only [List.all_cons, Bool.and_eq_true]
    exact ⟨⟨key_refs h1, RD.refs h2⟩, by simpa using RKv.refs h3⟩
theorem RO.cut {n : Nat} {c : C} {o : HO} (h : refsC n c = true) (r : RO K ga ρ H c o) : RO K ga (ρ.take n) H c o := by
  cases c with
  | lst l =>
    obtain ⟨xs, e, q, z⟩ := r
    exact ⟨xs, e, RDs.cut h q, z⟩
  | dic kvs =>
    obtain ⟨ks, e, q⟩ := r
    exact ⟨ks, e, RKv.cut h q⟩
  | tbl j q => exact r.elim
theorem RO.refs {c : C} {o : HO} (r : RO K ga ρ H c o) : refsC ρ.length c = true := by
  cases c with
  | lst l =>
    obtain ⟨xs, e, q, z⟩ := r
    exact RDs.refs q
  | dic kvs =>
    obtain ⟨ks, e, q⟩ := r
    exact RKv.refs q
  | tbl j q => exact r.elim
theorem ROc.cut {n : Nat} {c : C} {o : HO} (h : refsC n c = true) (r : ROc K ga ρ H c o) : ROc K ga (ρ.take n) H c o := by
  rcases r with r | ⟨j, q, rfl, e, h2⟩
  · exact .inl (r.cut h)
  · have hj : j < n := by simpa [refsC] using h
    exact .inr ⟨j, q, rfl, by rw [List.getElem?_take, if_pos hj]; exact e, h2⟩
theorem ROc.refs {c : C} {o : HO} (r : ROc K ga ρ H c o) : refsC ρ.length c = true := by
  rcases r with r | ⟨j, q, rfl, e, _⟩
  · exact r.refs
  · simpa [refsC] using (List.getElem?_eq_some_iff.mp e).1
theorem closed_tb {n : Nat} : ∀ {h0 h : List C} {i : Nat} {c : C}, closedB n h0 h = true → h[i]? = some c → isTb c = true → i < h0.length
  | [], h, i, c, hc, e, ht => by
    simp only [closedB, List.all_eq_true] at hc
    have := hc c (List.mem_of_getElem? e)
    rw [ht] at this
    cases this
  | a :: h0, [], i, c, hc, _, _ => by simp [closedB] at hc
  | a :: h0, b :: h, 0, c, hc, e, ht => by simp
  | a :: h0, b :: h, i + 1, c, hc, e, ht => by
    simp only [closedB, Bool.and_eq_true] at hc
    have := closed_tb hc.2 (by simpa using e) ht
    simpa using this
theorem closed_get {n : Nat} : ∀ {h0 h : List C} {i : Nat} {c : C}, closedB n h0 h = true → (∀ c ∈ h0, refsC n c = true) → i < h0.length → h[i]? = some c → refsC n c = true
  | [], _, _, _, _, _, hi, _ => by simp at hi
  | a :: h0, [], _, _, h, _, _, _ => by simp [closedB] at h
  | a :: h0, b :: h, 0, c, hc, hr, _, e => by
    simp only [closedB, Bool.and_eq_true, Bool.or_eq_true] at hc
    simp at e
    subst e
    rcases hc.1 with z | z
    · rw [← beqC_eq z]
      exact hr a List.mem_cons_self
    · exact z
  | a :: h0, b :: h, i + 1, c, hc, hr, hi, e => by
    simp only [closedB, Bool.and_eq_true] at hc
    exact closed_get hc.2 (fun c hm => hr c (List.mem_cons_of_mem _ hm)) (by simpa using hi) (by simpa using e)
/-- what nobody tells any more is let go -/
theorem SR.cut {ρ0 : List Addr} {hd0 : List C} {H0 : Hp} (s0 : SR K ga ρ0 [] hd0 [] H0) (s : SR K ga ρ [] hd [] H) (pre : ∃ u, ρ = ρ0 ++ u) (hc : closedB hd0.length hd0 hd = true) : SR K ga (ρ.take hd0.length) [] (hd.take hd0.length) [] H where
  len := rfl
  slotD := fun i x e => by simp at e
  slotC := fun i c e => by simp at e
  inj := fun i j c c' a e => by simp at e
  off := fun i c a e => by simp at e
  nd := List.Nodup.sublist (List.take_sublist _ _) s.nd
  lenH := by rw [List.length_take, List.length_take, s.lenH]
  cell := fun n c e => by
    rw [List.getElem?_take] at e
    split at e
    · rename_i hlt
      obtain ⟨a, o, h1, h2, r⟩ := s.cell n c e
      have hr : refsC hd0.length c = true := closed_get hc (fun c hm => by
        obtain ⟨i, hi⟩ := List.getElem?_of_mem hm
        obtain ⟨_, _, _, _, r⟩ := s0.cell i c hi
        have := r.refs
        rwa [s0.lenH] at this) hlt e
      exact ⟨a, o, by rw [List.getElem?_take, if_pos hlt]; exact h1, h2, ROc.cut hr r⟩
    · cases e
  tin := trivial
theorem fin_ok {ρ0 : List Addr} {hd0 : List C} {H0 : Hp} {w w2 : W} {v : V} {hd2 : List C} (s0 : SR K ga ρ0 [] hd0 [] H0) (s : SR K ga ρ [] hd [] H) (pre : ∃ u, ρ = ρ0 ++ u) (hw : w ≠ .none) (r : AvR K ga ρ [] [] H (wAv w) v) (e : fin hd0 w hd = .ok w2 hd2) :
    ∃ ρ2, SR K ga ρ2 [] hd2 [] H ∧ (∃ u, ρ2 = ρ0 ++ u) ∧ AvR K ga ρ2 [] [] H (wAv w2) v ∧ w2 ≠ .none ∧ ∀ a, a ∈ ρ2 ∨ Tm [wAv w2] [v] a → a ∈ ρ ∨ Tm [wAv w] [v] a := by
  have same : RC.ok w hd = .ok w2 hd2 → ∃ ρ2, SR K ga ρ2 [] hd2 [] H ∧ (∃ u, ρ2 = ρ0 ++ u) ∧ AvR K ga ρ2 [] [] H (wAv w2) v ∧ w2 ≠ .none ∧ ∀ a, a ∈ ρ2 ∨ Tm [wAv w2] [v] a → a ∈ ρ ∨ Tm [wAv w] [v] a := fun e => by
    cases e
    exact ⟨ρ, s, pre, r, hw, fun a h => h⟩
  have l0 : ρ0.length = hd0.length := s0.lenH
  have tk : ρ.take hd0.length = ρ0 := by
    obtain ⟨u, rfl⟩ := pre
    rw [← l0, List.take_append_of_le_length (Nat.le_refl _), List.take_length]
  unfold fin at e
  split at e
  · exact same e
  · split at e
    · rename_i hc
      have s2 := s0.cut s pre hc
      split at e
      · rename_i hr
        cases e
        refine ⟨_, s2, ⟨[], by rw [tk]; simp⟩, ?_, hw, fun a h => h.imp (fun m => List.mem_of_mem_take m) id⟩
        cases w with
        | none => exact absurd rfl hw
        | d x => exact RD.cut hr r
        | c c =>
          obtain ⟨a, o, e1, h1, r1, nf⟩ := r
          exact ⟨a, o, e1, h1, RO.cut hr r1, fun f => nf (.inl (List.mem_of_mem_take (fp0.mp f)))⟩
      · rename_i hr
        split at e
        · rename_i m
          split at e
          · rename_i c hm
            split at e
            · rename_i hrc2
              rw [Bool.and_eq_true] at hrc2
              obtain ⟨hrc, hnt⟩ := hrc2
              cases e
              have r : RD K ga ρ H (.ref m) v := r
              simp only [RD] at r
              obtain ⟨a, ha, rfl⟩ := r
              obtain ⟨a', o, h1, h2, r2⟩ := s.cell m c hm
              rw [ha] at h1; cases h1
              have hge : ¬ m < hd0.length := fun z => hr (by simp [refsW, refsD, z])
              refine ⟨_, s2, ⟨[], by rw [tk]; simp⟩, ⟨a, o, rfl, h2, RO.cut hrc (r2.elim id fun ⟨j, q, z, _⟩ => by rw [z] at hnt; cases hnt), fun f => ?_⟩, by simp, fun b h => ?_⟩
              · have f := fp0.mp f
                obtain ⟨i, hi⟩ := List.getElem?_of_mem f
                rw [List.getElem?_take] at hi
                split at hi
                · rename_i hlt
                  have := (List.getElem?_inj (List.getElem?_eq_some_iff.mp hi).1 s.nd).mp (hi.trans ha.symm)
                  omega
                · cases hi
              · rcases h with h | h
                · exact .inl (List.mem_of_mem_take h)
                · rcases h with ⟨c', _, z⟩ | h
                  · cases z
                    exact .inl (List.mem_of_getElem? ha)
                  · exact h.elim
            · exact same e
          · exact same e
        · exact same e
    · exact same e
theorem finX_ok {ρ0 : List Addr} {hd0 : List C} {H0 : Hp} {c : Nat} {d d2 : D} {c2 : Nat} {v : V} {hd2 : List C} (s0 : SR K ga ρ0 [] hd0 [] H0) (s : SR K ga ρ [] hd [] H) (pre : ∃ u, ρ = ρ0 ++ u) (r : RD K ga ρ H d v) (e : finX hd0 c d hd = .ex c2 d2 hd2) :
    c2 = c ∧ ∃ ρ2, SR K ga ρ2 [] hd2 [] H ∧ (∃ u, ρ2 = ρ0 ++ u) ∧ RD K ga ρ2 H d2 v ∧ ∀ a, a ∈ ρ2 → a ∈ ρ := by
  have same : RC.ex c d hd = .ex c2 d2 hd2 → c2 = c ∧ ∃ ρ2, SR K ga ρ2 [] hd2 [] H ∧ (∃ u, ρ2 = ρ0 ++ u) ∧ RD K ga ρ2 H d2 v ∧ ∀ a, a ∈ ρ2 → a ∈ ρ := fun e => by
    cases e
    exact ⟨rfl, ρ, s, pre, r, fun a h => h⟩
  have l0 : ρ0.length = hd0.length := s0.lenH
  have tk : ρ.take hd0.length = ρ0 := by
    obtain ⟨u, rfl⟩ := pre
    rw [← l0, List.take_append_of_le_length (Nat.le_refl _), List.take_length]
  unfold finX at e
  split at e
  · exact same e
  · split at e
    · rename_i hc
      rw [Bool.and_eq_true] at hc
      cases e
      exact ⟨rfl, _, s0.cut s pre hc.1, ⟨[], by rw [tk]; simp⟩, RD.cut hc.2 r, fun a h => List.mem_of_mem_take h⟩
    · exact same e
theorem fin_nx {hd0 hd : List C} {w : W} {c : Nat} {d : D} {hd2 : List C} : fin hd0 w hd ≠ .ex c d hd2 ∧ fin hd0 w hd ≠ .bad := by
  unfold fin
  constructor <;> (repeat' split) <;> simp
theorem finX_nx {hd0 hd : List C} {w : W} {c : Nat} {d : D} {hd2 : List C} : finX hd0 c d hd ≠ .ok w hd2 ∧ finX hd0 c d hd ≠ .bad := by
  unfold finX
  constructor <;> (repeat' split) <;> simp
end
end Ev
end
section
set_option maxRecDepth 100000
set_option maxHeartbeats 4000000
/-! Ev24: defs. -/
namespace Ev
open PySem L2
section
variable {K : PySem.W.Frag} {ga : Nat → Addr} {fld : Nat → Str} {ρ ρ' : List Addr} {σd σd' : List W} {hd hd' : List C} {σ σ' : List (Option V)} {H H' : Hp} {Wx : WX}
theorem avs_get : ∀ {ws : List W} {vs : List V} {i : Nat} {w : W}, AvsR K ga ρ [] [] H (ws.map wAv) vs → ws[i]? = some w → ∃ v, vs[i]? = some v ∧ AvR K ga ρ [] [] H (wAv w) v
  | [], _, _, _, _, e => by simp at e
  | a :: ws, _, 0, w, ⟨v, us, ev, h, q, d⟩, e => by
    simp at e
    subst e ev
    exact ⟨v, rfl, h⟩
  | a :: ws, _, i + 1, w, ⟨v, us, ev, h, q, d⟩, e => by
    subst ev
    simpa using avs_get q (by simpa using e)
theorem tm_get : ∀ {ws : List W} {vs : List V} {i : Nat} {c : C} {a : Addr}, ws[i]? = some (.c c) → vs[i]? = some (V.ref a) → Tm (ws.map wAv) vs a
  | [], _, _, _, _, e, _ => by simp at e
  | w :: ws, [], _, _, _, _, e => by simp at e
  | w :: ws, v :: vs, 0, c, a, e1, e2 => by
    simp at e1 e2
    subst e1 e2
    exact .inl ⟨c, rfl, rfl⟩
  | w :: ws, v :: vs, i + 1, c, a, e1, e2 => .inr (tm_get (by simpa using e1) (by simpa using e2))
theorem get_tm : ∀ {ws : List W} {vs : List V} {a : Addr}, Tm (ws.map wAv) vs a → ∃ (i : Nat) (c : C), ws[i]? = some (W.c c) ∧ vs[i]? = some (V.ref a)
  | [], _, _, f => f.elim
  | w :: ws, [], _, f => by simp [Tm] at f
  | w :: ws, v :: vs, a, f => by
    rcases f with ⟨c, e, e2⟩ | f
    · cases w <;> simp [wAv] at e
      exact ⟨0, _, rfl, by simp [e2]⟩
    · obtain ⟨i, c, h1, h2⟩ := get_tm f
      exact ⟨i + 1, c, by simpa using h1, by simpa using h2⟩
theorem avs_inj : ∀ {ws : List W} {vs : List V} {i j : Nat} {c c' : C} {a : Addr}, AvsR K ga ρ [] [] H (ws.map wAv) vs → ws[i]? = some (W.c c) → ws[j]? = some (W.c c') → vs[i]? = some (V.ref a) → vs[j]? = some (V.ref a) → i = j
  | [], _, _, _, _, _, _, _, e, _, _, _ => by simp at e
  | w :: ws, _, i, j, c, c', a, ⟨v, us, ev, h, q, d⟩, e1, e2, e3, e4 => by
    subst ev
    cases i with
    | zero =>
      cases j with
      | zero => rfl
      | succ j =>
        exfalso
        simp at e1 e3
        subst e1 e3
        exact d a ⟨c, rfl, rfl⟩ (tm_get (by simpa using e2) (by simpa using e4))
    | succ i =>
      cases j with
      | zero =>
        exfalso
        simp at e2 e4
        subst e2 e4
        exact d a ⟨c', rfl, rfl⟩ (tm_get (by simpa using e1) (by simpa using e3))
      | succ j =>
        have := avs_inj (i := i) (j := j) q (by simpa using e1) (by simpa using e2) (by simpa using e3) (by simpa using e4)
        rw [this]
theorem pad_get {ws : List W} {n i : Nat} {w : W} (e : (ws ++ List.replicate n W.none)[i]? = some w) (hw : w ≠ .none) : ws[i]? = some w := by
  by_cases h : i < ws.length
  · rwa [List.getElem?_append_left h] at e
  · rw [List.getElem?_append_right (by omega)] at e
    have := List.eq_of_mem_replicate (List.mem_of_getElem? e)
    exact absurd this hw
theorem start_get {N : List Str} {vs : List V} {i : Nat} {v : V} (e : vs[i]? = some v) : (L2.start N vs)[i]? = some (some v) := by
  unfold L2.start
  have h : i < vs.length := (List.getElem?_eq_some_iff.mp e).1
  rw [List.getElem?_append_left (by simpa using h)]
  simp [e]
theorem start_back {N : List Str} {vs : List V} {i : Nat} {v : V} (e : (L2.start N vs)[i]? = some (some v)) : vs[i]? = some v := by
  unfold L2.start at e
  by_cases h : i < vs.length
  · rw [List.getElem?_append_left (by simpa using h)] at e
    rw [List.getElem?_map] at e
    cases e2 : vs[i]? with
    | none => simp [e2] at e
    | some u => simp [e2] at e; rw [e]
  · rw [List.getElem?_append_right (by simpa using h)] at e
    have := List.eq_of_mem_replicate (List.mem_of_getElem? e)
    cases this
/-- a def's entry -/
theorem SR.start {N : List Str} {ws : List W} {vs : List V} (s : SR K ga ρ [] hd [] H) (r : AvsR K ga ρ [] [] H (ws.map wAv) vs) (hN : vs.length ≤ N.length) : SR K ga ρ (ws ++ List.replicate (N.length - ws.length) .none) hd (L2.start N vs) H ∧
    ∀ a, Fp ρ (ws ++ List.replicate (N.length - ws.length) .none) (L2.start N vs) a ↔ a ∈ ρ ∨ Tm (ws.map wAv) vs a := by
  have hl : vs.length = ws.length := by rw [r.length, List.length_map]
  refine ⟨⟨?_, fun i x e => ?_, fun i c e => ?_, fun i j c c' a e1 e2 e3 e4 => ?_, fun i c a e1 e2 => ?_, s.nd, s.lenH, s.cell, s.tin⟩, fun a => ⟨fun f => ?_, fun f => ?_⟩⟩
  · simp [L2.start, hl]
  · obtain ⟨v, h1, h2⟩ := avs_get r (pad_get e (by simp))
    exact ⟨v, start_get h1, h2⟩
  · obtain ⟨v, h1, h2⟩ := avs_get r (pad_get e (by simp))
    obtain ⟨a, o, rfl, h3, h4, _⟩ := h2
    exact ⟨a, o, start_get h1, h3, h4⟩
  · exact avs_inj r (pad_get e1 (by simp)) (pad_get e2 (by simp)) (start_back e3) (start_back e4)
  · obtain ⟨v, h1, h2⟩ := avs_get r (pad_get e1 (by simp))
    obtain ⟨b, o, rfl, h3, h4, nf⟩ := h2
    have := start_back e2
    rw [h1] at this
    cases this
    exact fun hm => nf (.inl hm)
  · rcases f with f | ⟨i, c, e1, e2⟩
    · exact .inl f
    · exact .inr (tm_get (pad_get e1 (by simp)) (start_back e2))
  · rcases f with f | f
    · exact .inl f
    · obtain ⟨i, c, h1, h2⟩ := get_tm f
      refine .inr ⟨i, c, ?_, start_get h2⟩
      rw [List.getElem?_append_left (List.getElem?_eq_some_iff.mp h1).1]
      exact h1
/-- a value handed back, without the slots -/
theorem AvR.bare {w : W} {v : V} (hw : w ≠ .none) (r : AvR K ga ρ σd σ H (wAv w) v) : AvR K ga ρ [] [] H (wAv w) v := by
  cases w with
  | none => exact absurd rfl hw
  | d x => exact r
  | c c =>
    obtain ⟨a, o, e, h1, h2, nf⟩ := r
    exact ⟨a, o, e, h1, h2, fun f => nf (.inl (fp0.mp f))⟩
/-- a def's body keeps the promise -/
theorem body_ok {N : List Str} {f : Fn} {np k : Nat} {P : Nat → Option Fn} {n : Nat} {vs : List V} {Q : VK} {E : XK} (hP : P k = some f) (hnp : f.np = np) (hN : f.n = N.length) (hle : np ≤ N.length)
    (h : spOf K ga fld (evCall P (n + 1)) np k vs H Q E) : TS1 K ga fld (fun cls d _ H => E cls d H) (evSs (evCall P n) f.body) { nx := fun _ H' => Q .non H', rt := Q } (L2.start N vs) H := by
  obtain ⟨hl, ρ, ws, hd, s, r, hw, h⟩ := h
  have hlw : ws.length = np := by rw [← hl, r.length, List.length_map]
  obtain ⟨s1, f1⟩ := SR.start (N := N) s r (by omega)
  refine ⟨ρ, _, hd, s1, ?_⟩
  simp only [evCall, hP] at h
  rw [if_pos (by rw [hlw, hnp])] at h
  rw [hN, hnp, ← hlw] at h
  have keep : ∀ {ρ' σd' σ' H'}, Step ρ (ws ++ List.replicate (N.length - ws.length) .none) (L2.start N vs) H ρ' σd' σ' H' → ∀ a o, H a = some o → a ∉ ρ → ¬ Tm (ws.map wAv) vs a → Kp H' a o := fun t a o e n1 n2 => t.keep a o e fun f => ((f1 a).mp f).elim n1 n2
  have new : ∀ {ρ' σd' σ' H'}, Step ρ (ws ++ List.replicate (N.length - ws.length) .none) (L2.start N vs) H ρ' σd' σ' H' → ∀ a, a ∈ ρ' → a ∈ ρ ∨ Tm (ws.map wAv) vs a ∨ H a = none := fun t a m => (t.new a (.inl m)).elim (fun f => ((f1 a).mp f).imp id .inl) fun z => .inr (.inr z)
  cases e : evSs (evCall P n) f.body (ws ++ List.replicate (N.length - ws.length) .none) hd with
  | bad => simp [e, F.toRC] at h
  | bk σ2 h2 => simp [e, F.toRC] at h
  | ct σ2 h2 => simp [e, F.toRC] at h
  | nx σ2 h2 =>
    simp only [e, F.toRC] at h
    intro ρ' σ' H' s' t'
    cases e2 : fin hd (.d .non) h2 with
    | bad => exact absurd e2 (fin_nx (c := 0) (d := .non) (hd2 := [])).2
    | ex c d h3 => exact absurd e2 fin_nx.1
    | ok w h3 =>
      simp only [e2] at h
      obtain ⟨ρ2, s2, p2, r2, hw2, n2⟩ := fin_ok (v := .non) s s'.bare t'.pre (by simp) (by simp [wAv, AvR, RD]) e2
      refine h.2 ρ2 H' .non s2 p2 (keep t') (fun a f => ?_) r2
      rcases n2 a f with z | z
      · exact new t' a z
      · simp [wAv, Tm] at z
  | rt w h2 =>
    simp only [e, F.toRC] at h
    intro hw1 ρ' σd' σ' H' v s' t' rv nv
    cases e2 : fin hd w h2 with
    | bad => exact absurd e2 (fin_nx (c := 0) (d := .non) (hd2 := [])).2
    | ex c d h3 => exact absurd e2 fin_nx.1
    | ok w2 h3 =>
      simp only [e2] at h
      obtain ⟨ρ2, s2, p2, r2, hw2, n2⟩ := fin_ok (v := v) s s'.bare t'.pre hw1 (AvR.bare hw1 rv) e2
      refine h.2 ρ2 H' v s2 p2 (keep t') (fun a f => ?_) r2
      rcases n2 a f with z | z
      · exact new t' a z
      · exact (nv a z).elim (fun f => ((f1 a).mp f).imp id .inl) fun z => .inr (.inr z)
  | ex c d σ2 h2 =>
    simp only [e, F.toRC] at h
    intro ρ' σ' H' dx v s' t' rv xv
    cases e2 : finX hd c d h2 with
    | bad => exact absurd e2 (finX_nx (w := .none) (hd2 := [])).2
    | ok w2 h3 => exact absurd e2 finX_nx.1
    | ex c2 d2 h3 =>
      simp only [e2] at h
      obtain ⟨rfl, ρ2, s2, p2, r2, n2⟩ := finX_ok (v := v) s s'.bare t'.pre rv e2
      exact h ρ2 H' dx v s2 p2 (keep t') (fun a m => new t' a (n2 a m)) r2 xv
end
/-! ### all defs -/
/-- what stands behind a global name, whatever runs -/
def GG (Pr : Program) (w : World) (K : W.Frag) (mg : Str → Option Value) (base : Heap) (ga : Nat → Addr) (fld : Nat → Str) (P : Nat → Option Fn) (hot : Nat → Bool) (x : Str) : Gk → Prop
  | .val d => ∃ u v, mg x = some u ∧ RelV v u ∧ ∀ ρ H, RD K ga ρ H d v
  | .fn k np => mg x = some (.ref (ga k)) ∧ W.keepIn K (.ref (ga k)) = true ∧ ∃ f, P k = some f ∧ f.np = np
  | .cls k => mg x = some (.ref (ga k)) ∧ OexC K (ga k) ∧ ∃ fI fd ps, W.findIn K (.ref (ga k)) (Str.ofString "__init__") = some (some (.ref fI)) ∧ W.typeIn K (.ref fI) = some (.type "function") ∧
      FnOk Pr w K mg base (L2N.CX Pr w) 1 fI fd ps (spInit (ga k) (fld k)) ∧ Binds K fd ps []
  | .blt => mg x = none
  | .gcd => mg x = some (.builtin "math.gcd")
  | .tryf k hs aft => mg x = some (.ref (ga k)) ∧ W.keepIn K (.ref (ga k)) = true ∧ TryOk ga fld K mg x k hs aft
  | .tryf2 k hs aft => mg x = some (.ref (ga k)) ∧ W.keepIn K (.ref (ga k)) = true ∧ Try2 ga fld K mg x k hs aft ∧ ∀ p ∈ hs, hot p.2.1 = true ∧ W.keepIn K (.ref (ga p.2.1)) = true ∧ ∃ f, P p.2.1 = some f ∧ f.np = 2
  | .no => True
structure DefOk (Pr : Program) (w : World) (K : W.Frag) (mg : Str → Option Value) (base : Heap) (ga : Nat → Addr) (fld : Nat → Str) (P : Nat → Option Fn) (hot : Nat → Bool) (k : Nat) (f : Fn) (x qual : Str) (st : Stmt) (fd : FuncData) (N ps : List Str) (gl : List (Str × Gk)) (kw : List Kw) (lt : Option Nat) : Prop where
  F : L2.Fun K x qual st (ga k) fd
  S : FnScope N ps (defScope st)
  ok : cSs ⟨N, defScope st, gl, kw, true, qual ++ ".<locals>." ++ "<lambda>", lt, false⟩ f.body (defBody st) = true
  np : f.np = ps.length
  n : f.n = N.length
  B : Binds K fd ps []
  KB : ∀ q ∈ kw, q.k = k → KBn K fd ps q.n q.ks (fun us ws => permL q.perm (us ++ ws)) (fun vs zs => permL q.perm (vs ++ zs))
  L : ∀ t, lt = some t → ∃ c, fd.code = .ref c ∧ LamX.TabB base mg c (ga (tabBase + t))
  G : ∀ x g, gl.lookup x = some g → GG Pr w K mg base ga fld P hot x g
/-- what stands behind a global name of a def that is called while an exception is handled -/
def GGH (K : W.Frag) (mg : Str → Option Value) (ga : Nat → Addr) (P : Nat → Option Fn) (hot : Nat → Bool) (x : Str) : Gk → Prop
  | .val d => ∃ u v, mg x = some u ∧ RelV v u ∧ ∀ ρ H, RD K ga ρ H d v
  | .fn k np => mg x = some (.ref (ga k)) ∧ W.keepIn K (.ref (ga k)) = true ∧ hot k = true ∧ ∃ f, P k = some f ∧ f.np = np
  | .blt => mg x = none
  | .gcd => mg x = some (.builtin "math.gcd")
  | .no => True
  | _ => False
structure DefH (K : W.Frag) (mg : Str → Option Value) (ga : Nat → Addr) (P : Nat → Option Fn) (hot : Nat → Bool) (k : Nat) (f : Fn) (x qual : Str) (st : Stmt) (fd : FuncData) (N ps : List Str) (gl : List (Str × Gk)) : Prop where
  F : L2.Fun K x qual st (ga k) fd
  S : FnScope N ps (defScope st)
  ok : cSs ⟨N, defScope st, gl, [], true, qual ++ ".<locals>." ++ "<lambda>", none, true⟩ f.body (defBody st) = true
  np : f.np = ps.length
  n : f.n = N.length
  B : Binds K fd ps []
  G : ∀ x g, gl.lookup x = some g → GGH K mg ga P hot x g
theorem fuelH {Pr : Program} {w : World} {K : W.Frag} {mg : Str → Option Value} {base : Heap} {ga : Nat → Addr} {fld : Nat → Str} {P : Nat → Option Fn} {hot : Nat → Bool} (hH : ∀ k f, hot k = true → P k = some f → ∃ x qual st fd N ps gl, DefH K mg ga P hot k f x qual st fd N ps gl) :
    ∀ n k f x qual st fd N ps gl, P k = some f → DefH K mg ga P hot k f x qual st fd N ps gl → L2H.FnH Pr w K mg base (L2N.CX Pr w) (3 * n + 2) (ga k) fd ps (spOf K ga fld (evCall P n) f.np k)
  | 0, k, f, x, qual, st, fd, N, ps, gl, e, d => by
    refine ⟨fun vs H Q E h => by rw [h.1, d.np], fun A outer s H args us vs Q E p hr hot hp he hb hv h => ?_⟩
    obtain ⟨_, ρ, ws, hd, _, _, _, h⟩ := h
    exact h.elim
  | n + 1, k, f, x, qual, st, fd, N, ps, gl, e, d => by
    have hpl : ps.length ≤ N.length := by have := congrArg List.length d.S.pre; rw [List.length_take] at this; omega
    obtain ⟨oc, od, kV, doc, pm, an, cdv, ct, osl, efd, lk, hcd⟩ := d.F.ex
    subst efd
    refine L2H.fn_ofH lk hcd d.S (fun vs H Q E h => by rw [h.1, d.np]) fun A outer s H vs Q E p h1 hr h => ?_
    refine ⟨TS1 K ga fld (fun cls d _ H => E cls d H) (evSs (evCall P n) f.body), ?_, body_ok e rfl d.n (by rw [d.np]; exact hpl) h⟩
    refine sSs (ck := ⟨N, defScope st, gl, [], true, qual ++ ".<locals>." ++ "<lambda>", none, true⟩) (cf := evCall P n) f.body (defBody st)
      ⟨⟨rfl, d.S.nd, rfl, (fun h => nomatch h), (fun _ => ⟨p, h1, List.mem_cons_self⟩), hr.mono (show 3 * n + 2 ≤ 3 * n + 4 by omega), by omega, (fun t ht => nomatch ht), L2N.takes_of rfl rfl rfl rfl, fun x g hx => ?_, fun _ _ => rfl⟩, passes_of rfl⟩ d.S.kind d.ok
    have gg := d.G x g hx
    cases g with
    | val d => exact gg
    | blt => exact gg
    | gcd => exact gg
    | no => exact gg
    | tryf k hs aft => exact gg.elim
    | tryf2 k hs aft => exact gg.elim
    | cls j => exact gg.elim
    | fn j np =>
      obtain ⟨m, kp, hj, f', e', hnp⟩ := gg
      obtain ⟨x', qual', st', fd', N', ps', gl', d'⟩ := hH j f' hj e'
      have F' := fuelH (Pr := Pr) (w := w) (base := base) (fld := fld) hH n j f' x' qual' st' fd' N' ps' gl' e' d'
      rw [hnp] at F'
      exact ⟨m, kp, fun _ => ⟨kp, fd', ps', F', d'.B⟩, fun h => nomatch h⟩
theorem fuel {Pr : Program} {w : World} {K : W.Frag} {mg : Str → Option Value} {base : Heap} {ga : Nat → Addr} {fld : Nat → Str} {P : Nat → Option Fn} {hot : Nat → Bool} {kw : List Kw} (hP : ∀ k f, P k = some f → ∃ x qual st fd N ps gl lt, DefOk Pr w K mg base ga fld P hot k f x qual st fd N ps gl kw lt)
    (hH : ∀ k f, hot k = true → P k = some f → ∃ x qual st fd N ps gl, DefH K mg ga P hot k f x qual st fd N ps gl) :
    ∀ n k f x qual st fd N ps gl lt, P k = some f → DefOk Pr w K mg base ga fld P hot k f x qual st fd N ps gl kw lt → FnOk Pr w K mg base (L2N.CX Pr w) (3 * n + 2) (ga k) fd ps (spOf K ga fld (evCall P n) f.np k)
  | 0, k, f, x, qual, st, fd, N, ps, gl, lt, e, d => by
    refine ⟨fun vs H Q E h => by rw [h.1, d.np], fun A outer s H args us vs Q E hr he hb hv h => ?_⟩
    obtain ⟨_, ρ, ws, hd, _, _, _, h⟩ := h
    exact h.elim
  | n + 1, k, f, x, qual, st, fd, N, ps, gl, lt, e, d => by
    have hpl : ps.length ≤ N.length := by have := congrArg List.length d.S.pre; rw [List.length_take] at this; omega
    have hL := d.L
    obtain ⟨oc, od, kV, doc, pm, an, cdv, ct, osl, efd, lk, hcd⟩ := d.F.ex
    subst efd
    refine fn_of lk hcd d.S (fun vs H Q E h => by rw [h.1, d.np]) fun A outer s H vs Q E hr h => ?_
    refine ⟨TS1 K ga fld (fun cls d _ H => E cls d H) (evSs (evCall P n) f.body), ?_, body_ok e rfl d.n (by rw [d.np]; exact hpl) h⟩
    refine sSs (ck := ⟨N, defScope st, gl, kw, true, qual ++ ".<locals>." ++ "<lambda>", lt, false⟩) (cf := evCall P n) f.body (defBody st)
      ⟨⟨rfl, d.S.nd, rfl, (fun _ => ⟨rfl, hr.mono (show 3 * n + 2 ≤ 3 * n + 4 by omega)⟩), (fun h => nomatch h), L2H.roomH_of (hr.mono (show 3 * n + 2 ≤ 3 * n + 4 by omega)), by omega, fun t ht => ⟨rfl, hr, (hL t ht).elim fun c ⟨e1, e2⟩ => ⟨c, e1, e2⟩⟩, L2N.takes_of rfl rfl rfl rfl, fun x g hx => ?_, fun _ _ => rfl⟩, passes_of rfl⟩ d.S.kind d.ok
    have gg := d.G x g hx
    cases g with
    | val d => exact gg
    | blt => exact gg
    | gcd => exact gg
    | no => exact gg
    | tryf k hs aft => exact gg
    | tryf2 k hs aft =>
      obtain ⟨m, kp, T2, hk⟩ := gg
      refine ⟨m, kp, T2, fun p hp => ?_⟩
      obtain ⟨h1, kp1, f', e', hnp⟩ := hk p hp
      obtain ⟨x', qual', st', fd', N', ps', gl', d'⟩ := hH _ f' h1 e'
      have F' := fuelH (Pr := Pr) (w := w) (base := base) (fld := fld) hH n p.2.1 f' x' qual' st' fd' N' ps' gl' e' d'
      rw [hnp] at F'
      exact ⟨kp1, fd', ps', F', d'.B⟩
    | fn j np =>
      obtain ⟨m, kp, f', e', hnp⟩ := gg
      obtain ⟨x', qual', st', fd', N', ps', gl', lt', d'⟩ := hP j f' e'
      have F' := fuel hP hH n j f' x' qual' st' fd' N' ps' gl' lt' e' d'
      rw [hnp] at F'
      exact ⟨m, kp, (fun h => nomatch h), fun _ => ⟨fd', ps', F', d'.B, d'.KB⟩⟩
    | cls j =>
      obtain ⟨m, T, fI, fd', ps', i1, i2, F', b'⟩ := gg
      exact ⟨m, T, fI, fd', ps', i1, i2, F', b'⟩
end Ev
end
section
/-! Ev31: from the head's facts. -/
namespace Ev
open PySem L2
theorem fun_of {K : W.Frag} {x qual : Str} {st : Stmt} {f : Addr} {fd : FuncData} (F : FunD K x qual (defArgs st) (defBody st) (defScope st) [] [] f fd) : L2.Fun K x qual st f fd := by
  have kp := F.kp
  obtain ⟨oc, od, dV, kV, doc, pm, an, cdv, ct, osl, e, lk, hcd, hD, hK⟩ := F.ex
  rcases hD with ⟨_, rfl⟩ | ⟨h, _⟩
  · exact ⟨⟨oc, od, kV, doc, pm, an, cdv, ct, osl, e, lk, hcd⟩, kp⟩
  · exact absurd rfl h
end Ev
end
section
set_option maxRecDepth 100000
set_option maxHeartbeats 4000000
/-! Ev33: what the head tells, by one Bool over the written part. -/
namespace Ev
open PySem L2 PySem.W
def clsBase : Nat := 500000
/-- the program's names: defs, classes with their fields, makers of lambdas -/
structure Dat where
  dn : List Str
  cn : List (Str × Str)
  tn : List Str
def Dat.ga (d : Dat) (K : Frag) (k : Nat) : Addr :=
  if k < clsBase then He.ga K (d.dn.getD k Str.empty)
  else if k < tabBase then He.ga K (d.cn.getD (k - clsBase) (Str.empty, Str.empty)).1
  else (He.cT K (d.tn.getD (k - tabBase) Str.empty, none)).2
def Dat.fld (d : Dat) (k : Nat) : Str := (d.cn.getD (k - clsBase) (Str.empty, Str.empty)).2
mutual
/-- a constant of the module, as it stands in the written part -/
def valB (K : Frag) : D → Value → Bool
  | .non, .none => true
  | .bl b, .bool c => b == c
  | .int i, .int j _ => decide (i = j)
  | .str s, .str t _ => decide (s = t)
  | .tup l, .ref a => match K.lookup a with
    | some ⟨.type c, _, .seq its _, _⟩ => decide (c = "tuple") && (decide (its.size ≤ sizeLine) && (decide (l.length ≤ SZ) && valsB K l its.toList))
    | _ => false
  | .flst l, .ref a => match K.lookup a with
    | some ⟨.type c, none, .seq its _, _⟩ => decide (c = "list") && (decide (its.size ≤ sizeLine) && (decide (l.length ≤ SZ) && valsB K l its.toList))
    | _ => false
  | _, _ => false
def valsB (K : Frag) : List D → List Value → Bool
  | [], [] => true
  | x :: xs, u :: us => valB K x u && valsB K xs us
  | _, _ => false
end
mutual
theorem valB_ok {K : Frag} : ∀ (d : D) (u : Value), valB K d u = true → ∃ v, RelV v u ∧ ∀ ga ρ H, RD K ga ρ H d v
  | .non, u, h => by
    cases u <;> simp [valB] at h
    exact ⟨.non, rfl, fun _ _ _ => by simp [RD]⟩
  | .bl b, u, h => by
    cases u <;> simp [valB] at h
    subst h
    exact ⟨.bl b, rfl, fun _ _ _ => by simp [RD]⟩
  | .int i, u, h => by
    cases u <;> simp [valB] at h
    subst h
    exact ⟨.int i, ⟨_, rfl⟩, fun _ _ _ => by simp [RD]⟩
  | .str s, u, h => by
    cases u <;> simp [valB] at h
    subst h
    exact ⟨.str s, ⟨_, rfl⟩, fun _ _ _ => by simp [RD]⟩
  | .tup l, u, h => by
    cases u <;> simp only [valB, Bool.false_eq_true] at h
    rename_i a
    split at h
    · rename_i c od its n sl lk
      simp only [Bool.and_eq_true, decide_eq_true_eq] at h
      obtain ⟨rfl, h1, h2, h3⟩ := h
      obtain ⟨vs, rv, rd⟩ := valsB_ok l its.toList h3
      exact ⟨.ref a, rfl, fun ga ρ H => by simp only [RD]; exact ⟨a, vs, rfl, .inr ⟨_, its, n, lk, rfl, rfl, h1, rv⟩, rd ga ρ H, h2⟩⟩
    · cases h
  | .flst l, u, h => by
    cases u <;> simp only [valB, Bool.false_eq_true] at h
    rename_i a
    split at h
    · rename_i c its n sl lk
      simp only [Bool.and_eq_true, decide_eq_true_eq] at h
      obtain ⟨rfl, h1, h2, h3⟩ := h
      obtain ⟨vs, rv, rd⟩ := valsB_ok l its.toList h3
      exact ⟨.ref a, rfl, fun ga ρ H => by simp only [RD]; exact ⟨a, vs, rfl, .inr ⟨_, its, n, lk, rfl, rfl, rfl, h1, rv⟩, rd ga ρ H, h2⟩⟩
    · cases h
  | .ty _, u, h => by cases u <;> simp [valB] at h
  | .gf _, u, h => by cases u <;> simp [valB] at h
  | .ref _, u, h => by cases u <;> simp [valB] at h
theorem valsB_ok {K : Frag} : ∀ (l : List D) (us : List Value), valsB K l us = true → ∃ vs, Vals vs us ∧ ∀ ga ρ H, RDs K ga ρ H l vs
  | [], [], h => ⟨[], .nil, fun _ _ _ => by simp [RDs]⟩
  | [], _ :: _, h => by simp [valsB] at h
  | _ :: _, [], h => by simp [valsB] at h
  | x :: xs, u :: us, h => by
    simp only [valsB, Bool.and_eq_true] at h
    obtain ⟨v, r, d⟩ := valB_ok x u h.1
    obtain ⟨vs, rs, ds⟩ := valsB_ok xs us h.2
    exact ⟨v :: vs, .cons r rs, fun ga ρ H => RDs.cons (d ga ρ H) (ds ga ρ H)⟩
end
/-- an own exception's class -/
def oexB (K : Frag) (C : Addr) : Bool := (match K.lookup C with
  | some ⟨.type t, _, .cls ⟨_, _, .ref c :: bm, _, _, hd, _, _, _, _, del⟩, sl⟩ => decide (t = "type") && (hd && (!del && (decide (c = C) && (HandSPX.refsVE bm && (match sl.toList with
    | [_, _, _, _, some (.builtin id), _] => decide (id = "ValueError.__new__")
    | _ => false)))))
  | _ => false) && (decide (findIn K (.ref C) "__setattr__" = some (some (.builtin "object.__setattr__"))) && (decide (subIn K (.ref C) (.type "BaseException") = some true) && (decide (typeIn K (.ref C) = some (.type "type")) && keepIn K (.ref C))))
theorem oexB_ok {K : Frag} {C : Addr} (h : oexB K C = true) : OexC K C := by
  unfold oexB at h
  simp only [Bool.and_eq_true, decide_eq_true_eq] at h
  obtain ⟨h0, h1, h2, h3, h4⟩ := h
  refine ⟨?_, h1, h2, h3, h4⟩
  split at h0
  · rename_i t dd nm bs c bm ns qn hd sn sb ab col del sl lk
    simp only [Bool.and_eq_true, decide_eq_true_eq] at h0
    obtain ⟨e1, e2, e3, e4, e5, e6⟩ := h0
    split at e6
    · rename_i k0 k1 k2 k3 id k5 es
      have e6 := of_decide_eq_true e6
      have es' : sl = #[k0, k1, k2, k3, some (.builtin id), k5] := by rw [← Array.toList_inj]; exact es
      have e3 : del = false := by simpa using e3
      subst e1 e2 e3 e4 e6 es'
      exact ⟨nm, qn, ns, bs, bm, sn, sb, ab, col, dd, k0, k1, k2, k3, k5, lk, e5⟩
    · cases e6
  · cases h0
/-! ### the facts of a name -/
def npB (P : Nat → Option Fn) (k np : Nat) : Bool := match P k with
  | some f => f.np == np
  | none => false
def ggB (d : Dat) (P : Nat → Option Fn) (hot : Nat → Bool) (cls : List Nat) (K : Frag) (x : Str) : Gk → Bool
  | .val dd => match nsIn K mainGlobals x with
    | some (some u) => valB K dd u
    | _ => false
  | .fn k np => He.eqO (nsIn K mainGlobals x) (some (some (.ref (d.ga K k)))) && (keepIn K (.ref (d.ga K k)) && npB P k np)
  | .cls k => He.eqO (nsIn K mainGlobals x) (some (some (.ref (d.ga K k)))) && (oexB K (d.ga K k) && cls.contains k)
  | .blt => He.eqO (nsIn K mainGlobals x) (some none)
  | .gcd => He.eqO (nsIn K mainGlobals x) (some (some (.builtin "math.gcd")))
  | .tryf k _ _ => He.eqO (nsIn K mainGlobals x) (some (some (.ref (d.ga K k)))) && keepIn K (.ref (d.ga K k))
  | .tryf2 k hs _ => He.eqO (nsIn K mainGlobals x) (some (some (.ref (d.ga K k)))) && (keepIn K (.ref (d.ga K k)) && hs.all fun p => hot p.2.1 && (keepIn K (.ref (d.ga K p.2.1)) && npB P p.2.1 2))
  | .no => true
/-- of a def that is called while an exception is handled -/
def ggHB (d : Dat) (P : Nat → Option Fn) (hot : Nat → Bool) (K : Frag) (x : Str) : Gk → Bool
  | .val dd => match nsIn K mainGlobals x with
    | some (some u) => valB K dd u
    | _ => false
  | .fn k np => He.eqO (nsIn K mainGlobals x) (some (some (.ref (d.ga K k)))) && (keepIn K (.ref (d.ga K k)) && (hot k && npB P k np))
  | .blt => He.eqO (nsIn K mainGlobals x) (some none)
  | .gcd => He.eqO (nsIn K mainGlobals x) (some (some (.builtin "math.gcd")))
  | .no => true
  | _ => false
theorem npB_ok {P : Nat → Option Fn} {k np : Nat} (h : npB P k np = true) : ∃ f, P k = some f ∧ f.np = np := by
  unfold npB at h
  split at h
  · rename_i f e
    exact ⟨f, e, by simpa using h⟩
  · cases h
/-- what a class's making promises -/
def ClsF (d : Dat) (Pr : Program) (w : World) (K : Frag) (mg : Str → Option Value) (base : Heap) (k : Nat) : Prop :=
  ∃ fI fd ps, findIn K (.ref (d.ga K k)) (Str.ofString "__init__") = some (some (.ref fI)) ∧ typeIn K (.ref fI) = some (.type "function") ∧ FnOk Pr w K mg base (L2N.CX Pr w) 1 fI fd ps (spInit (d.ga K k) (d.fld k)) ∧ Binds K fd ps []
def isTry : Gk → Bool
  | .tryf _ _ _ => true
  | .tryf2 _ _ _ => true
  | _ => false
def TryP (d : Dat) (K : Frag) (mg : Str → Option Value) (p : Str × Gk) : Prop := match p.2 with
  | .tryf k hs aft => TryOk (d.ga K) d.fld K mg p.1 k hs aft
  | .tryf2 k hs aft => Try2 (d.ga K) d.fld K mg p.1 k hs aft
  | _ => True
theorem lookup_mem : ∀ {l : List (Str × Gk)} {x : Str} {g : Gk}, l.lookup x = some g → (x, g) ∈ l
  | [], _, _, h => by simp at h
  | (y, u) :: r, x, g, h => by
    rw [List.lookup_cons] at h
    cases e : (x == y) with
    | true =>
      rw [e] at h
      cases h
      rw [beq_iff_eq.mp e]
      exact List.mem_cons_self
    | false =>
      rw [e] at h
      exact List.mem_cons_of_mem _ (lookup_mem h)
theorem gg_of {d : Dat} {Pr : Program} {w : World} {K : Frag} {mg : Str → Option Value} {base : Heap} {P : Nat → Option Fn} {hot : Nat → Bool} {cls : List Nat} {gl : List (Str × Gk)} (X : K.In base) (G : base.Ns mainGlobals mg)
    (hB : (gl.all fun p => ggB d P hot cls K p.1 p.2) = true) (hC : ∀ k ∈ cls, ClsF d Pr w K mg base k) (hT : ∀ p ∈ gl.filter fun p => isTry p.2, TryP d K mg p) :
    ∀ x g, gl.lookup x = some g → GG Pr w K mg base (d.ga K) d.fld P hot x g := by
  intro x g hx
  have hm := lookup_mem hx
  have hb := List.all_eq_true.mp hB _ hm
  cases g with
  | val dd =>
    simp only [ggB] at hb
    split at hb
    · rename_i u e
      obtain ⟨v, r, rd⟩ := valB_ok dd u hb
      exact ⟨u, v, mg_of X G e, r, fun ρ H => rd _ ρ H⟩
    · cases hb
  | fn k np =>
    simp only [ggB, Bool.and_eq_true] at hb
    obtain ⟨h1, h2, h3⟩ := hb
    refine ⟨mg_of X G (He.eqO_ok h1), h2, ?_⟩
    unfold npB at h3
    split at h3
    · rename_i f e
      exact ⟨f, e, by simpa using h3⟩
    · cases h3
  | cls k =>
    simp only [ggB, Bool.and_eq_true] at hb
    obtain ⟨h1, h2, h3⟩ := hb
    exact ⟨mg_of X G (He.eqO_ok h1), oexB_ok h2, hC k (by simpa using h3)⟩
  | blt => exact mg_none_of X G (He.eqO_ok hb)
  | gcd => exact mg_of X G (He.eqO_ok hb)
  | no => trivial
  | tryf k hs aft =>
    simp only [ggB, Bool.and_eq_true] at hb
    exact ⟨mg_of X G (He.eqO_ok hb.1), hb.2, hT _ (List.mem_filter.mpr ⟨hm, rfl⟩)⟩
  | tryf2 k hs aft =>
    simp only [ggB, Bool.and_eq_true] at hb
    refine ⟨mg_of X G (He.eqO_ok hb.1), hb.2.1, hT _ (List.mem_filter.mpr ⟨hm, rfl⟩), fun p hp => ?_⟩
    have := List.all_eq_true.mp hb.2.2 p hp
    simp only [Bool.and_eq_true] at this
    exact ⟨this.1, this.2.1, npB_ok this.2.2⟩
theorem ggh_of {d : Dat} {K : Frag} {mg : Str → Option Value} {base : Heap} {P : Nat → Option Fn} {hot : Nat → Bool} {gl : List (Str × Gk)} (X : K.In base) (G : base.Ns mainGlobals mg) (hB : (gl.all fun p => ggHB d P hot K p.1 p.2) = true) :
    ∀ x g, gl.lookup x = some g → GGH K mg (d.ga K) P hot x g := by
  intro x g hx
  have hb := List.all_eq_true.mp hB _ (lookup_mem hx)
  cases g with
  | val dd =>
    simp only [ggHB] at hb
    split at hb
    · rename_i u e
      obtain ⟨v, r, rd⟩ := valB_ok dd u hb
      exact ⟨u, v, mg_of X G e, r, fun ρ H => rd _ ρ H⟩
    · cases hb
  | fn k np =>
    simp only [ggHB, Bool.and_eq_true] at hb
    exact ⟨mg_of X G (He.eqO_ok hb.1), hb.2.1, hb.2.2.1, npB_ok hb.2.2.2⟩
  | blt => exact mg_none_of X G (He.eqO_ok hb)
  | gcd => exact mg_of X G (He.eqO_ok hb)
  | no => trivial
  | cls k => cases hb
  | tryf k hs aft => cases hb
  | tryf2 k hs aft => cases hb
/-! ### keyword calls -/
theorem vals_get : ∀ {vs : List V} {us : List Value} (i : Nat), Vals vs us → (∃ v u, vs[i]? = some v ∧ us[i]? = some u ∧ RelV v u) ∨ (vs[i]? = none ∧ us[i]? = none)
  | _, _, i, .nil => .inr ⟨by simp, by simp⟩
  | v :: vs, u :: us, 0, .cons r rs => .inl ⟨v, u, rfl, rfl, r⟩
  | v :: vs, u :: us, i + 1, .cons r rs => by simpa using vals_get i rs
theorem vals_app : ∀ {vs : List V} {us : List Value} {zs : List V} {ws : List Value}, Vals vs us → Vals zs ws → Vals (vs ++ zs) (us ++ ws)
  | _, _, _, _, .nil, q => q
  | _, _, _, _, .cons r rs, q => .cons r (vals_app rs q)
theorem vals_perm {vs : List V} {us : List Value} (r : Vals vs us) : ∀ perm : List Nat, Vals (permL perm vs) (permL perm us)
  | [] => .nil
  | i :: perm => by
    have IH := vals_perm r perm
    rcases vals_get i r with ⟨v, u, h1, h2, h3⟩ | ⟨h1, h2⟩
    · simp only [permL, List.filterMap_cons, h1, h2]
      exact .cons h3 IH
    · simp only [permL, List.filterMap_cons, h1, h2]
      exact IH
theorem kb_of {K : Frag} {x qual : Str} {params : Arguments} {body : List Stmt} {scope : Scope} {f : Addr} {fd : FuncData} {ps : List Str} {n : Nat} {ks : List Str} {perm : List Nat} (F : FunD K x qual params body scope [] [] f fd)
    (h : ∀ (kV doc pm : Value) (an : Option Addr) (cdv ct : Value) (us ws : List Value), us.length = n → ws.length = ks.length → bindArgs (fnOf x qual params body scope .none kV doc pm an cdv ct) ⟨us, ks.zip ws⟩ = pure (ps.zip (permL perm (us ++ ws)))) :
    KBn K fd ps n ks (fun us ws => permL perm (us ++ ws)) (fun vs zs => permL perm (vs ++ zs)) := by
  obtain ⟨oc, od, dV, kV, doc, pm, an, cdv, ct, osl, rfl, lk, hcd, hD, hK⟩ := F.ex
  rcases hD with ⟨_, rfl⟩ | ⟨e, _⟩
  · exact ⟨fun s us ws _ h1 h2 => .of_eq (h kV doc pm an cdv ct us ws h1 h2), fun r q => vals_perm (vals_app r q) perm⟩
  · exact absurd rfl e
/-! ### a def that catches -/
theorem tryOk_of {d : Dat} {K : Frag} {mg : Str → Option Value} {base : Heap} {x : Str} {k : Nat} {hs : List (Nat × SE)} {aft : SE} {params : Arguments} {body : List Stmt} {scope : Scope} {fd : FuncData} {a n : Str} {Ng : List Str} {i : Nat} {gl : List (Str × Nat)} {cl : List Nat}
    (X : K.In base) (G : base.Ns mainGlobals mg) (F : FunD K x x params body scope [] [] (d.ga K k) fd) (B : Binds K fd [a] []) (S : FnScope Ng [a] scope) (h0 : Ng[0]? = some a) (hv : Vis scope a) (hn : nm a = true)
    (hx : (cl.all fun c => xfB K (d.ga K c) && (He.eqO (findIn K (.ref (d.ga K c)) (d.fld c)) (some none) && cl.all fun e => decide (exmOne K (.ref (d.ga K c)) (.ref (d.ga K e)) = some (c == e)))) = true)
    (hg : (gl.all fun p => He.eqO (nsIn K mainGlobals p.1) (some (some (.ref (d.ga K p.2))))) = true)
    (hi : Ng[i]? = some n) (hl : scope.names.lookup n = some .local) (hm : nm n = true) (hc : (hs.all fun p => cl.contains p.1) = true) (hk : cTry scope gl d.fld a n hs aft body = true) : TryOk (d.ga K) d.fld K mg x k hs aft := by
  obtain ⟨oc, od, dV, kV, doc, pm, an, cdv, ct, osl, rfl, lk, hcd, hD, hK⟩ := F.ex
  have hx' := List.all_eq_true.mp hx
  refine ⟨oc, dV, kV, doc, pm, cdv, ct, od, an, osl, params, body, scope, a, n, Ng, i, gl, cl, lk, hcd, B, S, h0, hv, hn, ⟨fun c m => ?_, fun c m => ?_, fun c m e m2 => ?_⟩, hi, hl, hm, fun y c hy => ?_, fun p m => by simpa using List.all_eq_true.mp hc p m, hk⟩
  · have := hx' c m
    simp only [Bool.and_eq_true] at this
    exact xfB_ok this.1
  · have := hx' c m
    simp only [Bool.and_eq_true] at this
    exact He.eqO_ok this.2.1
  · have := hx' c m
    simp only [Bool.and_eq_true] at this
    exact of_decide_eq_true (List.all_eq_true.mp this.2.2 e m2)
  · have : (y, c) ∈ gl := by
      clear hg hk
      induction gl with
      | nil => simp at hy
      | cons q r ih =>
        obtain ⟨z, e⟩ := q
        rw [List.lookup_cons] at hy
        cases eb : (y == z) with
        | true => rw [eb] at hy; cases hy; rw [beq_iff_eq.mp eb]; exact List.mem_cons_self
        | false => rw [eb] at hy; exact List.mem_cons_of_mem _ (ih hy)
    exact mg_of X G (He.eqO_ok (List.all_eq_true.mp hg _ this))
theorem lookup_nat : ∀ {l : List (Str × Nat)} {y : Str} {c : Nat}, l.lookup y = some c → (y, c) ∈ l
  | [], _, _, h => by simp at h
  | (z, e) :: r, y, c, h => by
    rw [List.lookup_cons] at h
    cases eb : (y == z) with
    | true => rw [eb] at h; cases h; rw [beq_iff_eq.mp eb]; exact List.mem_cons_self
    | false => rw [eb] at h; exact List.mem_cons_of_mem _ (lookup_nat h)
theorem try2_of {d : Dat} {K : Frag} {mg : Str → Option Value} {base : Heap} {x : Str} {k : Nat} {hs : Cl2} {aft : D} {params : Arguments} {body : List Stmt} {scope : Scope} {fd : FuncData} {a b n : Str} {Ng : List Str} {i : Nat} {gl : List (Str × Nat)} {cl : List Nat}
    (X : K.In base) (G : base.Ns mainGlobals mg) (F : FunD K x x params body scope [] [] (d.ga K k) fd) (B : Binds K fd [a, b] []) (S : FnScope Ng [a, b] scope) (h0 : Ng[0]? = some a) (h1 : Ng[1]? = some b) (hv : Vis scope a) (hvb : Vis scope b) (hn : nm a = true) (hnb : nm b = true)
    (hx : (cl.all fun c => xfB K (d.ga K c) && (He.eqO (findIn K (.ref (d.ga K c)) (d.fld c)) (some none) && cl.all fun e => decide (exmOne K (.ref (d.ga K c)) (.ref (d.ga K e)) = some (c == e)))) = true)
    (hg : (gl.all fun p => He.eqO (nsIn K mainGlobals p.1) (some (some (.ref (d.ga K p.2))))) = true)
    (hi : Ng[i]? = some n) (hi2 : 2 ≤ i) (hl : scope.names.lookup n = some .local) (hm : nm n = true) (hc : (hs.all fun p => cl.contains p.1) = true) (hk : cTry2 scope gl d.fld a b n hs aft body = true) : Try2 (d.ga K) d.fld K mg x k hs aft := by
  obtain ⟨oc, od, dV, kV, doc, pm, an, cdv, ct, osl, rfl, lk, hcd, hD, hK⟩ := F.ex
  have hx' := List.all_eq_true.mp hx
  refine ⟨⟨oc, dV, kV, doc, pm, cdv, ct, od, an, osl, params, body, scope, a, b, n, Ng, i, gl, cl, lk, hcd, B, S, h0, h1, hv, hvb, hn, hnb, ⟨fun c m => ?_, fun c m => ?_, fun c m e m2 => ?_⟩, hi, hi2, hl, hm, fun y c hy => ?_, fun p m => by simpa using List.all_eq_true.mp hc p m, hk⟩⟩
  · have := hx' c m
    simp only [Bool.and_eq_true] at this
    exact xfB_ok this.1
  · have := hx' c m
    simp only [Bool.and_eq_true] at this
    exact He.eqO_ok this.2.1
  · have := hx' c m
    simp only [Bool.and_eq_true] at this
    exact of_decide_eq_true (List.all_eq_true.mp this.2.2 e m2)
  · exact mg_of X G (He.eqO_ok (List.all_eq_true.mp hg _ (lookup_nat hy)))
/-! ### the law's start -/
theorem rds_ints {K : Frag} {ga : Nat → Addr} {ρ : List Addr} {H : Hp} : ∀ ns : List Int, RDs K ga ρ H (ns.map D.int) (ns.map V.int)
  | [] => RDs.nil
  | i :: ns => RDs.cons (by simp [RD]) (rds_ints ns)
theorem start_ok {K : Frag} {ga : Nat → Addr} {fld : Nat → Str} {P : Nat → Option Fn} {n k : Nat} {H : Hp} {a : Addr} {ns : List Int} {qs : List Str} (hq : ∀ j, j < qs.length → H (ga (tabBase + j)) = some (.tbl #[])) (nd : ((List.range qs.length).map fun j => ga (tabBase + j)).Nodup)
    (hS : SqL K H a (ns.map V.int)) (hz : ns.length ≤ SZ)
    (h : ∀ (h0 : List C) (s : D), (∀ (j : Nat) (q : Str), qs[j]? = some q → h0[j]? = some (.tbl j q)) → (∀ e, vwD (h0 ++ e) s = some (.c (.lst (ns.map .int))) ∨ vwD (h0 ++ e) s = some (.d (.flst (ns.map .int)))) → evCall P n k [.d s] h0 = .ok (.d (.bl true)) h0) :
    spOf K ga fld (evCall P n) 1 k [.ref a] H (fun v _ => v = .bl true) fun _ _ _ => False := by
  have cells : ∀ (ρ : List Addr) (hd : List C), (∀ j, j < qs.length → ρ[j]? = some (ga (tabBase + j))) → ∀ (m : Nat) (c : C), m < qs.length → (qs.zipIdx.map fun p => C.tbl p.2 p.1)[m]? = some c → ∃ b o, ρ[m]? = some b ∧ H b = some o ∧ ROc K ga ρ H c o := by
    intro ρ hd hρ m c hm e
    rw [List.getElem?_map, List.getElem?_zipIdx, List.getElem?_eq_getElem hm] at e
    simp at e
    subst e
    exact ⟨_, _, hρ m hm, hq m hm, .inr ⟨m, _, rfl, hρ m hm, #[], rfl, trivial, fun pos cv z => by cases z⟩⟩
  have tabs : ∀ (j : Nat) (q : Str) (e : List C), qs[j]? = some q → ((qs.zipIdx.map fun p => C.tbl p.2 p.1) ++ e)[j]? = some (.tbl j q) := by
    intro j q e hj
    have hm := (List.getElem?_eq_some_iff.mp hj).1
    rw [List.getElem?_append_left (by simpa using hm), List.getElem?_map, List.getElem?_zipIdx, hj]
    simp
  have rho : ∀ (e : List Addr) (j : Nat), j < qs.length → (((List.range qs.length).map fun j => ga (tabBase + j)) ++ e)[j]? = some (ga (tabBase + j)) := by
    intro e j hj
    rw [List.getElem?_append_left (by simpa using hj), List.getElem?_map, List.getElem?_range hj]; rfl
  -- a list that nobody changes
  have froz : SqF K H a (ns.map V.int) → spOf K ga fld (evCall P n) 1 k [.ref a] H (fun v _ => v = .bl true) fun _ _ _ => False := by
    intro hF
    refine ⟨rfl, (List.range qs.length).map fun j => ga (tabBase + j), [.d (.flst (ns.map .int))], qs.zipIdx.map fun p => C.tbl p.2 p.1, ⟨rfl, fun i x e => by simp at e, fun i c e => by simp at e, fun i j c c' a e => by simp at e, fun i c a e => by simp at e, nd, by simp, fun m c e => ?_, trivial⟩, ?_, by simp, ?_⟩
    · have hm : m < qs.length := by have := (List.getElem?_eq_some_iff.mp e).1; simpa using this
      exact cells _ [] (fun j hj => by simpa using rho [] j hj) m c hm e
    · refine ⟨.ref a, [], rfl, ?_, rfl, fun b ⟨c, z, _⟩ => by cases z⟩
      show RD K ga _ H (.flst (ns.map .int)) (.ref a)
      simp only [RD]
      exact ⟨a, _, rfl, hF, rds_ints ns, by simpa using hz⟩
    · rw [h _ _ (fun j q hj => by simpa using tabs j q [] hj) (fun e => .inr rfl)]
      exact ⟨by simp, fun ρ' H' v _ _ _ _ r => by simpa [wAv, AvR, RD] using r⟩
  rcases hS with (hS | ⟨o, hS⟩) | hS
  · -- a cell
    have na : a ∉ (List.range qs.length).map fun j => ga (tabBase + j) := fun hm => by
      obtain ⟨j, hj, e⟩ := List.mem_map.mp hm
      have := hq j (List.mem_range.mp hj)
      rw [e, hS] at this
      cases this
    refine ⟨rfl, ((List.range qs.length).map fun j => ga (tabBase + j)) ++ [a], [.d (.ref qs.length)], (qs.zipIdx.map fun p => C.tbl p.2 p.1) ++ [.lst (ns.map .int)], ⟨rfl, fun i x e => by simp at e, fun i c e => by simp at e, fun i j c c' a e => by simp at e, fun i c a e => by simp at e, ?_, by simp, fun m c e => ?_, trivial⟩, ?_, by simp, ?_⟩
    · rw [List.nodup_append]
      exact ⟨nd, by simp, fun x hx y hy => by simp at hy; subst hy; exact fun z => na (z ▸ hx)⟩
    · by_cases hm : m < qs.length
      · rw [List.getElem?_append_left (by simpa using hm)] at e
        exact cells _ [] (rho [a]) m c hm e
      · have hl := (List.getElem?_eq_some_iff.mp e).1
        simp at hl
        have hm2 : m = qs.length := by omega
        subst hm2
        rw [List.getElem?_append_right (by simp)] at e
        simp at e
        subst e
        refine ⟨a, _, ?_, hS, .inl ⟨_, rfl, rds_ints ns, by simpa using hz⟩⟩
        rw [List.getElem?_append_right (by simp)]
        simp
    · refine ⟨.ref a, [], rfl, ?_, rfl, fun b ⟨c, z, _⟩ => by cases z⟩
      show RD K ga _ H (.ref qs.length) (.ref a)
      simp only [RD]
      refine ⟨a, ?_, rfl⟩
      rw [List.getElem?_append_right (by simp)]
      simp
    · rw [h _ _ (fun j q hj => tabs j q _ hj) (fun e => .inl ?_)]
      · exact ⟨by simp, fun ρ' H' v _ _ _ _ r => by simpa [wAv, AvR, RD] using r⟩
      · have : ((qs.zipIdx.map fun p => C.tbl p.2 p.1) ++ [C.lst (ns.map .int)] ++ e)[qs.length]? = some (C.lst (ns.map .int)) := by
          rw [List.append_assoc, List.getElem?_append_right (by simp)]
          simp
        simp only [vwD, this]
  · exact froz (.inl ⟨o, hS⟩)
  · exact froz (.inr hS)
end Ev
end
section
set_option maxRecDepth 100000
/-! EvS: the evaluator's equations for simp, and what stands often. -/
namespace Ev
open PySem
section
variable {α β : Type} (cf : CF) (σ : List W) (h : List C)
@[simp] theorem s_bok (a : α) (f : α → M β) : (R.ok a σ h).bnd f = f a σ h := (rfl)
@[simp] theorem s_bex (c : Nat) (d : D) (f : α → M β) : (R.ex c d σ h : R α).bnd f = .ex c d σ h := (rfl)
@[simp] theorem s_bbad (f : α → M β) : (R.bad : R α).bnd f = .bad := (rfl)
@[simp] theorem s_bnd (m : M α) (f : α → M β) : bnd m f σ h = (m σ h).bnd f := (rfl)
@[simp] theorem s_ret (a : α) : Ev.ret a σ h = .ok a σ h := (rfl)
@[simp] theorem s_fail : (Ev.fail : M α) σ h = .bad := (rfl)
@[simp] theorem s_ofS (a : α) : ofO (some a) = Ev.ret a := (rfl)
@[simp] theorem s_ofN : (ofO none : M α) = Ev.fail := (rfl)
@[simp] theorem s_fok (a : α) (f : α → List W → List C → F) : (R.ok a σ h).toF f = f a σ h := (rfl)
@[simp] theorem s_fex (c : Nat) (d : D) (f : α → List W → List C → F) : (R.ex c d σ h : R α).toF f = .ex c d σ h := (rfl)
@[simp] theorem s_fbad (f : α → List W → List C → F) : (R.bad : R α).toF f = .bad := (rfl)
@[simp] theorem s_var (i : Nat) : ev cf (.var i) σ h = match σ[i]? with
    | some (.d x) => .ok (.d x) σ h
    | some (.c _) => .ok (.s i) σ h
    | _ => .bad := (rfl)
@[simp] theorem s_cst (x : D) : ev cf (.cst x) = Ev.ret (.d x) := (rfl)
@[simp] theorem s_op (o : O) (es : Exs) : ev cf (.op o es) σ h = (evs cf es σ h).bnd fun as => osem o as := (rfl)
@[simp] theorem s_and (a b : Ex) : ev cf (.and_ a b) σ h = ((ev cf a σ h).bnd isT).bnd fun c => if c then ev cf b else Ev.ret (.d (.bl false)) := (rfl)
@[simp] theorem s_or (a b : Ex) : ev cf (.or_ a b) σ h = ((ev cf a σ h).bnd isT).bnd fun c => if c then Ev.ret (.d (.bl true)) else ev cf b := (rfl)
@[simp] theorem s_not (a : Ex) : ev cf (.not_ a) σ h = ((ev cf a σ h).bnd isT).bnd fun c => Ev.ret (.d (.bl (!c))) := (rfl)
@[simp] theorem s_ite (c a b : Ex) : ev cf (.ite c a b) σ h = ((ev cf c σ h).bnd isT).bnd fun k => if k then ev cf a else ev cf b := (rfl)
@[simp] theorem s_chain (o1 o2 : CmpOp) (a b c : Ex) : ev cf (.chain o1 o2 a b c) σ h = (ev cf a σ h).bnd fun x => bnd (ev cf b) fun y => bnd (bnd (osem (.cmp o1) [x, y]) isT) fun k =>
      if k then bnd (ev cf c) fun z => osem (.cmp o2) [y, z] else Ev.ret (.d (.bl false)) := (rfl)
@[simp] theorem s_tup (es : Exs) : ev cf (.tup es) σ h = (evs cf es σ h).bnd fun as => bnd (toDs as) fun ds => Ev.ret (.d (.tup ds)) := (rfl)
@[simp] theorem s_lst (es : Exs) : ev cf (.lst es) σ h = (evs cf es σ h).bnd fun as => bnd (toDs as) fun ds => Ev.ret (.c (.lst ds)) := (rfl)
@[simp] theorem s_dict (ks : List D) (es : Exs) : ev cf (.dict ks es) σ h = (evs cf es σ h).bnd fun as => bnd (toDs as) fun ds => Ev.ret (.c (.dic ((ks.zip ds).foldl (fun kvs p => putK kvs p.1 p.2) []))) := (rfl)
@[simp] theorem s_call (k : Nat) (es : Exs) : ev cf (.call k es) σ h = (evs cf es σ h).bnd fun as => bnd (toArgs as) fun ws => callK cf k ws := (rfl)
@[simp] theorem s_callk (k : Nat) (perm : List Nat) (es : Exs) : ev cf (.callk k perm es) σ h = (evs cf es σ h).bnd fun as => bnd (toArgs as) fun ws => bnd (ofO (permW ws perm)) fun vs => callK cf k vs := (rfl)
@[simp] theorem s_callv (i : Nat) (cs : List Nat) (es : Exs) : ev cf (.callv i cs es) σ h = match σ[i]? with
    | some (.d (.gf k)) => if cs.contains k then (evs cf es σ h).bnd (fun as => bnd (toArgs as) fun ws => callK cf k ws) else .bad
    | _ => .bad := (rfl)
@[simp] theorem s_lrng (es : Exs) : ev cf (.lrng es) σ h = (evs cf es σ h).bnd fun as => bnd (views as) fun vs => ofO ((rngOf vs).map fun l => Av.c (.lst l)) := (rfl)
@[simp] theorem s_lam2 (g t : Nat) (q : Str) (i : Nat) (body : Ex) (hs : List (Nat × Nat × D × D)) (aft : D) : ev cf (.lam2 g t q i body hs aft) σ h = if isTab t q h then match σ[i]? with
    | some (.d y) => caught2 cf hs aft y (ev cf body σ h)
    | _ => .bad
    else .bad := (rfl)
@[simp] theorem s_slc (a b c : Ex) : ev cf (.slc a b c) σ h = (ev cf a σ h).bnd fun x => bnd (ev cf b) fun y => bnd (intOf y) fun i => bnd (ev cf c) fun z => bnd (intOf z) fun j => bnd (view x) fun u => ofO (cutV u (some i) (some j)) := (rfl)
@[simp] theorem s_lam (g t : Nat) (q : Str) (body : Ex) (hs : List (Nat × SE)) (aft : SE) : ev cf (.lam g t q body hs aft) σ h = if isTab t q h then caught hs aft (ev cf body σ h) else .bad := (rfl)
@[simp] theorem s_mth (m : Mt) (o : Ex) (es : Exs) : ev cf (.mth m o es) σ h = (ev cf o σ h).bnd fun x => bnd (chkL x) fun _ => bnd (evs cf es) fun as => msem m x as := (rfl)
@[simp] theorem s_comp (own : List Nat) (tg : Tg) (it : It) (tests : Exs) (elt : Ex) : ev cf (.comp own tg it tests elt) σ h = (evIt cf false it σ h).bnd fun s => bnd (wiping own (stands s.1 s.2.1) (compL own tg (evT cf tests) (ev cf elt) (stands s.1 s.2.1) s.2.2)) fun ys => Ev.ret (.c (.lst ys)) := (rfl)
@[simp] theorem s_nil : evs cf .nil = Ev.ret [] := (rfl)
@[simp] theorem s_cons (e : Ex) (es : Exs) : evs cf (.cons e es) σ h = (ev cf e σ h).bnd fun a => bnd (evs cf es) fun as => Ev.ret (a :: as) := (rfl)
@[simp] theorem s_tnil : evT cf .nil = Ev.ret true := (rfl)
@[simp] theorem s_tcons (e : Ex) (es : Exs) : evT cf (.cons e es) σ h = ((ev cf e σ h).bnd isT).bnd fun b => if b then evT cf es else Ev.ret false := (rfl)
@[simp] theorem s_vnil : views [] = Ev.ret [] := (rfl)
@[simp] theorem s_vcons (a : Av) (as : List Av) : views (a :: as) σ h = (view a σ h).bnd fun v => bnd (views as) fun vs => Ev.ret (v :: vs) := (rfl)
@[simp] theorem s_osem (o : O) (as : List Av) : osem o as σ h = (views as σ h).bnd fun vs => ofO (opf o vs) := (rfl)
@[simp] theorem s_isT (a : Av) : isT a σ h = (view a σ h).bnd fun v => match v with
  | .d (.bl b) => Ev.ret b
  | _ => Ev.fail := (rfl)
@[simp] theorem s_view (a : Av) : view a σ h = match vw σ h a with
  | some v => .ok v σ h
  | none => .bad := (rfl)
@[simp] theorem s_vwd (x : D) : vw σ h (.d x) = vwD h x := (rfl)
@[simp] theorem s_vwc (x : C) : vw σ h (.c x) = some (.c x) := (rfl)
@[simp] theorem s_vws (i : Nat) : vw σ h (.s i) = match σ[i]? with
    | some (.c x) => some (.c x)
    | some (.d x) => vwD h x
    | _ => none := (rfl)
@[simp] theorem s_vnon : vwD h .non = some (.d .non) := (rfl)
@[simp] theorem s_vbl (b : Bool) : vwD h (.bl b) = some (.d (.bl b)) := (rfl)
@[simp] theorem s_vint (i : Int) : vwD h (.int i) = some (.d (.int i)) := (rfl)
@[simp] theorem s_vstr (s : Str) : vwD h (.str s) = some (.d (.str s)) := (rfl)
@[simp] theorem s_vty (s : String) : vwD h (.ty s) = some (.d (.ty s)) := (rfl)
@[simp] theorem s_vgf (k : Nat) : vwD h (.gf k) = some (.d (.gf k)) := (rfl)
@[simp] theorem s_vtup (l : List D) : vwD h (.tup l) = some (.d (.tup l)) := (rfl)
@[simp] theorem s_vflst (l : List D) : vwD h (.flst l) = some (.d (.flst l)) := (rfl)
@[simp] theorem s_vref (n : Nat) : vwD h (.ref n) = match h[n]? with
    | some (.lst l) => some (.c (.lst l))
    | some (.dic k) => some (.c (.dic k))
    | _ => none := (rfl)
@[simp] theorem s_opf1 (o : O) (a : Vw) : opf o [a] = op1 o a := (rfl)
@[simp] theorem s_opf2 (o : O) (a b : Vw) : opf o [a, b] = op2 o a b := (rfl)
@[simp] theorem s_opf3 (o : O) (a b c : Vw) : opf o [a, b, c] = op3 o a b c := (rfl)
@[simp] theorem s_1neg (v : Vw) : op1 .neg v = negV v := (rfl)
@[simp] theorem s_1len (v : Vw) : op1 .len v = lenV v := (rfl)
@[simp] theorem s_1int (v : Vw) : op1 .int v = intV v := (rfl)
@[simp] theorem s_1abs (v : Vw) : op1 .abs v = absV v := (rfl)
@[simp] theorem s_1list (v : Vw) : op1 .list v = listV v := (rfl)
@[simp] theorem s_1tuple (v : Vw) : op1 .tuple v = tupleV v := (rfl)
@[simp] theorem s_1all (v : Vw) : op1 .all v = allV v := (rfl)
@[simp] theorem s_1any (v : Vw) : op1 .any v = anyV v := (rfl)
@[simp] theorem s_1sum (v : Vw) : op1 .sum v = sumV v := (rfl)
@[simp] theorem s_1min (v : Vw) : op1 .min v = minL v := (rfl)
@[simp] theorem s_1max (v : Vw) : op1 .max v = maxL v := (rfl)
@[simp] theorem s_1sli (v : Vw) : op1 (.sli false false) v = cutV v none none := (rfl)
@[simp] theorem s_2bin (op : Operator) (a b : Vw) : op2 (.bin op) a b = binV op a b := (rfl)
@[simp] theorem s_2cmp (op : CmpOp) (a b : Vw) : op2 (.cmp op) a b = (cmpV op a b).map fun k => .d (.bl k) := (rfl)
@[simp] theorem s_2isn (a b : Vw) : op2 .isn a b = (isnV a b).map fun k => .d (.bl k) := (rfl)
@[simp] theorem s_2notn (a b : Vw) : op2 .notn a b = (isnV a b).map fun k => .d (.bl (!k)) := (rfl)
@[simp] theorem s_2isi (a b : Vw) : op2 .isi a b = isiV a b := (rfl)
@[simp] theorem s_2min (a b : Vw) : op2 .min a b = minV a b := (rfl)
@[simp] theorem s_2max (a b : Vw) : op2 .max a b = maxV a b := (rfl)
@[simp] theorem s_2gcd (a b : Vw) : op2 .gcd a b = gcdV a b := (rfl)
@[simp] theorem s_2idx (a b : Vw) : op2 .idx a b = idxV a b := (rfl)
@[simp] theorem s_2lo (a b : Vw) : op2 (.sli true false) a b = slLo a b := (rfl)
@[simp] theorem s_2hi (a b : Vw) : op2 (.sli false true) a b = slHi a b := (rfl)
@[simp] theorem s_lo (v : Vw) (i : Int) : slLo v (.d (.int i)) = cutV v (some i) none := (rfl)
@[simp] theorem s_hi (v : Vw) (i : Int) : slHi v (.d (.int i)) = cutV v none (some i) := (rfl)
@[simp] theorem s_cutl (l : List D) (a b : Option Int) : cutV (.c (.lst l)) a b = some (.c (.lst (cut l a b))) := (rfl)
@[simp] theorem s_cutt (l : List D) (a b : Option Int) : cutV (.d (.tup l)) a b = some (.d (.tup (cut l a b))) := (rfl)
@[simp] theorem s_cutf (l : List D) (a b : Option Int) : cutV (.d (.flst l)) a b = some (.c (.lst (cut l a b))) := (rfl)
@[simp] theorem s_binii (op : Operator) (i j : Int) : binV op (.d (.int i)) (.d (.int j)) = (binI op i j).map fun k => .d (.int k) := (rfl)
@[simp] theorem s_add (i j : Int) : binI .Add i j = some (i + j) := (rfl)
@[simp] theorem s_sub (i j : Int) : binI .Sub i j = some (i - j) := (rfl)
@[simp] theorem s_mul (i j : Int) : binI .Mult i j = if mulOk i j then some (i * j) else none := (rfl)
@[simp] theorem s_div (i j : Int) : binI .FloorDiv i j = if 0 < j ∧ j.natAbs.log2 < 9000 then some (i / j) else none := (rfl)
@[simp] theorem s_mod (i j : Int) : binI .Mod i j = if 0 < j then some (i % j) else none := (rfl)
@[simp] theorem s_pow (i j : Int) : binI .Pow i j = if 0 ≤ j ∧ j ≤ 1000000 ∧ i.natAbs < 2 ^ 64 then some (i ^ j.toNat) else none := (rfl)
@[simp] theorem s_ladd (a b : List D) : binV .Add (.c (.lst a)) (.c (.lst b)) = if a.length + b.length ≤ SZ then some (.c (.lst (a ++ b))) else none := (rfl)
@[simp] theorem s_tadd (a b : List D) : binV .Add (.d (.tup a)) (.d (.tup b)) = if a.length + b.length ≤ SZ then some (.d (.tup (a ++ b))) else none := (rfl)
@[simp] theorem s_lmul (a : List D) (k : Int) : binV .Mult (.c (.lst a)) (.d (.int k)) = if -(2 ^ 63) ≤ k ∧ k < 2 ^ 63 ∧ a.length * k.toNat ≤ SZ then some (.c (.lst (List.replicate k.toNat a).flatten)) else none := (rfl)
@[simp] theorem s_ceq (a b : Vw) : cmpV .Eq a b = eqV a b := (rfl)
@[simp] theorem s_cne (a b : Vw) : cmpV .NotEq a b = (eqV a b).map (!·) := (rfl)
@[simp] theorem s_cin (a b : Vw) : cmpV .In a b = inV a b := (rfl)
@[simp] theorem s_cnin (a b : Vw) : cmpV .NotIn a b = (inV a b).map (!·) := (rfl)
@[simp] theorem s_clt (i j : Int) : cmpV .Lt (.d (.int i)) (.d (.int j)) = some (decide (i < j)) := (rfl)
@[simp] theorem s_cle (i j : Int) : cmpV .LtE (.d (.int i)) (.d (.int j)) = some (decide (i ≤ j)) := (rfl)
@[simp] theorem s_cgt (i j : Int) : cmpV .Gt (.d (.int i)) (.d (.int j)) = some (decide (j < i)) := (rfl)
@[simp] theorem s_cge (i j : Int) : cmpV .GtE (.d (.int i)) (.d (.int j)) = some (decide (j ≤ i)) := (rfl)
@[simp] theorem s_eqi (i j : Int) : eqV (.d (.int i)) (.d (.int j)) = some (decide (i = j)) := by
  have e : eqV (.d (.int i)) (.d (.int j)) = some (PyData.eqv (.int i) (.int j)) := (rfl)
  rw [e]; exact congrArg some (by rw [PyData.eqv]; rfl)
@[simp] theorem s_eqb (i j : Bool) : eqV (.d (.bl i)) (.d (.bl j)) = some (decide (i = j)) := by
  have e : eqV (.d (.bl i)) (.d (.bl j)) = some (PyData.eqv (.bool i) (.bool j)) := (rfl)
  rw [e]; cases i <;> cases j <;> rfl
@[simp] theorem s_isnn (x : D) : isnV (.d x) (.d .non) = some (match x with | .non => true | _ => false) := (rfl)
@[simp] theorem s_isnc (x : C) : isnV (.c x) (.d .non) = some false := (rfl)
@[simp] theorem s_negi (i : Int) : negV (.d (.int i)) = some (.d (.int (-i))) := (rfl)
@[simp] theorem s_lenl (l : List D) : lenV (.c (.lst l)) = some (.d (.int l.length)) := (rfl)
@[simp] theorem s_lent (l : List D) : lenV (.d (.tup l)) = some (.d (.int l.length)) := (rfl)
@[simp] theorem s_lenf (l : List D) : lenV (.d (.flst l)) = some (.d (.int l.length)) := (rfl)
@[simp] theorem s_lend (l : List (D × D)) : lenV (.c (.dic l)) = some (.d (.int l.length)) := (rfl)
@[simp] theorem s_inti (i : Int) : intV (.d (.int i)) = some (.d (.int i)) := (rfl)
@[simp] theorem s_absi (i : Int) : absV (.d (.int i)) = some (.d (.int (if i < 0 then -i else i))) := (rfl)
@[simp] theorem s_isi (v : Vw) (n : String) : isiV v (.d (.ty n)) = if ["int", "bool", "tuple", "list", "str", "dict"].contains n then (isIn n v).map fun b => .d (.bl b) else none := (rfl)
@[simp] theorem s_in1 (n : String) : isIn n (.d .non) = some (n == "NoneType") := (rfl)
@[simp] theorem s_in2 (n : String) (b : Bool) : isIn n (.d (.bl b)) = some (n == "bool" || n == "int") := (rfl)
@[simp] theorem s_in3 (n : String) (b : Int) : isIn n (.d (.int b)) = some (n == "int") := (rfl)
@[simp] theorem s_in4 (n : String) (b : Str) : isIn n (.d (.str b)) = some (n == "str") := (rfl)
@[simp] theorem s_in5 (n : String) (b : List D) : isIn n (.d (.tup b)) = some (n == "tuple") := (rfl)
@[simp] theorem s_in6 (n : String) (b : List D) : isIn n (.d (.flst b)) = some (n == "list") := (rfl)
@[simp] theorem s_in7 (n : String) (b : List D) : isIn n (.c (.lst b)) = some (n == "list") := (rfl)
@[simp] theorem s_in8 (n : String) (b : List (D × D)) : isIn n (.c (.dic b)) = some (n == "dict") := (rfl)
@[simp] theorem s_listl (l : List D) : listV (.c (.lst l)) = some (.c (.lst l)) := (rfl)
@[simp] theorem s_listt (l : List D) : listV (.d (.tup l)) = some (.c (.lst l)) := (rfl)
@[simp] theorem s_listf (l : List D) : listV (.d (.flst l)) = some (.c (.lst l)) := (rfl)
@[simp] theorem s_tupl (l : List D) : tupleV (.c (.lst l)) = some (.d (.tup l)) := (rfl)
@[simp] theorem s_tupt (l : List D) : tupleV (.d (.tup l)) = some (.d (.tup l)) := (rfl)
@[simp] theorem s_tupf (l : List D) : tupleV (.d (.flst l)) = some (.d (.tup l)) := (rfl)
@[simp] theorem s_alll (l : List D) : allV (.c (.lst l)) = (boolsOf l).map fun bs => .d (.bl (bs.all id)) := (rfl)
@[simp] theorem s_anyl (l : List D) : anyV (.c (.lst l)) = (boolsOf l).map fun bs => .d (.bl (bs.any id)) := (rfl)
@[simp] theorem s_suml (l : List D) : sumV (.c (.lst l)) = (intsOf l).map fun ns => .d (.int ns.sum) := (rfl)
@[simp] theorem s_mini (i j : Int) : minV (.d (.int i)) (.d (.int j)) = some (.d (.int (if j < i then j else i))) := (rfl)
@[simp] theorem s_maxi (i j : Int) : maxV (.d (.int i)) (.d (.int j)) = some (.d (.int (if j > i then j else i))) := (rfl)
@[simp] theorem s_gcd (i j : Int) : gcdV (.d (.int i)) (.d (.int j)) = some (.d (.int (Nat.gcd i.natAbs j.natAbs : Nat))) := (rfl)
@[simp] theorem s_ixl (l : List D) (i : Int) : idxV (.c (.lst l)) (.d (.int i)) = (atI l i).map .d := (rfl)
@[simp] theorem s_ixt (l : List D) (i : Int) : idxV (.d (.tup l)) (.d (.int i)) = (atI l i).map .d := (rfl)
@[simp] theorem s_ixf (l : List D) (i : Int) : idxV (.d (.flst l)) (.d (.int i)) = (atI l i).map .d := (rfl)
@[simp] theorem s_ixd (l : List (D × D)) (i : Int) : idxV (.c (.dic l)) (.d (.int i)) = (getK l (.int i)).map .d := (rfl)
@[simp] theorem s_ixs (l : List (D × D)) (i : Str) : idxV (.c (.dic l)) (.d (.str i)) = (getK l (.str i)).map .d := (rfl)
@[simp] theorem s_toDd (x : D) : toD (.d x) = Ev.ret x := (rfl)
@[simp] theorem s_toDc (x : C) : toD (.c x) σ h = .ok (.ref h.length) σ (h ++ [x]) := (rfl)
@[simp] theorem s_toDs (i : Nat) : toD (.s i) σ h = match σ[i]? with
    | some (.c x) => .ok (.ref h.length) (σ.set i (.d (.ref h.length))) (h ++ [x])
    | some (.d x) => .ok x σ h
    | _ => .bad := (rfl)
@[simp] theorem s_toDsn : toDs [] = Ev.ret [] := (rfl)
@[simp] theorem s_toDsc (a : Av) (as : List Av) : toDs (a :: as) σ h = (toD a σ h).bnd fun x => bnd (toDs as) fun xs => Ev.ret (x :: xs) := (rfl)
@[simp] theorem s_toWd (x : D) : toW (.d x) = Ev.ret (.d x) := (rfl)
@[simp] theorem s_toWc (x : C) : toW (.c x) = Ev.ret (.c x) := (rfl)
@[simp] theorem s_toWs (i : Nat) : toW (.s i) σ h = match σ[i]? with
    | some (.c x) => .ok (.c x) (σ.set i .none) h
    | some (.d x) => .ok (.d x) σ h
    | _ => .bad := (rfl)
@[simp] theorem s_toAd (x : D) : toArg (.d x) = Ev.ret (.d x) := (rfl)
@[simp] theorem s_toAc (x : C) : toArg (.c x) = Ev.ret (.c x) := (rfl)
@[simp] theorem s_toAs (i : Nat) : toArg (.s i) σ h = (toD (.s i) σ h).bnd fun x => Ev.ret (.d x) := (rfl)
@[simp] theorem s_toAn : toArgs [] = Ev.ret [] := (rfl)
@[simp] theorem s_toAcn (a : Av) (as : List Av) : toArgs (a :: as) σ h = (toArg a σ h).bnd fun x => bnd (toArgs as) fun xs => Ev.ret (x :: xs) := (rfl)
@[simp] theorem s_callK (k : Nat) (ws : List W) : callK cf k ws σ h = (cf k ws h).toR σ := (rfl)
@[simp] theorem s_rd (x : D) : (RC.ok (.d x) h).toR σ = .ok (.d x) σ h := (rfl)
@[simp] theorem s_rc (x : C) : (RC.ok (.c x) h).toR σ = .ok (.c x) σ h := (rfl)
@[simp] theorem s_rex (c : Nat) (d : D) : (RC.ex c d h).toR σ = .ex c d σ h := (rfl)
@[simp] theorem s_chkL (a : Av) : chkL a σ h = (view a σ h).bnd fun v => match v with
  | .c (.lst _) => Ev.ret ()
  | _ => Ev.fail := (rfl)
@[simp] theorem s_app (o : Av) (as : List Av) : msem .append o as σ h = (toDs as σ h).bnd fun ds => change o fun c => mtf .append c ds := by
  cases as <;> rfl
@[simp] theorem s_pop (o : Av) (as : List Av) : msem .pop o as σ h = (toDs as σ h).bnd fun ds => change o fun c => mtf .pop c ds := by
  cases as <;> rfl
@[simp] theorem s_popA (o : Av) (as : List Av) : msem .popAt o as σ h = (toDs as σ h).bnd fun ds => change o fun c => mtf .popAt c ds := by
  cases as <;> rfl
@[simp] theorem s_ext (o a : Av) : msem .extend o [a] σ h = (view a σ h).bnd fun v => match v with
    | .c (.lst ys) => change o fun c => match c with
      | .lst l => if l.length + ys.length ≤ SZ then some (.lst (l ++ ys), .d .non) else none
      | _ => none
    | _ => Ev.fail := (rfl)
@[simp] theorem s_chs (i : Nat) (f : C → Option (C × Av)) : change (.s i) f σ h = match σ[i]? with
    | some (.c x) => match f x with
      | some (y, r) => .ok r (σ.set i (.c y)) h
      | none => .bad
    | some (.d (.ref n)) => match h[n]? with
      | some x => match f x with
        | some (y, r) => .ok r σ (h.set n y)
        | none => .bad
      | none => .bad
    | _ => .bad := (rfl)
@[simp] theorem s_chr (n : Nat) (f : C → Option (C × Av)) : change (.d (.ref n)) f σ h = match h[n]? with
    | some x => match f x with
      | some (y, r) => .ok r σ (h.set n y)
      | none => .bad
    | none => .bad := (rfl)
@[simp] theorem s_mapp (l : List D) (x : D) : mtf .append (.lst l) [x] = if l.length < SZ then some (.lst (l ++ [x]), .d .non) else none := (rfl)
@[simp] theorem s_mpop (l : List D) : mtf .pop (.lst l) [] = match l.getLast? with
    | some x => some (.lst l.dropLast, .d x)
    | none => none := (rfl)
@[simp] theorem s_mpopA (l : List D) (i : Int) : mtf .popAt (.lst l) [.int i] = if -(2 ^ 63) ≤ i ∧ i < 2 ^ 63 then match ixN l.length i with
      | some j => (l[j]?).map fun x => (.lst (l.eraseIdx j), .d x)
      | none => none
    else none := (rfl)
@[simp] theorem s_stl (k : Int) (v : D) (l : List D) : storeC (.d (.int k)) v (.lst l) = (ixN l.length k).map fun j => (.lst (l.set j v), .d .non) := (rfl)
@[simp] theorem s_std (k v : D) (l : List (D × D)) : storeC (.d k) v (.dic l) = if keyOk k && decide (l.length < SZ) then some (.dic (putK l k v), .d .non) else none := (rfl)
@[simp] theorem s_bn (i : Nat) (x : D) : bindT (.n i) x σ h = .ok () (σ.set i (.d x)) h := (rfl)
@[simp] theorem s_bt (is : List Nat) (l : List D) : bindT (.t is) (.tup l) σ h = match setAll is l σ with
      | some σ' => .ok () σ' h
      | none => .bad := (rfl)
@[simp] theorem s_san (σ : List W) : setAll [] [] σ = some σ := (rfl)
@[simp] theorem s_sac (i : Nat) (is : List Nat) (x : D) (xs : List D) : setAll (i :: is) (x :: xs) σ = setAll is xs (σ.set i (.d x)) := (rfl)
@[simp] theorem s_iseq (fx : Bool) (e : Ex) : evIt cf fx (.seq e) σ h = ((ev cf e σ h).bnd (fixA fx)).bnd fun a => bnd (view a) fun v => match seqOf v with
    | some l => Ev.ret ([srcOf a v], [l], l)
    | none => Ev.fail := (rfl)
@[simp] theorem s_irng (fx : Bool) (es : Exs) : evIt cf fx (.rng es) σ h = (evs cf es σ h).bnd fun as => bnd (views as) fun vs => match rngOf vs with
    | some l => Ev.ret ([], [], l)
    | none => Ev.fail := (rfl)
@[simp] theorem s_ienum (fx : Bool) (es : Exs) : evIt cf fx (.enum es) σ h = ((evs cf es σ h).bnd (fixAs fx)).bnd fun as => bnd (views as) fun vs => match as, vs with
    | [a], [v] => match lstOf v with
      | some l => Ev.ret ([srcOf a v], [l], enumD 0 l)
      | none => match tupOf v with
        | some l => Ev.ret ([srcOf a v], [l], enumD 0 l)
        | none => Ev.fail
    | _, _ => Ev.fail := (rfl)
@[simp] theorem s_izip (fx : Bool) (es : Exs) : evIt cf fx (.zip es) σ h = ((evs cf es σ h).bnd (fixAs fx)).bnd fun as => bnd (views as) fun vs => match as, vs with
    | [a, b], [v, u] => match lstOf v, lstOf u with
      | some l, some r => Ev.ret ([srcOf a v, srcOf b u], [l, r], zipD l r)
      | _, _ => match tupOf v, tupOf u with
        | some l, some r => Ev.ret ([srcOf a v, srcOf b u], [l, r], zipD l r)
        | _, _ => Ev.fail
    | _, _ => Ev.fail := (rfl)
@[simp] theorem s_fixf (a : Av) : fixA false a = Ev.ret a := (rfl)
@[simp] theorem s_fixd (x : D) : fixA true (.d x) = Ev.ret (.d x) := (rfl)
@[simp] theorem s_fixc (x : C) : fixA true (.c x) = Ev.ret (.c x) := (rfl)
@[simp] theorem s_fixs (i : Nat) : fixA true (.s i) σ h = (toD (.s i) σ h).bnd fun x => Ev.ret (.d x) := (rfl)
@[simp] theorem s_fixn (fx : Bool) : fixAs fx [] = Ev.ret [] := (rfl)
@[simp] theorem s_fixcn (fx : Bool) (a : Av) (as : List Av) : fixAs fx (a :: as) σ h = (fixA fx a σ h).bnd fun b => bnd (fixAs fx as) fun bs => Ev.ret (b :: bs) := (rfl)
@[simp] theorem s_sqc (l : List D) : seqOf (.c (.lst l)) = some l := (rfl)
@[simp] theorem s_sqt (l : List D) : seqOf (.d (.tup l)) = some l := (rfl)
@[simp] theorem s_sqf (l : List D) : seqOf (.d (.flst l)) = some l := (rfl)
@[simp] theorem s_loc (l : List D) : lstOf (.c (.lst l)) = some l := (rfl)
@[simp] theorem s_lof (l : List D) : lstOf (.d (.flst l)) = some l := (rfl)
@[simp] theorem s_lot (l : List D) : lstOf (.d (.tup l)) = none := (rfl)
@[simp] theorem s_tot (l : List D) : tupOf (.d (.tup l)) = some l := (rfl)
@[simp] theorem s_srcd (a : Av) (x : D) : srcOf a (.d x) = .d x := (rfl)
@[simp] theorem s_srcc (a : Av) (x : C) : srcOf a (.c x) = a := (rfl)
theorem s_rng1 (j : Int) : rngOf [.d (.int j)] = if -(2 ^ 62) ≤ j ∧ j ≤ SZ then some (rngD 0 j.toNat) else none := (rfl)
theorem s_rng2 (i j : Int) : rngOf [.d (.int i), .d (.int j)] = if -(2 ^ 62) ≤ i ∧ i < 2 ^ 62 ∧ -(2 ^ 62) ≤ j ∧ j < 2 ^ 62 ∧ j - i ≤ SZ then some (rngD i (j - i).toNat) else none := (rfl)
@[simp] theorem s_nsn : noS [] = true := (rfl)
@[simp] theorem s_nss (i : Nat) (as : List Av) : noS (.s i :: as) = false := (rfl)
@[simp] theorem s_nsd (x : D) (as : List Av) : noS (.d x :: as) = noS as := (rfl)
@[simp] theorem s_nsc (x : C) (as : List Av) : noS (.c x :: as) = noS as := (rfl)
@[simp] theorem s_stn : stands [] [] = fun _ _ => true := (rfl)
theorem s_stc (a : Av) (src : List Av) (l : List D) (ls : List (List D)) : stands (a :: src) (l :: ls) σ h = (stands1 a l σ h && stands src ls σ h) := (rfl)
@[simp] theorem s_st1c (c : C) (l : List D) : stands1 (.c c) l σ h = true := (rfl)
@[simp] theorem s_st1t (c l : List D) : stands1 (.d (.tup c)) l σ h = true := (rfl)
@[simp] theorem s_st1f (c l : List D) : stands1 (.d (.flst c)) l σ h = true := (rfl)
/-! statements -/
@[simp] theorem t_nil : evSs cf .nil σ h = .nx σ h := (rfl)
@[simp] theorem t_cons (s : Sm) (ss : Sms) : evSs cf (.cons s ss) σ h = match evS cf s σ h with
    | .nx σ h => evSs cf ss σ h
    | .rt w h => .rt w h
    | .bk σ h => .bk σ h
    | .ct σ h => .ct σ h
    | .ex c d σ h => .ex c d σ h
    | .bad => .bad := (rfl)
@[simp] theorem t_skip : evS cf .skip σ h = .nx σ h := (rfl)
@[simp] theorem t_asg (i : Nat) (e : Ex) : evS cf (.asg i e) σ h = ((ev cf e σ h).bnd toW).toF fun w σ h => .nx (σ.set i w) h := (rfl)
@[simp] theorem t_asgH (i : Nat) (e : Ex) : evS cf (.asgH i e) σ h = ((ev cf e σ h).bnd toD).toF fun x σ h => .nx (σ.set i (.d x)) h := (rfl)
@[simp] theorem t_unp (is : List Nat) (e : Ex) : evS cf (.unp is e) σ h = (((ev cf e σ h).bnd toD).bnd (bindT (.t is))).toF fun _ σ h => .nx σ h := (rfl)
@[simp] theorem t_par (i j : Nat) (es : Exs) : evS cf (.par i j es) σ h = ((evs cf es σ h).bnd toArgs).toF fun ws σ h => match ws with
    | [a, b] => .nx ((σ.set i a).set j b) h
    | _ => .bad := (rfl)
@[simp] theorem t_aug (i : Nat) (op : Operator) (e : Ex) : evS cf (.aug i op e) σ h = match σ[i]? with
    | some (.d (.int x)) => (bnd (bnd (ev cf e) view) (fun v => ofO (augV op (.d (.int x)) v)) σ h).toF fun a σ h => match a with
      | .d y => .nx (σ.set i (.d y)) h
      | _ => .bad
    | _ => .bad := (rfl)
@[simp] theorem t_sidx (e o i : Ex) : evS cf (.sidx e o i) σ h = (((ev cf e σ h).bnd toD).bnd (fun x => bnd (ev cf o) fun a => bnd (bnd (ev cf i) view) fun v => change a (storeC v x))).toF fun _ σ h => .nx σ h := (rfl)
@[simp] theorem t_aidx (o i : Ex) (op : Operator) (e : Ex) : evS cf (.aidx o i op e) σ h = ((ev cf o σ h).bnd (fun a => bnd (ev cf i) fun j => bnd (view a) fun av => bnd (view j) fun jv => bnd (ofO (getV av jv)) fun xv => bnd (ev cf e) fun y => bnd (view y) fun yv => bnd (ofO (augV op xv yv)) fun z =>
      bnd (ofO (dOf z)) fun zd => change a (storeC jv zd))).toF fun _ σ h => .nx σ h := (rfl)
@[simp] theorem t_expr (e : Ex) : evS cf (.expr e) σ h = (ev cf e σ h).toF fun _ σ h => .nx σ h := (rfl)
@[simp] theorem t_ret (e : Ex) : evS cf (.ret e) σ h = ((ev cf e σ h).bnd toW).toF fun w _ h => .rt w h := (rfl)
@[simp] theorem t_retn : evS cf .retn σ h = .rt (.d .non) h := (rfl)
@[simp] theorem t_ifs (c : Ex) (a b : Sms) : evS cf (.ifs c a b) σ h = ((ev cf c σ h).bnd isT).toF fun k σ h => if k then evSs cf a σ h else evSs cf b σ h := (rfl)
@[simp] theorem t_for (tg : Tg) (it : It) (b : Sms) : evS cf (.for_ tg it b) σ h = (evIt cf true it σ h).toF fun s σ h => if noS s.1 then forL tg (evSs cf b) (stands s.1 s.2.1) s.2.2 σ h else .bad := (rfl)
@[simp] theorem t_whl (c : Ex) (b : Sms) : evS cf (.whl c b) σ h = whlL (bnd (ev cf c) isT) (evSs cf b) whFuel σ h := (rfl)
@[simp] theorem t_brk : evS cf .brk σ h = .bk σ h := (rfl)
@[simp] theorem t_cont : evS cf .cont σ h = .ct σ h := (rfl)
@[simp] theorem t_rais (k : Nat) (e : Ex) : evS cf (.rais k e) σ h = ((ev cf e σ h).bnd toD).toF fun x σ h => .ex k x σ h := (rfl)
end
theorem s_ap {h0 : List C} {w : W} {h : List C} : (F.rt w h).toRC h0 = fin h0 w h := (rfl)
@[simp] theorem u_nx {h0 : List C} {σ : List W} {h : List C} : F.toRC h0 (.nx σ h) = fin h0 (.d .non) h := (rfl)
@[simp] theorem u_rt {h0 : List C} {w : W} {h : List C} : F.toRC h0 (.rt w h) = fin h0 w h := (rfl)
@[simp] theorem u_ex {h0 : List C} {c : Nat} {d : D} {σ : List W} {h : List C} : F.toRC h0 (.ex c d σ h) = finX h0 c d h := (rfl)
theorem evCall_eq {P : Nat → Option Fn} {k np nn : Nat} {b : Sms} (e : P k = some ⟨np, nn, b⟩) (n : Nat) (ws : List W) (h : List C) (hl : ws.length = np) : evCall P (n + 1) k ws h = (evSs (evCall P n) b (ws ++ List.replicate (nn - np) .none) h).toRC h := by
  simp only [evCall, e, hl, if_pos]
@[simp] theorem fin_same {h : List C} {w : W} : fin h w h = .ok w h := by simp [fin]
@[simp] theorem finX_same {h : List C} {c : Nat} {d : D} : finX h c d h = .ex c d h := by simp [finX]
theorem fin_len {h0 h : List C} {w : W} (e : h.length = h0.length) : fin h0 w h = .ok w h := by simp [fin, e]
theorem finX_len {h0 h : List C} {c : Nat} {d : D} (e : h.length = h0.length) : finX h0 c d h = .ex c d h := by simp [finX, e]
/-- a call at any depth from d on -/
theorem up {n d : Nat} (h : d + 1 ≤ n) : ∃ m, n = m + 1 ∧ d ≤ m := ⟨n - 1, by omega, by omega⟩
end Ev
end
section
set_option maxRecDepth 100000
/-! EvL: rules for loops and comprehensions of the evaluator. -/
namespace Ev
open PySem
theorem forL_rule {tg : Tg} {body : List W → List C → F} {ok : List W → List C → Bool} (Q : F → Prop) : ∀ (xs : List D) (I : Nat → List W → List C → Prop) (σ : List W) (h : List C), I 0 σ h →
    (∀ i x σ h, xs[i]? = some x → I i σ h → ∃ σ1 h1, bindT tg x σ h = .ok () σ1 h1 ∧ (match body σ1 h1 with
      | .nx σ2 h2 => ok σ2 h2 = true ∧ I (i + 1) σ2 h2
      | .ct σ2 h2 => ok σ2 h2 = true ∧ I (i + 1) σ2 h2
      | .bk σ2 h2 => Q (.nx σ2 h2)
      | .rt w h2 => Q (.rt w h2)
      | .ex c d σ2 h2 => Q (.ex c d σ2 h2)
      | .bad => False)) →
    (∀ σ h, I xs.length σ h → Q (.nx σ h)) → Q (forL tg body ok xs σ h)
  | [], I, σ, h, h0, _, fin => fin σ h h0
  | x :: xs, I, σ, h, h0, st, fin => by
    obtain ⟨σ1, h1, e, z⟩ := st 0 x σ h rfl h0
    simp only [forL, e]
    have go : ∀ σ2 h2, I 1 σ2 h2 → Q (forL tg body ok xs σ2 h2) := fun σ2 h2 i1 =>
      forL_rule Q xs (fun i => I (i + 1)) σ2 h2 i1 (fun i y σ h ey hi => st (i + 1) y σ h (by simpa using ey) hi) (fun σ h hi => fin σ h (by simpa using hi))
    cases eb : body σ1 h1 <;> simp only [eb] at z ⊢
    · rw [if_pos z.1]; exact go _ _ z.2
    · exact z
    · exact z
    · rw [if_pos z.1]; exact go _ _ z.2
    · exact z
/-- a loop that never leaves -/
theorem forL_nx {tg : Tg} {body : List W → List C → F} {ok : List W → List C → Bool} {xs : List D} (I : Nat → List W → List C → Prop) {σ : List W} {h : List C} (h0 : I 0 σ h)
    (st : ∀ i x σ h, xs[i]? = some x → I i σ h → ∃ σ1 h1 σ2 h2, bindT tg x σ h = .ok () σ1 h1 ∧ body σ1 h1 = .nx σ2 h2 ∧ ok σ2 h2 = true ∧ I (i + 1) σ2 h2) :
    ∃ σ' h', forL tg body ok xs σ h = .nx σ' h' ∧ I xs.length σ' h' :=
  forL_rule (fun r => ∃ σ' h', r = .nx σ' h' ∧ I xs.length σ' h') xs I σ h h0 (fun i x σ h e hi => by
    obtain ⟨σ1, h1, σ2, h2, e1, e2, e3, e4⟩ := st i x σ h e hi
    exact ⟨σ1, h1, e1, by simp only [e2]; exact ⟨e3, e4⟩⟩) fun σ h hi => ⟨σ, h, rfl, hi⟩
theorem compL_pure {own : List Nat} {tg : Tg} {test : M Bool} {elt : M Av} {ok : List W → List C → Bool} {σ0 : List W} {h : List C} (t : D → Bool) (f : D → D) (hok : ok σ0 h = true) : ∀ (xs : List D),
    (∀ x ∈ xs, ∃ σ1 σ2, bindT tg x σ0 h = .ok () σ1 h ∧ test σ1 h = .ok (t x) σ2 h ∧ (t x = true → ∃ a σ3 σ4, elt σ2 h = .ok a σ3 h ∧ toD a σ3 h = .ok (f x) σ4 h ∧ wipeW σ4 own = σ0) ∧ (t x = false → wipeW σ2 own = σ0)) →
    compL own tg test elt ok xs σ0 h = .ok ((xs.filter t).map f) σ0 h
  | [], _ => rfl
  | x :: xs, H => by
    obtain ⟨σ1, σ2, e1, e2, e3, e4⟩ := H x (by simp)
    have IH := compL_pure t f hok xs fun y hy => H y (by simp [hy])
    cases ht : t x with
    | true =>
      obtain ⟨a, σ3, σ4, e5, e6, e7⟩ := e3 ht
      simp [compL, compL.wp, e1, e2, ht, e5, e6, e7, hok, IH]
    | false => simp [compL, compL.wp, e1, e2, ht, e4 ht, hok, IH]
theorem rngD_length : ∀ (n : Nat) (lo : Int), (rngD lo n).length = n
  | 0, _ => rfl
  | n + 1, lo => by simp [rngD, rngD_length n]
theorem rngL_get : ∀ (n : Nat) (lo : Int) (i : Nat), (rngD lo n)[i]? = if i < n then some (.int (lo + i)) else none
  | 0, lo, i => by simp [rngD]
  | n + 1, lo, 0 => by simp [rngD]
  | n + 1, lo, i + 1 => by
    simp [rngD, rngL_get n (lo + 1) i]
    by_cases h : i < n <;> simp [h]
    omega
theorem rngL_get' {n : Nat} {lo : Int} {i : Nat} {x : D} (e : (rngD lo n)[i]? = some x) : i < n ∧ x = .int (lo + i) := by
  rw [rngL_get] at e
  by_cases h : i < n
  · rw [if_pos h] at e; cases e; exact ⟨h, rfl⟩
  · rw [if_neg h] at e; cases e
theorem rngD_map (n : Nat) (lo : Int) : rngD lo n = (List.range n).map fun i : Nat => D.int (lo + (i : Int)) := by
  apply List.ext_getElem?
  intro i
  rw [rngL_get, List.getElem?_map]
  by_cases h : i < n <;> simp [h, List.getElem?_range]
theorem rngD_zero (n : Nat) : rngD 0 n = (List.range n).map fun i : Nat => D.int (i : Int) := by simp [rngD_map]
theorem enumL_get : ∀ (xs : List D) (k i : Nat), (enumD k xs)[i]? = (xs[i]?).map fun x => .tup [.int ((k + i : Nat) : Int), x]
  | [], k, i => by simp [enumD]
  | x :: xs, k, 0 => by simp [enumD]
  | x :: xs, k, i + 1 => by
    simp only [enumD, List.getElem?_cons_succ]
    rw [enumL_get xs (k + 1) i, show k + 1 + i = k + (i + 1) by omega]
theorem enumD_length : ∀ (xs : List D) (k : Nat), (enumD k xs).length = xs.length
  | [], k => rfl
  | x :: xs, k => by simp [enumD, enumD_length xs]
theorem zipL_get : ∀ (xs ys : List D) (i : Nat), (zipD xs ys)[i]? = match xs[i]?, ys[i]? with
    | some x, some y => some (.tup [x, y])
    | _, _ => none
  | [], ys, i => by simp [zipD]
  | x :: xs, [], i => by cases h : (x :: xs)[i]? <;> simp [zipD]
  | x :: xs, y :: ys, 0 => by simp [zipD]
  | x :: xs, y :: ys, i + 1 => by
    simp only [zipD, List.getElem?_cons_succ]
    rw [zipL_get xs ys i]
theorem zipD_map {α : Type} (f g : α → D) : ∀ l : List α, zipD (l.map f) (l.map g) = l.map fun x => .tup [f x, g x]
  | [] => rfl
  | x :: l => by simp [zipD, zipD_map f g l]
theorem enumD_map (xs : List D) (k : Nat) : enumD k xs = (xs.zipIdx k).map fun p => .tup [.int (p.2 : Int), p.1] := by
  induction xs generalizing k with
  | nil => rfl
  | cons x xs ih => simp [enumD, ih]
theorem atI_nat {α : Type} (xs : List α) (i : Nat) : atI xs (i : Int) = xs[i]? := by
  unfold atI ixN
  by_cases h : i < xs.length
  · simp [h]
  · simp [h]
@[simp] theorem atI_0 {α : Type} (xs : List α) : atI xs 0 = xs[0]? := atI_nat xs 0
@[simp] theorem atI_1 {α : Type} (xs : List α) : atI xs 1 = xs[1]? := atI_nat xs 1
@[simp] theorem atI_2 {α : Type} (xs : List α) : atI xs 2 = xs[2]? := atI_nat xs 2
@[simp] theorem atI_m1 {α : Type} (xs : List α) : atI xs (-1) = xs.getLast? := by
  unfold atI ixN
  rw [List.getLast?_eq_getElem?]
  cases xs with
  | nil => simp
  | cons x xs =>
    have h1 : ¬ ((0 : Int) ≤ -1) := by omega
    have h2 : -(((x :: xs).length : Nat) : Int) ≤ -1 := by simp; omega
    have h3 : ((-1 : Int) + ((x :: xs).length : Nat)).toNat = (x :: xs).length - 1 := by simp; omega
    rw [if_neg h1, if_pos h2, h3]
    rfl
theorem sIx_nat (n d i : Nat) : sIx n d (some (i : Int)) = min i n := by
  have h : ¬ ((i : Int) < 0) := by omega
  unfold sIx
  simp [h]
theorem cut_from (xs : List D) (i : Nat) : cut xs (some (i : Int)) none = xs.drop i := by
  unfold cut
  rw [sIx_nat]
  show List.take (xs.length - _) _ = _
  by_cases h : i ≤ xs.length
  · rw [Nat.min_eq_left h, List.take_of_length_le (by simp)]
  · rw [Nat.min_eq_right (by omega), List.drop_eq_nil_of_le (Nat.le_refl _), List.drop_eq_nil_of_le (by omega)]; simp
theorem cut_to (xs : List D) (i : Nat) : cut xs none (some (i : Int)) = xs.take i := by
  unfold cut
  rw [sIx_nat]
  simp [sIx]
/-- a comprehension over things of a kind -/
theorem compL_map {α : Type} {own : List Nat} {tg : Tg} {test : M Bool} {elt : M Av} {ok : List W → List C → Bool} {σ0 : List W} {h : List C} (g : α → D) (t : α → Bool) (f : α → D) (hok : ok σ0 h = true) : ∀ (l : List α),
    (∀ x ∈ l, ∃ σ1 σ2, bindT tg (g x) σ0 h = .ok () σ1 h ∧ test σ1 h = .ok (t x) σ2 h ∧ (t x = true → ∃ a σ3 σ4, elt σ2 h = .ok a σ3 h ∧ toD a σ3 h = .ok (f x) σ4 h ∧ wipeW σ4 own = σ0) ∧ (t x = false → wipeW σ2 own = σ0)) →
    compL own tg test elt ok (l.map g) σ0 h = .ok ((l.filter t).map f) σ0 h
  | [], _ => rfl
  | x :: xs, H => by
    obtain ⟨σ1, σ2, e1, e2, e3, e4⟩ := H x (by simp)
    have IH := compL_map g t f hok xs fun y hy => H y (by simp [hy])
    cases ht : t x with
    | true =>
      obtain ⟨a, σ3, σ4, e5, e6, e7⟩ := e3 ht
      simp [compL, compL.wp, e1, e2, ht, e5, e6, e7, hok, IH]
    | false => simp [compL, compL.wp, e1, e2, ht, e4 ht, hok, IH]
/-- one without a test -/
theorem compL_all {α : Type} {own : List Nat} {tg : Tg} {elt : M Av} {ok : List W → List C → Bool} {σ0 : List W} {h : List C} (g : α → D) (f : α → D) (hok : ok σ0 h = true) (l : List α)
    (H : ∀ x ∈ l, ∃ σ1, bindT tg (g x) σ0 h = .ok () σ1 h ∧ ∃ a σ3 σ4, elt σ1 h = .ok a σ3 h ∧ toD a σ3 h = .ok (f x) σ4 h ∧ wipeW σ4 own = σ0) :
    compL own tg (Ev.ret true) elt ok (l.map g) σ0 h = .ok (l.map f) σ0 h := by
  rw [compL_map g (fun _ => true) f hok l fun x hx => ?_]
  · simp [List.filter_eq_self.mpr]
  · obtain ⟨σ1, e, z⟩ := H x hx
    exact ⟨σ1, σ1, e, rfl, fun _ => z, fun h => by cases h⟩
theorem map_int_nat {α : Type} (f : α → Nat) (l : List α) : (l.map fun x => D.int (f x : Int)) = (l.map fun x => (f x : Int)).map D.int := by simp
theorem rng1_ok {m : Nat} (h : m ≤ 16777216) : rngOf [.d (.int (m : Int))] = some (rngD 0 m) := by
  rw [s_rng1, if_pos ⟨by omega, by simp [SZ]; omega⟩]; simp
theorem rng2_ok {a b : Int} (h1 : -1000000000 ≤ a) (h2 : a ≤ 1000000000) (h3 : -1000000000 ≤ b) (h4 : b ≤ 1000000000) (h : b - a ≤ 16777216) : rngOf [.d (.int a), .d (.int b)] = some (rngD a (b - a).toNat) := by
  rw [s_rng2, if_pos ⟨by omega, by omega, by omega, by omega, by simp [SZ]; omega⟩]
end Ev
end
section
set_option maxRecDepth 100000
/-! EvD: data that a law's own comparison takes for the same; the defs that stand in each law: _law_turn, _law_one_of, _law_same, _law_reel, _law_mixed. -/
namespace Ev
open PySem
/-- plain data, nested n deep at most; lists may be cells -/
def okD (h : List C) : Nat → D → Bool
  | _, .non => true
  | _, .bl _ => true
  | _, .int _ => true
  | _, .str s => PyData.strOk s
  | n + 1, .tup l => l.all (okD h n)
  | n + 1, .flst l => l.all (okD h n)
  | n + 1, .ref m => match h[m]? with
    | some (.lst l) => l.all (okD h n)
    | _ => false
  | _, _ => false
theorem eqV_str {s : Str} (e : PyData.strOk s = true) (t : Str) (e2 : PyData.strOk t = true) : eqV (.d (.str s)) (.d (.str t)) = some (s == t) := by
  have : eqV (.d (.str s)) (.d (.str t)) = if SeqAt.shaped (.str s) && SeqAt.shaped (.str t) then some (PyData.eqv (.str s) (.str t)) else none := rfl
  rw [this]
  have e1 : SeqAt.shaped (.str s) = true := by simp [SeqAt.shaped, PyData.canLay0, PyData.depth, e]
  have e3 : SeqAt.shaped (.str t) = true := by simp [SeqAt.shaped, PyData.canLay0, PyData.depth, e2]
  rw [e1, e3]
  simp [PyData.eqv]
@[simp] theorem eqV_bb (a b c d : Bool) : eqV (.c (.lst [.bl a, .bl b])) (.c (.lst [.bl c, .bl d])) = some (a == c && b == d) := by
  have : eqV (.c (.lst [.bl a, .bl b])) (.c (.lst [.bl c, .bl d])) = if SeqAt.shaped (.list [.bool a, .bool b]) && SeqAt.shaped (.list [.bool c, .bool d]) then some (PyData.eqv (.list [.bool a, .bool b]) (.list [.bool c, .bool d])) else none := rfl
  rw [this]
  simp [SeqAt.shaped, PyData.canLay0, PyData.canLayAll0, PyData.depth, PyData.depthAll, PyData.eqv, PyData.eqvAll]
theorem pds_int : ∀ l : List Int, pds (l.map D.int) = some (l.map PyData.int)
  | [] => rfl
  | i :: l => by simp [pds, pd, pds_int l]
theorem canLay_int : ∀ l : List Int, PyData.canLayAll0 (l.map PyData.int) = true
  | [] => rfl
  | i :: l => by simp [PyData.canLayAll0, PyData.canLay0, canLay_int l]
theorem depth_int : ∀ l : List Int, PyData.depthAll (l.map PyData.int) = 0
  | [] => rfl
  | i :: l => by simp [PyData.depthAll, PyData.depth, depth_int l]
/-- a list of ints and the empty list -/
theorem eqV_ints (l : List Int) : eqV (.c (.lst (l.map D.int))) (.c (.lst [])) = some l.isEmpty := by
  unfold eqV pdV
  simp only [pds_int, Option.map_some, pds]
  have s1 : SeqAt.shaped (.list (l.map PyData.int)) = true := by simp [SeqAt.shaped, PyData.canLay0, PyData.depth, canLay_int, depth_int]
  have s2 : SeqAt.shaped (.list []) = true := by simp [SeqAt.shaped, PyData.canLay0, PyData.depth, PyData.canLayAll0, PyData.depthAll]
  rw [s1, s2]
  cases l <;> simp [PyData.eqv, PyData.eqvAll]
/-! ### _law_same -/
def bSame (k : Nat) : Sms :=
(.cons (.ifs (.or_ (.op .isi (.cons (.var 1) (.cons (.cst (.ty "tuple")) .nil))) (.op .isi (.cons (.var 1) (.cons (.cst (.ty "list")) .nil)))) (.cons (.ifs (.or_ (.op (.cmp .NotEq) (.cons (.op .isi (.cons (.var 0) (.cons (.cst (.ty "tuple")) .nil))) (.cons (.op .isi (.cons (.var 1) (.cons (.cst (.ty "tuple")) .nil))) .nil))) (.op (.cmp .NotEq) (.cons (.op .isi (.cons (.var 0) (.cons (.cst (.ty "list")) .nil))) (.cons (.op .isi (.cons (.var 1) (.cons (.cst (.ty "list")) .nil))) .nil)))) (.cons (.ret (.cst (.bl false)))
 .nil) .nil)
 (.cons (.ret (.and_ (.op (.cmp .Eq) (.cons (.op .len (.cons (.var 0) .nil)) (.cons (.op .len (.cons (.var 1) .nil)) .nil))) (.op .all (.cons (.comp [3, 4] (.t [3, 4]) (.zip (.cons (.var 0) (.cons (.var 1) .nil))) .nil (.call k (.cons (.var 3) (.cons (.var 4) .nil)))) .nil))))
 .nil)) .nil)
 (.cons (.ifs (.or_ (.op .isn (.cons (.var 1) (.cons (.cst .non) .nil))) (.op .isn (.cons (.var 0) (.cons (.cst .non) .nil)))) (.cons (.ret (.and_ (.op .isn (.cons (.var 1) (.cons (.cst .non) .nil))) (.op .isn (.cons (.var 0) (.cons (.cst .non) .nil)))))
 .nil) .nil)
 (.cons (.asg 2 (.lst (.cons (.op (.cmp .Eq) (.cons (.op .isi (.cons (.var 0) (.cons (.cst (.ty "bool")) .nil))) (.cons (.op .isi (.cons (.var 1) (.cons (.cst (.ty "bool")) .nil))) .nil))) (.cons (.op (.cmp .Eq) (.cons (.op .isi (.cons (.var 0) (.cons (.cst (.ty "str")) .nil))) (.cons (.op .isi (.cons (.var 1) (.cons (.cst (.ty "str")) .nil))) .nil))) .nil))))
 (.cons (.ret (.and_ (.op (.cmp .Eq) (.cons (.var 2) (.cons (.lst (.cons (.cst (.bl true)) (.cons (.cst (.bl true)) .nil))) .nil))) (.op (.cmp .Eq) (.cons (.var 0) (.cons (.var 1) .nil)))))
 .nil))))
theorem zipD_self : ∀ l : List D, zipD l l = l.map fun x => .tup [x, x]
  | [] => rfl
  | x :: l => by simp [zipD, zipD_self l]
theorem boolsOf_true : ∀ {α : Type} (l : List α), boolsOf (l.map fun _ => D.bl true) = some (l.map fun _ => true)
  | _, [] => rfl
  | _, x :: l => by simp [boolsOf, boolsOf_true l]
section
variable {P : Nat → Option Fn} {k : Nat} (hP : P k = some ⟨2, 5, bSame k⟩)
include hP
/-- the comparison of items -/
theorem same_comp {n : Nat} {l : List D} {h : List C} {σ : List W} {ok : List W → List C → Bool} (hσ : σ.length = 5) (h3 : σ[3]? = some .none) (h4 : σ[4]? = some .none) (hok : ok σ h = true)
    (IH : ∀ x ∈ l, evCall P n k [.d x, .d x] h = .ok (.d (.bl true)) h) :
    compL [3, 4] (.t [3, 4]) (Ev.ret true) (ev (evCall P n) (.call k (.cons (.var 3) (.cons (.var 4) .nil)))) ok (zipD l l) σ h = .ok (l.map fun _ => .bl true) σ h := by
  rw [zipD_self]
  obtain ⟨a, b, c, d, e, rfl⟩ : ∃ a b c d e, σ = [a, b, c, d, e] := by
    match σ, hσ with
    | [a, b, c, d, e], _ => exact ⟨a, b, c, d, e, rfl⟩
  simp at h3 h4
  subst h3 h4
  rw [compL_pure (fun _ => true) (fun _ => .bl true) hok]
  · simp [List.filter_eq_self.mpr]
  · intro x hx
    obtain ⟨y, hy, rfl⟩ := List.mem_map.mp hx
    refine ⟨[a, b, c, .d y, .d y], [a, b, c, .d y, .d y], rfl, rfl, fun _ => ⟨.d (.bl true), [a, b, c, .d y, .d y], [a, b, c, .d y, .d y], ?_, rfl, rfl⟩, fun h => by cases h⟩
    simp [IH y hy]
theorem same_ok {n : Nat} : ∀ (m : Nat) (d : D) (h : List C), okD h m d = true → evCall P (n + m + 1) k [.d d, .d d] h = .ok (.d (.bl true)) h
  | m, .non, h, o => by rw [evCall_eq hP _ _ _ rfl]; simp [bSame]
  | m, .bl b, h, o => by rw [evCall_eq hP _ _ _ rfl]; simp [bSame]
  | m, .int i, h, o => by rw [evCall_eq hP _ _ _ rfl]; simp [bSame]
  | m, .str s, h, o => by
    have o : PyData.strOk s = true := by cases m <;> exact o
    rw [evCall_eq hP _ _ _ rfl]; simp [bSame, eqV_str o s o]
  | 0, .tup l, h, o => by cases o
  | 0, .flst l, h, o => by cases o
  | 0, .ref l, h, o => by cases o
  | m, .ty l, h, o => by cases m <;> cases o
  | m, .gf l, h, o => by cases m <;> cases o
  | m + 1, .tup l, h, o => by
    have IH : ∀ x ∈ l, evCall P (n + (m + 1)) k [.d x, .d x] h = .ok (.d (.bl true)) h := fun x hx => same_ok m x h (List.all_eq_true.mp o x hx)
    rw [evCall_eq hP _ _ _ rfl]
    have HC := same_comp hP (l := l) (h := h) (σ := [W.d (.tup l), W.d (.tup l), .none, .none, .none]) (ok := stands [.d (.tup l), .d (.tup l)] [l, l]) rfl rfl rfl (by simp [s_stc]) IH
    simp [bSame, wiping, wipeW, keepW, ownFree, s_stc, HC, boolsOf_true]
  | m + 1, .flst l, h, o => by
    have IH : ∀ x ∈ l, evCall P (n + (m + 1)) k [.d x, .d x] h = .ok (.d (.bl true)) h := fun x hx => same_ok m x h (List.all_eq_true.mp o x hx)
    rw [evCall_eq hP _ _ _ rfl]
    have HC := same_comp hP (l := l) (h := h) (σ := [W.d (.flst l), W.d (.flst l), .none, .none, .none]) (ok := stands [.d (.flst l), .d (.flst l)] [l, l]) rfl rfl rfl (by simp [s_stc]) IH
    simp [bSame, wiping, wipeW, keepW, ownFree, s_stc, HC, boolsOf_true]
  | m + 1, .ref a, h, o => by
    have : ∃ l, h[a]? = some (.lst l) ∧ l.all (okD h m) = true := by
      simp only [okD] at o
      split at o
      · exact ⟨_, by assumption, o⟩
      · cases o
    obtain ⟨l, e, o⟩ := this
    have IH : ∀ x ∈ l, evCall P (n + (m + 1)) k [.d x, .d x] h = .ok (.d (.bl true)) h := fun x hx => same_ok m x h (List.all_eq_true.mp o x hx)
    rw [evCall_eq hP _ _ _ rfl]
    have st : stands1 (.d (.ref a)) l [W.d (.ref a), W.d (.ref a), .none, .none, .none] h = true := by simp [stands1, e, beqDs_refl]
    have HC := same_comp hP (l := l) (h := h) (σ := [W.d (.ref a), W.d (.ref a), .none, .none, .none]) (ok := stands [.d (.ref a), .d (.ref a)] [l, l]) rfl rfl rfl (by simp [s_stc, st]) IH
    simp [bSame, wiping, wipeW, keepW, ownFree, s_stc, e, st, HC, boolsOf_true]
/-- a list's cell and a list that is handed over -/
theorem same_rc {n m : Nat} {a : Nat} {l : List D} {h : List C} (e : h[a]? = some (.lst l)) (o : l.all (okD h m) = true) : evCall P (n + m + 2) k [.d (.ref a), .c (.lst l)] h = .ok (.d (.bl true)) h := by
  have IH : ∀ x ∈ l, evCall P (n + m + 1) k [.d x, .d x] h = .ok (.d (.bl true)) h := fun x hx => same_ok hP m x h (List.all_eq_true.mp o x hx)
  rw [evCall_eq hP _ _ _ rfl]
  have st : stands1 (.d (.ref a)) l [W.d (.ref a), W.c (.lst l), .none, .none, .none] h = true := by simp [stands1, e, beqDs_refl]
  have st2 : stands1 (.s 1) l [W.d (.ref a), W.c (.lst l), .none, .none, .none] h = true := by simp [stands1, beqDs_refl]
  have HC := same_comp hP (l := l) (h := h) (σ := [W.d (.ref a), W.c (.lst l), .none, .none, .none]) (ok := stands [.d (.ref a), .s 1] [l, l]) rfl rfl rfl (by simp [s_stc, st, st2]) IH
  simp [bSame, wiping, wipeW, keepW, ownFree, s_stc, e, st, st2, HC, boolsOf_true]
theorem same_cc {n m : Nat} {l : List D} {h : List C} (o : l.all (okD h m) = true) : evCall P (n + m + 2) k [.c (.lst l), .c (.lst l)] h = .ok (.d (.bl true)) h := by
  have IH : ∀ x ∈ l, evCall P (n + m + 1) k [.d x, .d x] h = .ok (.d (.bl true)) h := fun x hx => same_ok hP m x h (List.all_eq_true.mp o x hx)
  rw [evCall_eq hP _ _ _ rfl]
  have st : stands1 (.s 0) l [W.c (.lst l), W.c (.lst l), .none, .none, .none] h = true := by simp [stands1, beqDs_refl]
  have st2 : stands1 (.s 1) l [W.c (.lst l), W.c (.lst l), .none, .none, .none] h = true := by simp [stands1, beqDs_refl]
  have HC := same_comp hP (l := l) (h := h) (σ := [W.c (.lst l), W.c (.lst l), .none, .none, .none]) (ok := stands [.s 0, .s 1] [l, l]) rfl rfl rfl (by simp [s_stc, st, st2]) IH
  simp [bSame, wiping, wipeW, keepW, ownFree, s_stc, st, st2, HC, boolsOf_true]
/-- two lists' cells -/
theorem same_rr {n m : Nat} {a b : Nat} {l : List D} {h : List C} (e : h[a]? = some (.lst l)) (e2 : h[b]? = some (.lst l)) (o : l.all (okD h m) = true) : evCall P (n + m + 2) k [.d (.ref a), .d (.ref b)] h = .ok (.d (.bl true)) h := by
  have IH : ∀ x ∈ l, evCall P (n + m + 1) k [.d x, .d x] h = .ok (.d (.bl true)) h := fun x hx => same_ok hP m x h (List.all_eq_true.mp o x hx)
  rw [evCall_eq hP _ _ _ rfl]
  have st : stands1 (.d (.ref a)) l [W.d (.ref a), W.d (.ref b), .none, .none, .none] h = true := by simp [stands1, e, beqDs_refl]
  have st2 : stands1 (.d (.ref b)) l [W.d (.ref a), W.d (.ref b), .none, .none, .none] h = true := by simp [stands1, e2, beqDs_refl]
  have HC := same_comp hP (l := l) (h := h) (σ := [W.d (.ref a), W.d (.ref b), .none, .none, .none]) (ok := stands [.d (.ref a), .d (.ref b)] [l, l]) rfl rfl rfl (by simp [s_stc, st, st2]) IH
  simp [bSame, wiping, wipeW, keepW, ownFree, s_stc, e, e2, st, st2, HC, boolsOf_true]
end
/-! ### the reel -/
def kW : D := .str (Str.ofString "wound")
def kO : D := .str (Str.ofString "odd")
def kE : D := .str (Str.ofString "end")
def reelC (w o e : Int) : C := .dic [(kW, .int w), (kO, .int o), (kE, .int e)]
/-- a reel -/
def Rl (c : C) : Prop := ∃ w o e, c = reelC w o e ∧ 0 ≤ w ∧ w < 2147483587 ∧ 0 ≤ o ∧ o < 1048573 ∧ 0 ≤ e ∧ e < 1000000000000000000000000000000000000000000
theorem reel_get (w o e : Int) : getK [(kW, .int w), (kO, .int o), (kE, .int e)] kW = some (.int w) ∧ getK [(kW, .int w), (kO, .int o), (kE, .int e)] kO = some (.int o) ∧ getK [(kW, .int w), (kO, .int o), (kE, .int e)] kE = some (.int e) := by
  have b1 : beqD kW kW = true := beqD_refl _
  have b2 : beqD kW kO = false := by decide
  have b3 : beqD kW kE = false := by decide
  have b4 : beqD kO kE = false := by decide
  have b5 : beqD kO kO = true := beqD_refl _
  have b6 : beqD kE kE = true := beqD_refl _
  simp [getK, b1, b2, b3, b4, b5, b6]
theorem reel_put (w o e x : Int) : putK [(kW, .int w), (kO, .int o), (kE, .int e)] kW (.int x) = [(kW, .int x), (kO, .int o), (kE, .int e)] ∧ putK [(kW, .int w), (kO, .int o), (kE, .int e)] kO (.int x) = [(kW, .int w), (kO, .int x), (kE, .int e)] ∧ putK [(kW, .int w), (kO, .int o), (kE, .int e)] kE (.int x) = [(kW, .int w), (kO, .int o), (kE, .int x)] := by
  have b1 : beqD kW kW = true := beqD_refl _
  have b2 : beqD kW kO = false := by decide
  have b3 : beqD kW kE = false := by decide
  have b4 : beqD kO kE = false := by decide
  have b5 : beqD kO kO = true := beqD_refl _
  have b6 : beqD kE kE = true := beqD_refl _
  have b7 : beqD kO kW = false := by decide
  have b8 : beqD kE kW = false := by decide
  have b9 : beqD kE kO = false := by decide
  simp [putK, b1, b2, b3, b4, b5, b6, b7, b8, b9]
def bTurn : Sms :=
(.cons (.ifs (.op (.cmp .Gt) (.cons (.op .idx (.cons (.var 0) (.cons (.cst kE) .nil))) (.cons (.cst (.int 0)) .nil))) (.cons (.asg 2 (.op (.bin .Mod) (.cons (.op .int (.cons (.op .idx (.cons (.var 0) (.cons (.cst kE) .nil))) .nil)) (.cons (.var 1) .nil))))
 (.cons (.sidx (.op (.bin .FloorDiv) (.cons (.op .idx (.cons (.var 0) (.cons (.cst kE) .nil))) (.cons (.var 1) .nil))) (.var 0) (.cst kE))
 (.cons (.ret (.var 2))
 .nil))) .nil)
 (.cons (.sidx (.op (.bin .Mod) (.cons (.op .int (.cons (.op (.bin .Add) (.cons (.op (.bin .Mult) (.cons (.op .idx (.cons (.var 0) (.cons (.cst kO) .nil))) (.cons (.cst (.int 1021)) .nil))) (.cons (.cst (.int 77)) .nil))) .nil)) (.cons (.cst (.int 1048573)) .nil))) (.var 0) (.cst kO))
 (.cons (.sidx (.op (.bin .Mod) (.cons (.op .int (.cons (.op (.bin .Add) (.cons (.op (.bin .Mult) (.cons (.op .idx (.cons (.var 0) (.cons (.cst kW) .nil))) (.cons (.cst (.int 16807)) .nil))) (.cons (.op .idx (.cons (.var 0) (.cons (.cst kO) .nil))) .nil))) .nil)) (.cons (.cst (.int 2147483587)) .nil))) (.var 0) (.cst kW))
 (.cons (.ret (.op (.bin .Mod) (.cons (.op .int (.cons (.op (.bin .FloorDiv) (.cons (.op .idx (.cons (.var 0) (.cons (.cst kW) .nil))) (.cons (.cst (.int 13)) .nil))) .nil)) (.cons (.var 1) .nil))))
 .nil))))
theorem vw_kW (h : List C) : vwD h kW = some (.d kW) := rfl
theorem vw_kO (h : List C) : vwD h kO = some (.d kO) := rfl
theorem vw_kE (h : List C) : vwD h kE = some (.d kE) := rfl
theorem ix_kW (l : List (D × D)) : idxV (.c (.dic l)) (.d kW) = (getK l kW).map .d := rfl
theorem ix_kO (l : List (D × D)) : idxV (.c (.dic l)) (.d kO) = (getK l kO).map .d := rfl
theorem ix_kE (l : List (D × D)) : idxV (.c (.dic l)) (.d kE) = (getK l kE).map .d := rfl
theorem mulOk_lt {i j : Int} (hi : i.natAbs < 2 ^ 10000) (hj : j.natAbs < 2 ^ 10000) : mulOk i j = true := by
  have a : i.natAbs.log2 < 10000 := by
    by_cases h : i.natAbs = 0
    · rw [h]; decide
    · exact (Nat.log2_lt h).mpr hi
  have b : j.natAbs.log2 < 10000 := by
    by_cases h : j.natAbs = 0
    · rw [h]; decide
    · exact (Nat.log2_lt h).mpr hj
  simp only [mulOk, decide_eq_true_eq]
  omega
theorem small_lt {i : Int} {k : Nat} (h : i.natAbs < 2 ^ k) (hk : k ≤ 10000) : i.natAbs < 2 ^ 10000 := Nat.lt_of_lt_of_le h (Nat.pow_le_pow_right (by omega) hk)
theorem turn_ok {P : Nat → Option Fn} {k n r : Nat} {m : Nat} {h : List C} {c : C} (hP : P k = some ⟨2, 3, bTurn⟩) (hr : h[r]? = some c) (R : Rl c) (hm : 0 < m) (hs : m < 16777217) :
    ∃ (v : Nat) (c' : C), v < m ∧ Rl c' ∧ evCall P (n + 1) k [.d (.ref r), .d (.int m)] h = .ok (.d (.int v)) (h.set r c') := by
  obtain ⟨w, o, e, rfl, w0, w1, o0, o1, e0, e1⟩ := R
  have hr' : h[r]? = some (.dic [(kW, .int w), (kO, .int o), (kE, .int e)]) := hr
  have hl : r < h.length := (List.getElem?_eq_some_iff.mp hr).1
  have lm : m.log2 < 9000 := by
    have : m.log2 < 25 := (Nat.log2_lt (by omega)).mpr (by omega)
    omega
  have m0 : (0 : Int) < m := by omega
  have szs : 3 < SZ := by decide
  have kk : keyOk kE = true ∧ keyOk kO = true ∧ keyOk kW = true := ⟨rfl, rfl, rfl⟩
  by_cases he : 0 < e
  · refine ⟨(e % m).toNat, reelC w o (e / m), ?_, ⟨w, o, e / m, rfl, w0, w1, o0, o1, Int.ediv_nonneg e0 (by omega), Int.lt_of_le_of_lt (Int.ediv_le_self _ e0) e1⟩, ?_⟩
    · have a := Int.emod_nonneg e (show (m : Int) ≠ 0 by omega)
      have b := Int.emod_lt_of_pos e m0
      omega
    · have a := Int.emod_nonneg e (show (m : Int) ≠ 0 by omega)
      rw [evCall_eq hP _ _ _ rfl]
      have f : ∀ c : C, fin h (.d (.int (e % m))) (h.set r c) = .ok (.d (.int (e % m))) (h.set r c) := fun c => fin_len (by simp)
      simp [bTurn, hr', vw_kE, ix_kE, reel_get, he, lm, hm, kk, szs, reel_put, f, reelC, Int.toNat_of_nonneg a]
  · have o2 := Int.emod_nonneg (o * 1021 + 77) (show (1048573 : Int) ≠ 0 by omega)
    have o3 := Int.emod_lt_of_pos (o * 1021 + 77) (show (0 : Int) < 1048573 by omega)
    generalize ho : (o * 1021 + 77) % 1048573 = o' at o2 o3
    have w2 := Int.emod_nonneg (w * 16807 + o') (show (2147483587 : Int) ≠ 0 by omega)
    have w3 := Int.emod_lt_of_pos (w * 16807 + o') (show (0 : Int) < 2147483587 by omega)
    generalize hw : (w * 16807 + o') % 2147483587 = w' at w2 w3
    have a := Int.emod_nonneg (w' / 13) (show (m : Int) ≠ 0 by omega)
    have b := Int.emod_lt_of_pos (w' / 13) m0
    refine ⟨(w' / 13 % m).toNat, reelC w' o' e, by omega, ⟨w', o', e, rfl, w2, w3, o2, o3, e0, e1⟩, ?_⟩
    rw [evCall_eq hP _ _ _ rfl]
    have m1 : mulOk o 1021 = true := mulOk_lt (small_lt (k := 32) (by omega) (by omega)) (small_lt (k := 32) (by decide) (by omega))
    have m2 : mulOk w 16807 = true := mulOk_lt (small_lt (k := 32) (by omega) (by omega)) (small_lt (k := 32) (by decide) (by omega))
    have l1 : Nat.log2 1048573 < 9000 := by decide
    have l2 : Nat.log2 2147483587 < 9000 := by decide
    have l3 : Nat.log2 13 < 9000 := by decide
    have f : ∀ c : C, fin h (.d (.int (w' / 13 % m))) (h.set r c) = .ok (.d (.int (w' / 13 % m))) (h.set r c) := fun c => fin_len (by simp)
    have g1 : ∀ c : C, (h.set r c)[r]? = some c := fun c => by simp [hl]
    simp [bTurn, hr', vw_kE, ix_kE, vw_kO, vw_kW, ix_kO, ix_kW, reel_get, he, lm, hm, kk, szs, reel_put, m1, ho, g1, m2, hw, l3, f, reelC, Int.toNat_of_nonneg a]
/-! ### one of some -/
def bOneOf (t : Nat) : Sms :=
(.cons (.ret (.op .idx (.cons (.var 1) (.cons (.call t (.cons (.var 0) (.cons (.op .len (.cons (.var 1) .nil)) .nil))) .nil))))
 .nil)
theorem one_ok {P : Nat → Option Fn} {k t n r : Nat} {l : List D} {h : List C} {c : C} (hP : P k = some ⟨2, 2, bOneOf t⟩) (hT : P t = some ⟨2, 3, bTurn⟩) (hr : h[r]? = some c) (R : Rl c) (hm : 0 < l.length) (hs : l.length < 16777217) :
    ∃ (x : D) (i : Nat) (c' : C), l[i]? = some x ∧ Rl c' ∧ evCall P (n + 2) k [.d (.ref r), .c (.lst l)] h = .ok (.d x) (h.set r c') := by
  obtain ⟨v, c', hv, R', e⟩ := turn_ok (n := n) hT hr R hm hs
  refine ⟨l[v], v, c', List.getElem?_eq_getElem hv, R', ?_⟩
  rw [evCall_eq hP _ _ _ rfl]
  have f : fin h (.d l[v]) (h.set r c') = .ok (.d l[v]) (h.set r c') := fin_len (by simp)
  simp [bOneOf, e, atI_nat, List.getElem?_eq_getElem hv, f]
theorem one_t {P : Nat → Option Fn} {k t n r : Nat} {l : List D} {h : List C} {c : C} (hP : P k = some ⟨2, 2, bOneOf t⟩) (hT : P t = some ⟨2, 3, bTurn⟩) (hr : h[r]? = some c) (R : Rl c) (hm : 0 < l.length) (hs : l.length < 16777217) :
    ∃ (x : D) (i : Nat) (c' : C), l[i]? = some x ∧ Rl c' ∧ evCall P (n + 2) k [.d (.ref r), .d (.tup l)] h = .ok (.d x) (h.set r c') := by
  obtain ⟨v, c', hv, R', e⟩ := turn_ok (n := n) hT hr R hm hs
  refine ⟨l[v], v, c', List.getElem?_eq_getElem hv, R', ?_⟩
  rw [evCall_eq hP _ _ _ rfl]
  have f : fin h (.d l[v]) (h.set r c') = .ok (.d l[v]) (h.set r c') := fin_len (by simp)
  simp [bOneOf, e, atI_nat, List.getElem?_eq_getElem hv, f]
theorem one_r {P : Nat → Option Fn} {k t n r a : Nat} {l : List D} {h : List C} {c : C} (hP : P k = some ⟨2, 2, bOneOf t⟩) (hT : P t = some ⟨2, 3, bTurn⟩) (hr : h[r]? = some c) (ha : h[a]? = some (.lst l)) (R : Rl c) (hm : 0 < l.length) (hs : l.length < 16777217) :
    ∃ (x : D) (i : Nat) (c' : C), l[i]? = some x ∧ Rl c' ∧ evCall P (n + 2) k [.d (.ref r), .d (.ref a)] h = .ok (.d x) (h.set r c') := by
  obtain ⟨v, c', hv, R', e⟩ := turn_ok (n := n) hT hr R hm hs
  refine ⟨l[v], v, c', List.getElem?_eq_getElem hv, R', ?_⟩
  rw [evCall_eq hP _ _ _ rfl]
  have f : fin h (.d l[v]) (h.set r c') = .ok (.d l[v]) (h.set r c') := fin_len (by simp)
  have ne : r ≠ a := fun z => by
    subst z; rw [hr] at ha; cases ha
    obtain ⟨_, _, _, e, _⟩ := R; cases e
  have g : (h.set r c')[a]? = some (.lst l) := by rw [List.getElem?_set_ne ne, ha]
  simp [bOneOf, e, ha, g, atI_nat, List.getElem?_eq_getElem hv, f]
/-! ### the reel's make -/
def reelEnd : Sms := (.cons (.ret (.dict [kW, kO, kE] (.cons (.var 2) (.cons (.var 3) (.cons (.ite (.op (.cmp .Gt) (.cons (.var 6) (.cons (.op (.bin .Pow) (.cons (.cst (.int 10)) (.cons (.cst (.int 14)) .nil))) .nil))) (.op (.bin .Mod) (.cons (.op .int (.cons (.var 6) .nil)) (.cons (.op (.bin .Pow) (.cons (.cst (.int 10)) (.cons (.cst (.int 42)) .nil))) .nil))) (.cst (.int 0))) .nil)))))
 .nil)
def bReel : Sms :=
(.cons (.par 2 3 (.cons (.op (.bin .Add) (.cons (.cst (.int 31337)) (.cons (.op (.bin .Mult) (.cons (.cst (.int 59)) (.cons (.var 1) .nil))) .nil))) (.cons (.op (.bin .Add) (.cons (.cst (.int 7)) (.cons (.var 1) .nil))) .nil)))
 (.cons (.for_ (.t [4, 5]) (.enum (.cons (.op .list (.cons (.op (.sli false true) (.cons (.var 0) (.cons (.cst (.int 9)) .nil))) .nil)) .nil)) (.cons (.asg 2 (.op (.bin .Mod) (.cons (.op .int (.cons (.op (.bin .Add) (.cons (.op (.bin .Add) (.cons (.op (.bin .Mult) (.cons (.var 2) (.cons (.cst (.int 27449)) .nil))) (.cons (.op (.bin .Mod) (.cons (.op .int (.cons (.var 5) .nil)) (.cons (.cst (.int 1999999973)) .nil))) .nil))) (.cons (.var 4) .nil))) .nil)) (.cons (.cst (.int 2147483587)) .nil))))
 (.cons (.asg 3 (.op (.bin .Mod) (.cons (.op .int (.cons (.op (.bin .Add) (.cons (.op (.bin .Mult) (.cons (.var 3) (.cons (.cst (.int 131)) .nil))) (.cons (.op (.bin .Mod) (.cons (.op .int (.cons (.var 5) .nil)) (.cons (.cst (.int 8191)) .nil))) .nil))) .nil)) (.cons (.cst (.int 1048573)) .nil))))
 .nil)))
 (.cons (.asgH 6 (.ite (.op (.cmp .Lt) (.cons (.var 1) (.cons (.op .len (.cons (.var 0) .nil)) .nil))) (.op .abs (.cons (.op .int (.cons (.op .idx (.cons (.var 0) (.cons (.var 1) .nil))) .nil)) .nil)) (.cst (.int 0))))
 reelEnd)))
theorem reel_ok {P : Nat → Option Fn} {k n : Nat} {lap : Nat} {h : List C} {s : D} {ns : List Int} (hP : P k = some ⟨2, 7, bReel⟩) (hlap : lap < 1000)
    (hs : vwD h s = some (.c (.lst (ns.map .int))) ∨ vwD h s = some (.d (.flst (ns.map .int)))) :
    ∃ c : C, Rl c ∧ evCall P (n + 1) k [.d s, .d (.int lap)] h = .ok (.c c) h := by
  have lI : mulOk 59 (lap : Int) = true := mulOk_lt (small_lt (k := 32) (by decide) (by omega)) (small_lt (k := 32) (by omega) (by omega))
  have L := forL_nx (tg := .t [4, 5]) (body := evSs (evCall P n) (.cons (.asg 2 (.op (.bin .Mod) (.cons (.op .int (.cons (.op (.bin .Add) (.cons (.op (.bin .Add) (.cons (.op (.bin .Mult) (.cons (.var 2) (.cons (.cst (.int 27449)) .nil))) (.cons (.op (.bin .Mod) (.cons (.op .int (.cons (.var 5) .nil)) (.cons (.cst (.int 1999999973)) .nil))) .nil))) (.cons (.var 4) .nil))) .nil)) (.cons (.cst (.int 2147483587)) .nil))))
 (.cons (.asg 3 (.op (.bin .Mod) (.cons (.op .int (.cons (.op (.bin .Add) (.cons (.op (.bin .Mult) (.cons (.var 3) (.cons (.cst (.int 131)) .nil))) (.cons (.op (.bin .Mod) (.cons (.op .int (.cons (.var 5) .nil)) (.cons (.cst (.int 8191)) .nil))) .nil))) .nil)) (.cons (.cst (.int 1048573)) .nil))))
 .nil))) (ok := stands [.c (.lst ((ns.map D.int).take 9))] [(ns.map D.int).take 9]) (xs := enumD 0 ((ns.map D.int).take 9))
    (fun i σ h' => ∃ (x y : Int) (a b : W), h' = h ∧ 0 ≤ x ∧ x < 2147483587 ∧ 0 ≤ y ∧ y < 1048573 ∧ σ = [.d s, .d (.int lap), .d (.int x), .d (.int y), a, b, .none])
    (σ := [.d s, .d (.int lap), .d (.int (31337 + 59 * lap)), .d (.int (7 + lap)), .none, .none, .none]) (h := h) ⟨_, _, _, _, rfl, by omega, by omega, by omega, by omega, rfl⟩ (by
      rintro i z σ h' ez ⟨x, y, a, b, rfl, x0, x1, y0, y1, rfl⟩
      rw [enumL_get] at ez
      cases e9 : ((ns.map D.int).take 9)[i]? with
      | none => rw [e9] at ez; cases ez
      | some v =>
        rw [e9] at ez
        cases ez
        have mem := List.mem_of_getElem? e9
        obtain ⟨j, _, rfl⟩ := List.mem_map.mp (List.mem_of_mem_take mem)
        have m1 : mulOk x 27449 = true := mulOk_lt (small_lt (k := 32) (by omega) (by omega)) (small_lt (k := 32) (by decide) (by omega))
        have m2 : mulOk y 131 = true := mulOk_lt (small_lt (k := 32) (by omega) (by omega)) (small_lt (k := 32) (by decide) (by omega))
        refine ⟨[.d s, .d (.int lap), .d (.int x), .d (.int y), .d (.int ((0 + i : Nat) : Int)), .d (.int j), .none], h', [.d s, .d (.int lap), .d (.int ((x * 27449 + j % 1999999973 + ((0 + i : Nat) : Int)) % 2147483587)), .d (.int ((y * 131 + j % 8191) % 1048573)), .d (.int ((0 + i : Nat) : Int)), .d (.int j), .none], h', rfl, ?_, by simp [s_stc], _, _, _, _, rfl, Int.emod_nonneg _ (by omega), Int.emod_lt_of_pos _ (by omega), Int.emod_nonneg _ (by omega), Int.emod_lt_of_pos _ (by omega), rfl⟩
        simp [m1, m2])
  obtain ⟨σ', h', e, x, y, a, b, rfl, x0, x1, y0, y1, rfl⟩ := L
  have dk : ∀ x y z : Int, (([kW, kO, kE].zip [D.int x, D.int y, D.int z]).foldl (fun kvs p => putK kvs p.1 p.2) []) = [(kW, .int x), (kO, .int y), (kE, .int z)] := by
    intro x y z
    have b7 : beqD kW kO = false := by decide
    have b8 : beqD kW kE = false := by decide
    have b9 : beqD kO kE = false := by decide
    simp [putK, b7, b8, b9]
  have p14 : (10 : Int) ^ (14 : Nat) = 100000000000000 := by decide
  have p42 : (10 : Int) ^ (42 : Nat) = 1000000000000000000000000000000000000000000 := by decide
  have step : ∀ z : Int, 0 ≤ z → ∃ c : C, Rl c ∧ (F.toRC h' (evSs (evCall P n) reelEnd [.d s, .d (.int lap), .d (.int x), .d (.int y), a, b, .d (.int z)] h')) = .ok (.c c) h' := by
    intro z hz
    by_cases hb : 100000000000000 < z
    · refine ⟨reelC x y (z % 1000000000000000000000000000000000000000000), ⟨_, _, _, rfl, x0, x1, y0, y1, Int.emod_nonneg _ (by omega), Int.emod_lt_of_pos _ (by omega)⟩, ?_⟩
      simp [reelEnd, p14, p42, hb, dk, reelC, -List.foldl_cons, -List.zip_cons_cons]
    · refine ⟨reelC x y 0, ⟨_, _, _, rfl, x0, x1, y0, y1, by omega, by omega⟩, ?_⟩
      simp [reelEnd, p14, p42, hb, dk, reelC, -List.foldl_cons, -List.zip_cons_cons]
  have c9 : cut (ns.map D.int) none (some 9) = (ns.map D.int).take 9 := cut_to _ 9
  by_cases hl : lap < ns.length
  · obtain ⟨c, R, es⟩ := step (if ns[lap] < 0 then -ns[lap] else ns[lap]) (by split <;> omega)
    refine ⟨c, R, ?_⟩
    rw [evCall_eq hP _ _ _ rfl, ← es]
    rcases hs with hs | hs <;> simp [bReel, hs, lI, c9, e, atI_nat, hl]
  · obtain ⟨c, R, es⟩ := step 0 (by omega)
    refine ⟨c, R, ?_⟩
    rw [evCall_eq hP _ _ _ rfl, ← es]
    rcases hs with hs | hs <;> simp [bReel, hs, lI, c9, e, atI_nat, hl]
/-! ### cleaning -/
theorem refsC_reel {n : Nat} {c : C} (R : Rl c) : refsC n c = true := by
  obtain ⟨w, o, e, rfl, _⟩ := R
  simp [reelC, refsC, refsD, kW, kO, kE]
theorem isTb_reel {c : C} (R : Rl c) : isTb c = false := by
  obtain ⟨w, o, e, rfl, _⟩ := R
  rfl
theorem closedB_app {n : Nat} {ext : List C} (he : ext.all (fun c => !isTb c) = true) : ∀ h : List C, closedB n h (h ++ ext) = true
  | [] => by simpa [closedB] using he
  | c :: h => by
    have := closedB_app (n := n) he h
    simp [closedB, beqC_refl, this]
theorem closedB_set {n : Nat} {ext : List C} (he : ext.all (fun c => !isTb c) = true) {c' : C} (hc : refsC n c' = true) : ∀ (h : List C) (r : Nat), closedB n h (h.set r c' ++ ext) = true
  | [], r => by simpa [closedB] using he
  | c :: h, 0 => by
    have := closedB_app (n := n) he h
    simp [closedB, hc, this]
  | c :: h, r + 1 => by
    have := closedB_set (n := n) he hc h r
    simp [closedB, beqC_refl, this]
/-- a call that turned the reel on and made cells of its own -/
theorem fin_reel {h ext : List C} {r : Nat} {c' : C} {x : D} (R : Rl c') (he : ext.all (fun c => !isTb c) = true) (hx : refsD h.length x = true) : fin h (.d x) (h.set r c' ++ ext) = .ok (.d x) (h.set r c') := by
  unfold fin
  cases ext with
  | nil => simp
  | cons e ext =>
    rw [if_neg (by simp), if_pos (closedB_set he (refsC_reel R) h r)]
    simp [refsW, hx]
theorem fin_ext {h ext : List C} {x : D} (he : ext.all (fun c => !isTb c) = true) (hx : refsD h.length x = true) : fin h (.d x) (h ++ ext) = .ok (.d x) h := by
  unfold fin
  cases ext with
  | nil => simp
  | cons e ext =>
    rw [if_neg (by simp), if_pos (closedB_app he h)]
    simp [refsW, hx]
theorem set_get {h : List C} {r : Nat} {c c' : C} (e : h[r]? = some c) : (h.set r c')[r]? = some c' := by
  have := (List.getElem?_eq_some_iff.mp e).1
  simp [this]
theorem turn_i {P : Nat → Option Fn} {k n r : Nat} {h : List C} {c : C} (m : Int) (hP : P k = some ⟨2, 3, bTurn⟩) (hr : h[r]? = some c) (R : Rl c) (hm : 0 < m) (hs : m < 16777217) :
    ∃ (v : Nat) (c' : C), (v : Int) < m ∧ Rl c' ∧ evCall P (n + 1) k [.d (.ref r), .d (.int m)] h = .ok (.d (.int v)) (h.set r c') := by
  obtain ⟨v, c', hv, R', e⟩ := turn_ok (n := n) (m := m.toNat) hP hr R (by omega) (by omega)
  rw [Int.toNat_of_nonneg (by omega)] at e
  exact ⟨v, c', by omega, R', e⟩
end Ev
end
section
set_option maxRecDepth 100000
namespace Lk85
open PySem Ev
/-! 38 _law_refused (catches, asks) -/
def hs38 : List (Nat × Nat × D × D) := [(500002, 33, (.str (Str.ofString "number")), (.str (Str.ofString "odd"))), (500001, 33, (.str (Str.ofString "shape")), (.str (Str.ofString "odd")))]
def af38 : D := (.str (Str.ofString ""))
/-! 0 is_whole(0 value) -/
def b0 : Sms := (.cons (.ret (.and_ (.op .isi (.cons (.var 0) (.cons (.cst (.ty "int")) .nil))) (.not_ (.op .isi (.cons (.var 0) (.cons (.cst (.ty "bool")) .nil))))))
 .nil)
/-! 1 is_between(0 value, 1 low, 2 high) -/
def b1 : Sms := (.cons (.ret (.and_ (.call 0 (.cons (.var 0) .nil)) (.chain .LtE .LtE (.var 1) (.var 0) (.var 2))))
 .nil)
/-! 2 shape_ok(0 value, 1 lines, 2 middles, 3 rooms) -/
def b2 : Sms := (.cons (.ifs (.or_ (.not_ (.op .isi (.cons (.var 0) (.cons (.cst (.ty "tuple")) .nil)))) (.op (.cmp .NotEq) (.cons (.op .len (.cons (.var 0) .nil)) (.cons (.cst (.int 3)) .nil)))) (.cons (.ret (.cst (.bl false)))
 .nil) .nil)
 (.cons (.unp [1, 2, 3] (.var 0))
 (.cons (.ifs (.or_ (.not_ (.call 1 (.cons (.var 1) (.cons (.cst (.int 1)) (.cons (.cst (.int 4)) .nil))))) (.not_ (.call 1 (.cons (.var 2) (.cons (.cst (.int 1)) (.cons (.cst (.int 6)) .nil)))))) (.cons (.ret (.cst (.bl false)))
 .nil) .nil)
 (.cons (.ret (.call 1 (.cons (.var 3) (.cons (.cst (.int 1)) (.cons (.cst (.int 4)) .nil)))))
 .nil))))
/-! 3 line_count_by(0 shape) -/
def b3 : Sms := (.cons (.ret (.op (.bin .Mult) (.cons (.op .idx (.cons (.var 0) (.cons (.cst (.int 0)) .nil))) (.cons (.op .idx (.cons (.var 0) (.cons (.cst (.int 2)) .nil))) .nil))))
 .nil)
/-! 4 room_by(0 shape, 1 line) -/
def b4 : Sms := (.cons (.ret (.op (.bin .FloorDiv) (.cons (.var 1) (.cons (.op .idx (.cons (.var 0) (.cons (.cst (.int 0)) .nil))) .nil))))
 .nil)
/-! 5 call_ok(0 shape, 1 value, 2 most) -/
def b5 : Sms := (.cons (.ifs (.or_ (.not_ (.op .isi (.cons (.var 1) (.cons (.cst (.ty "tuple")) .nil)))) (.op (.cmp .NotEq) (.cons (.op .len (.cons (.var 1) .nil)) (.cons (.cst (.int 2)) .nil)))) (.cons (.ret (.cst (.bl false)))
 .nil) .nil)
 (.cons (.asg 2 (.op (.bin .Sub) (.cons (.call 3 (.cons (.var 0) .nil)) (.cons (.cst (.int 1)) .nil))))
 (.cons (.ret (.and_ (.call 1 (.cons (.op .idx (.cons (.var 1) (.cons (.cst (.int 0)) .nil))) (.cons (.cst (.int 0)) (.cons (.var 2) .nil)))) (.call 1 (.cons (.op .idx (.cons (.var 1) (.cons (.cst (.int 1)) .nil))) (.cons (.cst (.int 0)) (.cons (.var 2) .nil))))))
 .nil)))
/-! 6 first_wrong_call(0 shape, 1 value, 2 outlets, 3 index, 4 call) -/
def b6f1 : Sms := (.cons (.ifs (.or_ (.not_ (.call 5 (.cons (.var 0) (.cons (.var 4) .nil)))) (.op (.cmp .In) (.cons (.op .idx (.cons (.var 4) (.cons (.cst (.int 1)) .nil))) (.cons (.var 2) .nil)))) (.cons (.ret (.var 3))
 .nil) .nil)
 (.cons (.ifs (.and_ (.op (.cmp .Gt) (.cons (.var 3) (.cons (.cst (.int 0)) .nil))) (.op (.cmp .LtE) (.cons (.op .idx (.cons (.var 4) (.cons (.cst (.int 0)) .nil))) (.cons (.op .idx (.cons (.op .idx (.cons (.var 1) (.cons (.op (.bin .Sub) (.cons (.var 3) (.cons (.cst (.int 1)) .nil))) .nil))) (.cons (.cst (.int 0)) .nil))) .nil)))) (.cons (.ret (.var 3))
 .nil) .nil)
 (.cons (.sidx (.cst (.bl true)) (.var 2) (.op .idx (.cons (.var 4) (.cons (.cst (.int 1)) .nil))))
 .nil)))
def b6 : Sms := (.cons (.asg 2 (.dict [] .nil))
 (.cons (.for_ (.t [3, 4]) (.enum (.cons (.var 1) .nil)) b6f1)
 (.cons (.ret (.cst .non))
 .nil)))
/-! 7 room_calls(0 shape, 1 calls, 2 firsts, 3 lasts, 4 inlet, 5 outlet, 6 _) -/
def b7f1 : Sms := (.cons (.aidx (.var 2) (.call 4 (.cons (.var 0) (.cons (.var 4) .nil))) .Add (.cst (.int 1)))
 (.cons (.aidx (.var 3) (.call 4 (.cons (.var 0) (.cons (.var 5) .nil))) .Add (.cst (.int 1)))
 .nil))
def b7 : Sms := (.cons (.asg 2 (.comp [6] (.n 6) (.rng (.cons (.op .idx (.cons (.var 0) (.cons (.cst (.int 2)) .nil))) .nil)) .nil (.cst (.int 0))))
 (.cons (.asg 3 (.comp [6] (.n 6) (.rng (.cons (.op .idx (.cons (.var 0) (.cons (.cst (.int 2)) .nil))) .nil)) .nil (.cst (.int 0))))
 (.cons (.for_ (.t [4, 5]) (.seq (.var 1)) b7f1)
 (.cons (.ret (.tup (.cons (.var 2) (.cons (.var 3) .nil))))
 .nil))))
/-! 8 overfull_by(0 shape, 1 calls, 2 firsts, 3 lasts, 4 told, 5 room, 6 many) -/
def b8t1 : Exs := (.cons (.op (.cmp .Gt) (.cons (.var 6) (.cons (.op .idx (.cons (.var 0) (.cons (.cst (.int 1)) .nil))) .nil))) .nil)
def b8e1 : Ex := (.tup (.cons (.cst (.str (Str.ofString "first"))) (.cons (.var 5) .nil)))
def b8t2 : Exs := (.cons (.op (.cmp .Gt) (.cons (.var 6) (.cons (.op .idx (.cons (.var 0) (.cons (.cst (.int 1)) .nil))) .nil))) .nil)
def b8e2 : Ex := (.tup (.cons (.cst (.str (Str.ofString "last"))) (.cons (.var 5) .nil)))
def b8 : Sms := (.cons (.unp [2, 3] (.call 7 (.cons (.var 0) (.cons (.var 1) .nil))))
 (.cons (.asg 4 (.comp [5, 6] (.t [5, 6]) (.enum (.cons (.var 2) .nil)) b8t1 b8e1))
 (.cons (.expr (.mth .extend (.var 4) (.cons (.comp [5, 6] (.t [5, 6]) (.enum (.cons (.var 3) .nil)) b8t2 b8e2) .nil)))
 (.cons (.ret (.op .tuple (.cons (.var 4) .nil)))
 .nil))))
/-! 9 can_lead_by(0 shape, 1 calls) -/
def b9 : Sms := (.cons (.ret (.op (.cmp .Eq) (.cons (.op .len (.cons (.call 8 (.cons (.var 0) (.cons (.var 1) .nil))) .nil)) (.cons (.cst (.int 0)) .nil))))
 .nil)
/-! 10 check_number(0 value, 1 low, 2 high) -/
def b10 : Sms := (.cons (.ifs (.not_ (.call 1 (.cons (.var 0) (.cons (.var 1) (.cons (.var 2) .nil))))) (.cons (.rais 500002 (.var 0))
 .nil) .nil)
 .nil)
/-! 11 check_shape(0 shape) -/
def b11 : Sms := (.cons (.ifs (.not_ (.call 2 (.cons (.var 0) .nil))) (.cons (.rais 500001 (.var 0))
 .nil) .nil)
 .nil)
/-! 12 check_calls(0 shape, 1 calls, 2 index) -/
def b12 : Sms := (.cons (.ifs (.not_ (.op .isi (.cons (.var 1) (.cons (.cst (.ty "tuple")) .nil)))) (.cons (.rais 500003 (.cst .non))
 .nil) .nil)
 (.cons (.asg 2 (.call 6 (.cons (.var 0) (.cons (.var 1) .nil))))
 (.cons (.ifs (.op .notn (.cons (.var 2) (.cons (.cst .non) .nil))) (.cons (.rais 500003 (.var 2))
 .nil) .nil)
 .nil)))
/-! 13 crosses_by(0 lines, 1 middles, 2 rooms) -/
def b13 : Sms := (.cons (.ret (.op (.bin .Add) (.cons (.op (.bin .Mult) (.cons (.op (.bin .Mult) (.cons (.op (.bin .Mult) (.cons (.cst (.int 2)) (.cons (.var 2) .nil))) (.cons (.var 0) .nil))) (.cons (.var 1) .nil))) (.cons (.op (.bin .Mult) (.cons (.op (.bin .Mult) (.cons (.var 1) (.cons (.var 2) .nil))) (.cons (.var 2) .nil))) .nil))))
 .nil)
/-! 14 never_rooms(0 lines, 1 rooms) -/
def b14 : Sms := (.cons (.ret (.ite (.op (.cmp .Eq) (.cons (.var 1) (.cons (.cst (.int 1)) .nil))) (.var 0) (.op (.bin .Sub) (.cons (.op (.bin .Mult) (.cons (.cst (.int 2)) (.cons (.var 0) .nil))) (.cons (.cst (.int 1)) .nil)))))
 .nil)
/-! 15 led_rooms(0 lines, 1 rooms) -/
def b15 : Sms := (.cons (.ret (.var 0))
 .nil)
/-! 16 partings_of(0 number, 1 lines) -/
def b16t1 : Exs := (.cons (.op (.cmp .Eq) (.cons (.op (.bin .Mod) (.cons (.var 0) (.cons (.var 1) .nil))) (.cons (.cst (.int 0)) .nil))) .nil)
def b16e1 : Ex := (.tup (.cons (.var 1) (.cons (.op (.bin .FloorDiv) (.cons (.var 0) (.cons (.var 1) .nil))) .nil)))
def b16 : Sms := (.cons (.ret (.comp [1] (.n 1) (.rng (.cons (.cst (.int 1)) (.cons (.op (.bin .Add) (.cons (.var 0) (.cons (.cst (.int 1)) .nil))) .nil))) b16t1 b16e1))
 .nil)
/-! 17 cheapest_by(0 number, 1 middles_of, 2 found, 3 lines, 4 rooms, 5 middles) -/
def b17f1 : Sms := (.cons (.asg 5 (.callv 1 [14, 15] (.cons (.var 3) (.cons (.var 4) .nil))))
 (.cons (.expr (.mth .append (.var 2) (.cons (.tup (.cons (.call 13 (.cons (.var 3) (.cons (.var 5) (.cons (.var 4) .nil)))) (.cons (.tup (.cons (.var 3) (.cons (.var 5) (.cons (.var 4) .nil)))) .nil))) .nil)))
 .nil))
def b17 : Sms := (.cons (.asg 2 (.lst .nil))
 (.cons (.for_ (.t [3, 4]) (.seq (.call 16 (.cons (.var 0) .nil))) b17f1)
 (.cons (.ret (.op .min (.cons (.var 2) .nil)))
 .nil)))
/-! 18 single_by(0 number) -/
def b18 : Sms := (.cons (.ret (.op (.bin .Mult) (.cons (.var 0) (.cons (.var 0) .nil))))
 .nil)
/-! 19 check_many_lines(0 number) -/
def b19 : Sms := (.cons (.expr (.call 10 (.cons (.var 0) (.cons (.cst (.int 1)) (.cons (.cst (.int 400)) .nil)))))
 .nil)
/-! 20 crosses_of(0 shape) -/
def b20 : Sms := (.cons (.expr (.call 11 (.cons (.var 0) .nil)))
 (.cons (.ret (.call 13 (.cons (.op .idx (.cons (.var 0) (.cons (.cst (.int 0)) .nil))) (.cons (.op .idx (.cons (.var 0) (.cons (.cst (.int 1)) .nil))) (.cons (.op .idx (.cons (.var 0) (.cons (.cst (.int 2)) .nil))) .nil)))))
 .nil))
/-! 21 cheapest_never(0 number) -/
def b21 : Sms := (.cons (.expr (.call 19 (.cons (.var 0) .nil)))
 (.cons (.ret (.call 17 (.cons (.var 0) (.cons (.cst (.gf 14)) .nil))))
 .nil))
/-! 22 cheapest_led(0 number) -/
def b22 : Sms := (.cons (.expr (.call 19 (.cons (.var 0) .nil)))
 (.cons (.ret (.call 17 (.cons (.var 0) (.cons (.cst (.gf 15)) .nil))))
 .nil))
/-! 23 is_single_cheaper(0 number) -/
def b23 : Sms := (.cons (.expr (.call 19 (.cons (.var 0) .nil)))
 (.cons (.ret (.op (.cmp .Lt) (.cons (.call 18 (.cons (.var 0) .nil)) (.cons (.op .idx (.cons (.call 17 (.cons (.var 0) (.cons (.cst (.gf 14)) .nil))) (.cons (.cst (.int 0)) .nil))) .nil))))
 .nil))
/-! 24 fewest_by(0 shape) -/
def b24 : Sms := (.cons (.ifs (.op (.cmp .Eq) (.cons (.op .idx (.cons (.var 0) (.cons (.cst (.int 2)) .nil))) (.cons (.cst (.int 1)) .nil))) (.cons (.ret (.op .idx (.cons (.var 0) (.cons (.cst (.int 0)) .nil))))
 .nil) .nil)
 (.cons (.ret (.op (.bin .Sub) (.cons (.op (.bin .Mult) (.cons (.cst (.int 2)) (.cons (.op .idx (.cons (.var 0) (.cons (.cst (.int 0)) .nil))) .nil))) (.cons (.cst (.int 1)) .nil))))
 .nil))
/-! 25 never_by(0 shape) -/
def b25 : Sms := (.cons (.ret (.op (.cmp .GtE) (.cons (.op .idx (.cons (.var 0) (.cons (.cst (.int 1)) .nil))) (.cons (.call 24 (.cons (.var 0) .nil)) .nil))))
 .nil)
/-! 26 never_blocks(0 shape) -/
def b26 : Sms := (.cons (.expr (.call 11 (.cons (.var 0) .nil)))
 (.cons (.ret (.call 25 (.cons (.var 0) .nil)))
 .nil))
/-! 27 fewest_rooms(0 shape) -/
def b27 : Sms := (.cons (.expr (.call 11 (.cons (.var 0) .nil)))
 (.cons (.ret (.call 24 (.cons (.var 0) .nil)))
 .nil))
/-! 28 can_lead(0 shape, 1 calls) -/
def b28 : Sms := (.cons (.expr (.call 11 (.cons (.var 0) .nil)))
 (.cons (.expr (.call 12 (.cons (.var 0) (.cons (.var 1) .nil))))
 (.cons (.ret (.call 9 (.cons (.var 0) (.cons (.var 1) .nil))))
 .nil)))
/-! 29 _law_reel(0 script, 1 lap, 2 wound, 3 odd, 4 at, 5 cell, 6 long) -/
def b29f1 : Sms := (.cons (.asg 2 (.op (.bin .Mod) (.cons (.op .int (.cons (.op (.bin .Add) (.cons (.op (.bin .Add) (.cons (.op (.bin .Mult) (.cons (.var 2) (.cons (.cst (.int 27449)) .nil))) (.cons (.op (.bin .Mod) (.cons (.op .int (.cons (.var 5) .nil)) (.cons (.cst (.int 1999999973)) .nil))) .nil))) (.cons (.var 4) .nil))) .nil)) (.cons (.cst (.int 2147483587)) .nil))))
 (.cons (.asg 3 (.op (.bin .Mod) (.cons (.op .int (.cons (.op (.bin .Add) (.cons (.op (.bin .Mult) (.cons (.var 3) (.cons (.cst (.int 131)) .nil))) (.cons (.op (.bin .Mod) (.cons (.op .int (.cons (.var 5) .nil)) (.cons (.cst (.int 8191)) .nil))) .nil))) .nil)) (.cons (.cst (.int 1048573)) .nil))))
 .nil))
def b29 : Sms := (.cons (.par 2 3 (.cons (.op (.bin .Add) (.cons (.cst (.int 31337)) (.cons (.op (.bin .Mult) (.cons (.cst (.int 59)) (.cons (.var 1) .nil))) .nil))) (.cons (.op (.bin .Add) (.cons (.cst (.int 7)) (.cons (.var 1) .nil))) .nil)))
 (.cons (.for_ (.t [4, 5]) (.enum (.cons (.op .list (.cons (.op (.sli false true) (.cons (.var 0) (.cons (.cst (.int 9)) .nil))) .nil)) .nil)) b29f1)
 (.cons (.asgH 6 (.ite (.op (.cmp .Lt) (.cons (.var 1) (.cons (.op .len (.cons (.var 0) .nil)) .nil))) (.op .abs (.cons (.op .int (.cons (.op .idx (.cons (.var 0) (.cons (.var 1) .nil))) .nil)) .nil)) (.cst (.int 0))))
 (.cons (.ret (.dict [.str (Str.ofString "wound"), .str (Str.ofString "odd"), .str (Str.ofString "end")] (.cons (.var 2) (.cons (.var 3) (.cons (.ite (.op (.cmp .Gt) (.cons (.var 6) (.cons (.op (.bin .Pow) (.cons (.cst (.int 10)) (.cons (.cst (.int 14)) .nil))) .nil))) (.op (.bin .Mod) (.cons (.op .int (.cons (.var 6) .nil)) (.cons (.op (.bin .Pow) (.cons (.cst (.int 10)) (.cons (.cst (.int 42)) .nil))) .nil))) (.cst (.int 0))) .nil)))))
 .nil))))
/-! 30 _law_turn(0 reel, 1 many, 2 own) -/
def b30 : Sms := (.cons (.ifs (.op (.cmp .Gt) (.cons (.op .idx (.cons (.var 0) (.cons (.cst (.str (Str.ofString "end"))) .nil))) (.cons (.cst (.int 0)) .nil))) (.cons (.asg 2 (.op (.bin .Mod) (.cons (.op .int (.cons (.op .idx (.cons (.var 0) (.cons (.cst (.str (Str.ofString "end"))) .nil))) .nil)) (.cons (.var 1) .nil))))
 (.cons (.sidx (.op (.bin .FloorDiv) (.cons (.op .idx (.cons (.var 0) (.cons (.cst (.str (Str.ofString "end"))) .nil))) (.cons (.var 1) .nil))) (.var 0) (.cst (.str (Str.ofString "end"))))
 (.cons (.ret (.var 2))
 .nil))) .nil)
 (.cons (.sidx (.op (.bin .Mod) (.cons (.op .int (.cons (.op (.bin .Add) (.cons (.op (.bin .Mult) (.cons (.op .idx (.cons (.var 0) (.cons (.cst (.str (Str.ofString "odd"))) .nil))) (.cons (.cst (.int 1021)) .nil))) (.cons (.cst (.int 77)) .nil))) .nil)) (.cons (.cst (.int 1048573)) .nil))) (.var 0) (.cst (.str (Str.ofString "odd"))))
 (.cons (.sidx (.op (.bin .Mod) (.cons (.op .int (.cons (.op (.bin .Add) (.cons (.op (.bin .Mult) (.cons (.op .idx (.cons (.var 0) (.cons (.cst (.str (Str.ofString "wound"))) .nil))) (.cons (.cst (.int 16807)) .nil))) (.cons (.op .idx (.cons (.var 0) (.cons (.cst (.str (Str.ofString "odd"))) .nil))) .nil))) .nil)) (.cons (.cst (.int 2147483587)) .nil))) (.var 0) (.cst (.str (Str.ofString "wound"))))
 (.cons (.ret (.op (.bin .Mod) (.cons (.op .int (.cons (.op (.bin .FloorDiv) (.cons (.op .idx (.cons (.var 0) (.cons (.cst (.str (Str.ofString "wound"))) .nil))) (.cons (.cst (.int 13)) .nil))) .nil)) (.cons (.var 1) .nil))))
 .nil))))
/-! 31 _law_one_of(0 reel, 1 some) -/
def b31 : Sms := (.cons (.ret (.op .idx (.cons (.var 1) (.cons (.call 30 (.cons (.var 0) (.cons (.op .len (.cons (.var 1) .nil)) .nil))) .nil))))
 .nil)
/-! 32 _law_mixed(0 reel, 1 some, 2 left, 3 found, 4 turn) -/
def b32f1 : Sms := (.cons (.expr (.mth .append (.var 3) (.cons (.mth .popAt (.var 2) (.cons (.call 30 (.cons (.var 0) (.cons (.op .len (.cons (.var 2) .nil)) .nil))) .nil)) .nil)))
 .nil)
def b32 : Sms := (.cons (.par 2 3 (.cons (.op .list (.cons (.var 1) .nil)) (.cons (.lst .nil) .nil)))
 (.cons (.for_ (.n 4) (.rng (.cons (.op .len (.cons (.var 2) .nil)) .nil)) b32f1)
 (.cons (.ret (.var 3))
 .nil)))
/-! 33 _law_same(0 told, 1 due, 2 kinds, 3 one, 4 two) -/
def b33e1 : Ex := (.call 33 (.cons (.var 3) (.cons (.var 4) .nil)))
def b33 : Sms := (.cons (.ifs (.or_ (.op .isi (.cons (.var 1) (.cons (.cst (.ty "tuple")) .nil))) (.op .isi (.cons (.var 1) (.cons (.cst (.ty "list")) .nil)))) (.cons (.ifs (.or_ (.op (.cmp .NotEq) (.cons (.op .isi (.cons (.var 0) (.cons (.cst (.ty "tuple")) .nil))) (.cons (.op .isi (.cons (.var 1) (.cons (.cst (.ty "tuple")) .nil))) .nil))) (.op (.cmp .NotEq) (.cons (.op .isi (.cons (.var 0) (.cons (.cst (.ty "list")) .nil))) (.cons (.op .isi (.cons (.var 1) (.cons (.cst (.ty "list")) .nil))) .nil)))) (.cons (.ret (.cst (.bl false)))
 .nil) .nil)
 (.cons (.ret (.and_ (.op (.cmp .Eq) (.cons (.op .len (.cons (.var 0) .nil)) (.cons (.op .len (.cons (.var 1) .nil)) .nil))) (.op .all (.cons (.comp [3, 4] (.t [3, 4]) (.zip (.cons (.var 0) (.cons (.var 1) .nil))) .nil b33e1) .nil))))
 .nil)) .nil)
 (.cons (.ifs (.or_ (.op .isn (.cons (.var 1) (.cons (.cst .non) .nil))) (.op .isn (.cons (.var 0) (.cons (.cst .non) .nil)))) (.cons (.ret (.and_ (.op .isn (.cons (.var 1) (.cons (.cst .non) .nil))) (.op .isn (.cons (.var 0) (.cons (.cst .non) .nil)))))
 .nil) .nil)
 (.cons (.asg 2 (.lst (.cons (.op (.cmp .Eq) (.cons (.op .isi (.cons (.var 0) (.cons (.cst (.ty "bool")) .nil))) (.cons (.op .isi (.cons (.var 1) (.cons (.cst (.ty "bool")) .nil))) .nil))) (.cons (.op (.cmp .Eq) (.cons (.op .isi (.cons (.var 0) (.cons (.cst (.ty "str")) .nil))) (.cons (.op .isi (.cons (.var 1) (.cons (.cst (.ty "str")) .nil))) .nil))) .nil))))
 (.cons (.ret (.and_ (.op (.cmp .Eq) (.cons (.var 2) (.cons (.lst (.cons (.cst (.bl true)) (.cons (.cst (.bl true)) .nil))) .nil))) (.op (.cmp .Eq) (.cons (.var 0) (.cons (.var 1) .nil)))))
 .nil))))
/-! 34 _law_crosses(0 lines, 1 middles, 2 rooms, 3 total, 4 room, 5 middle) -/
def b34f1 : Sms := (.cons (.asg 3 (.op (.bin .Add) (.cons (.var 3) (.cons (.op (.bin .Mult) (.cons (.op (.bin .Mult) (.cons (.cst (.int 2)) (.cons (.var 0) .nil))) (.cons (.var 1) .nil))) .nil))))
 .nil)
def b34f2 : Sms := (.cons (.asg 3 (.op (.bin .Add) (.cons (.var 3) (.cons (.op (.bin .Mult) (.cons (.var 2) (.cons (.var 2) .nil))) .nil))))
 .nil)
def b34 : Sms := (.cons (.asg 3 (.cst (.int 0)))
 (.cons (.for_ (.n 4) (.rng (.cons (.var 2) .nil)) b34f1)
 (.cons (.for_ (.n 5) (.rng (.cons (.var 1) .nil)) b34f2)
 (.cons (.ret (.var 3))
 .nil))))
/-! 35 _law_cheapest(0 number, 1 kind, 2 found, 3 lines, 4 rooms, 5 middles) -/
def b35f1 : Sms := (.cons (.ifs (.op (.cmp .Eq) (.cons (.op (.bin .Mod) (.cons (.op .int (.cons (.var 0) .nil)) (.cons (.var 3) .nil))) (.cons (.cst (.int 0)) .nil))) (.cons (.asg 4 (.op (.bin .FloorDiv) (.cons (.var 0) (.cons (.var 3) .nil))))
 (.cons (.asgH 5 (.ite (.or_ (.op (.cmp .Eq) (.cons (.var 1) (.cons (.cst (.str (Str.ofString "led"))) .nil))) (.op (.cmp .Eq) (.cons (.var 4) (.cons (.cst (.int 1)) .nil)))) (.var 3) (.op (.bin .Sub) (.cons (.op (.bin .Mult) (.cons (.cst (.int 2)) (.cons (.var 3) .nil))) (.cons (.cst (.int 1)) .nil)))))
 (.cons (.expr (.mth .append (.var 2) (.cons (.tup (.cons (.op (.bin .Add) (.cons (.op (.bin .Mult) (.cons (.op (.bin .Mult) (.cons (.op (.bin .Mult) (.cons (.cst (.int 2)) (.cons (.var 4) .nil))) (.cons (.var 3) .nil))) (.cons (.var 5) .nil))) (.cons (.op (.bin .Mult) (.cons (.op (.bin .Mult) (.cons (.var 5) (.cons (.var 4) .nil))) (.cons (.var 4) .nil))) .nil))) (.cons (.tup (.cons (.var 3) (.cons (.var 5) (.cons (.var 4) .nil)))) .nil))) .nil)))
 .nil))) .nil)
 .nil)
def b35 : Sms := (.cons (.asg 2 (.lst .nil))
 (.cons (.for_ (.n 3) (.rng (.cons (.cst (.int 1)) (.cons (.op (.bin .Add) (.cons (.var 0) (.cons (.cst (.int 1)) .nil))) .nil))) b35f1)
 (.cons (.ret (.op .min (.cons (.var 2) .nil)))
 .nil)))
/-! 36 _law_number_right(0 number, 1 never, 2 led, 3 told, 4 single) -/
def b36 : Sms := (.cons (.par 1 2 (.cons (.call 35 (.cons (.var 0) (.cons (.cst (.str (Str.ofString "never"))) .nil))) (.cons (.call 35 (.cons (.var 0) (.cons (.cst (.str (Str.ofString "led"))) .nil))) .nil)))
 (.cons (.asg 3 (.lst (.cons (.call 21 (.cons (.var 0) .nil)) (.cons (.callk 21 [0] (.cons (.var 0) .nil)) (.cons (.call 22 (.cons (.var 0) .nil)) (.cons (.callk 22 [0] (.cons (.var 0) .nil)) .nil))))))
 (.cons (.ifs (.or_ (.not_ (.call 33 (.cons (.var 3) (.cons (.lst (.cons (.var 1) (.cons (.var 1) (.cons (.var 2) (.cons (.var 2) .nil))))) .nil)))) (.op (.cmp .Gt) (.cons (.op .idx (.cons (.var 2) (.cons (.cst (.int 0)) .nil))) (.cons (.op .idx (.cons (.var 1) (.cons (.cst (.int 0)) .nil))) .nil)))) (.cons (.ret (.cst (.bl false)))
 .nil) .nil)
 (.cons (.asg 4 (.op (.cmp .Lt) (.cons (.op (.bin .Mult) (.cons (.var 0) (.cons (.var 0) .nil))) (.cons (.op .idx (.cons (.var 1) (.cons (.cst (.int 0)) .nil))) .nil))))
 (.cons (.ret (.call 33 (.cons (.lst (.cons (.call 23 (.cons (.var 0) .nil)) (.cons (.callk 23 [0] (.cons (.var 0) .nil)) .nil))) (.cons (.lst (.cons (.var 4) (.cons (.var 4) .nil))) .nil))))
 .nil)))))
/-! 37 _law_shape_right(0 reel, 1 shape, 2 own, 3 lines, 4 least, 5 due, 6 outs, 7 calls, 8 inlet) -/
def b37e1 : Ex := (.tup (.cons (.var 8) (.cons (.op .idx (.cons (.var 6) (.cons (.var 8) .nil))) .nil)))
def b37r1 : Sms := (.cons (.ifs (.or_ (.op (.cmp .NotEq) (.cons (.var 4) (.cons (.var 5) .nil))) (.op (.cmp .NotEq) (.cons (.callk 26 [0] (.cons (.var 1) .nil)) (.cons (.op (.cmp .GtE) (.cons (.op .idx (.cons (.var 1) (.cons (.cst (.int 1)) .nil))) (.cons (.var 5) .nil))) .nil)))) (.cons (.ret (.cst (.bl false)))
 .nil) .nil)
 (.cons (.asg 6 (.call 32 (.cons (.var 0) (.cons (.lrng (.cons (.var 3) .nil)) .nil))))
 (.cons (.asg 7 (.op .tuple (.cons (.comp [8] (.n 8) (.rng (.cons (.var 3) .nil)) .nil b37e1) .nil)))
 (.cons (.ifs (.op (.cmp .NotEq) (.cons (.call 28 (.cons (.var 1) (.cons (.var 7) .nil))) (.cons (.op (.cmp .GtE) (.cons (.op .idx (.cons (.var 1) (.cons (.cst (.int 1)) .nil))) (.cons (.op .idx (.cons (.var 1) (.cons (.cst (.int 0)) .nil))) .nil))) .nil))) (.cons (.ret (.cst (.bl false)))
 .nil) .nil)
 (.cons (.ret (.or_ (.op (.cmp .Lt) (.cons (.op .idx (.cons (.var 1) (.cons (.cst (.int 1)) .nil))) (.cons (.op .idx (.cons (.var 1) (.cons (.cst (.int 0)) .nil))) .nil))) (.op (.cmp .GtE) (.cons (.var 2) (.cons (.op .idx (.cons (.callk 22 [0] (.cons (.var 3) .nil)) (.cons (.cst (.int 0)) .nil))) .nil)))))
 .nil)))))
def b37 : Sms := (.cons (.par 2 3 (.cons (.call 34 (.cons (.op .idx (.cons (.var 1) (.cons (.cst (.int 0)) .nil))) (.cons (.op .idx (.cons (.var 1) (.cons (.cst (.int 1)) .nil))) (.cons (.op .idx (.cons (.var 1) (.cons (.cst (.int 2)) .nil))) .nil)))) (.cons (.op (.bin .Mult) (.cons (.op .idx (.cons (.var 1) (.cons (.cst (.int 0)) .nil))) (.cons (.op .idx (.cons (.var 1) (.cons (.cst (.int 2)) .nil))) .nil))) .nil)))
 (.cons (.ifs (.not_ (.call 33 (.cons (.lst (.cons (.call 20 (.cons (.var 1) .nil)) (.cons (.callk 20 [0] (.cons (.var 1) .nil)) .nil))) (.cons (.lst (.cons (.var 2) (.cons (.var 2) .nil))) .nil)))) (.cons (.ret (.cst (.bl false)))
 .nil) .nil)
 (.cons (.ifs (.and_ (.call 26 (.cons (.var 1) .nil)) (.op (.cmp .Lt) (.cons (.var 2) (.cons (.op .idx (.cons (.call 21 (.cons (.var 3) .nil)) (.cons (.cst (.int 0)) .nil))) .nil)))) (.cons (.ret (.cst (.bl false)))
 .nil) .nil)
 (.cons (.asg 4 (.callk 27 [0] (.cons (.var 1) .nil)))
 (.cons (.asgH 5 (.ite (.op (.cmp .Eq) (.cons (.op .idx (.cons (.var 1) (.cons (.cst (.int 2)) .nil))) (.cons (.cst (.int 1)) .nil))) (.op .idx (.cons (.var 1) (.cons (.cst (.int 0)) .nil))) (.op (.bin .Sub) (.cons (.op (.bin .Mult) (.cons (.cst (.int 2)) (.cons (.op .idx (.cons (.var 1) (.cons (.cst (.int 0)) .nil))) .nil))) (.cons (.cst (.int 1)) .nil)))))
 b37r1)))))
/-! 39 law(0 script, 1 lap, 2 reel, 3 number, 4 shape, 5 bad, 6 told) -/
def q39 : Str := (Str.ofString "law.<locals>.<lambda>")
def b39f1 : Sms := (.cons (.ifs (.not_ (.call 36 (.cons (.var 3) .nil))) (.cons (.ret (.cst (.bl false)))
 .nil) .nil)
 .nil)
def b39f2 : Sms := (.cons (.ifs (.not_ (.call 37 (.cons (.var 2) (.cons (.var 4) .nil)))) (.cons (.ret (.cst (.bl false)))
 .nil) .nil)
 .nil)
def b39f3 : Sms := (.cons (.asg 2 (.call 29 (.cons (.var 0) (.cons (.var 1) .nil))))
 (.cons (.for_ (.n 3) (.seq (.lst (.cons (.cst (.int 1)) (.cons (.cst (.int 400)) (.cons (.op (.bin .Add) (.cons (.cst (.int 1)) (.cons (.call 30 (.cons (.var 2) (.cons (.cst (.int 12)) .nil))) .nil))) (.cons (.op (.bin .Add) (.cons (.cst (.int 1)) (.cons (.call 30 (.cons (.var 2) (.cons (.cst (.int 400)) .nil))) .nil))) (.cons (.op (.bin .Mult) (.cons (.cst (.int 12)) (.cons (.op (.bin .Add) (.cons (.cst (.int 1)) (.cons (.call 30 (.cons (.var 2) (.cons (.cst (.int 33)) .nil))) .nil))) .nil))) (.cons (.cst (.int 36)) .nil)))))))) b39f1)
 (.cons (.for_ (.n 4) (.seq (.lst (.cons (.tup (.cons (.cst (.int 1)) (.cons (.cst (.int 1)) (.cons (.cst (.int 1)) .nil)))) (.cons (.tup (.cons (.cst (.int 4)) (.cons (.cst (.int 6)) (.cons (.cst (.int 4)) .nil)))) (.cons (.tup (.cons (.op (.bin .Add) (.cons (.cst (.int 1)) (.cons (.call 30 (.cons (.var 2) (.cons (.cst (.int 4)) .nil))) .nil))) (.cons (.op (.bin .Add) (.cons (.cst (.int 1)) (.cons (.call 30 (.cons (.var 2) (.cons (.cst (.int 6)) .nil))) .nil))) (.cons (.op (.bin .Add) (.cons (.cst (.int 1)) (.cons (.call 30 (.cons (.var 2) (.cons (.cst (.int 4)) .nil))) .nil))) .nil)))) .nil))))) b39f2)
 (.cons (.asg 5 (.call 31 (.cons (.var 2) (.cons (.lst (.cons (.cst (.int 0)) (.cons (.cst (.int 401)) (.cons (.op .neg (.cons (.cst (.int 1)) .nil)) (.cons (.cst .non) (.cons (.cst (.bl true)) (.cons (.cst (.str (Str.ofString "36"))) (.cons (.tup (.cons (.cst (.int 36)) .nil)) .nil)))))))) .nil))))
 (.cons (.asg 6 (.lst (.cons (.lam2 38 0 q39 5 (.call 21 (.cons (.var 5) .nil)) hs38 af38) .nil)))
 (.cons (.expr (.mth .append (.var 6) (.cons (.lam2 38 0 q39 5 (.call 22 (.cons (.var 5) .nil)) hs38 af38) .nil)))
 (.cons (.expr (.mth .append (.var 6) (.cons (.lam2 38 0 q39 5 (.call 23 (.cons (.var 5) .nil)) hs38 af38) .nil)))
 (.cons (.asg 4 (.call 31 (.cons (.var 2) (.cons (.lst (.cons (.cst .non) (.cons (.tup (.cons (.cst (.int 2)) (.cons (.cst (.int 2)) .nil))) (.cons (.lst (.cons (.cst (.int 2)) (.cons (.cst (.int 2)) (.cons (.cst (.int 2)) .nil)))) (.cons (.tup (.cons (.cst (.int 0)) (.cons (.cst (.int 2)) (.cons (.cst (.int 2)) .nil)))) (.cons (.tup (.cons (.cst (.int 5)) (.cons (.cst (.int 2)) (.cons (.cst (.int 2)) .nil)))) (.cons (.tup (.cons (.cst (.int 2)) (.cons (.cst (.int 7)) (.cons (.cst (.int 2)) .nil)))) (.cons (.tup (.cons (.cst (.int 2)) (.cons (.cst (.int 2)) (.cons (.cst (.int 5)) .nil)))) (.cons (.tup (.cons (.cst (.int 2)) (.cons (.cst (.bl true)) (.cons (.cst (.int 2)) .nil)))) .nil))))))))) .nil))))
 (.cons (.expr (.mth .append (.var 6) (.cons (.lam2 38 0 q39 4 (.call 20 (.cons (.var 4) .nil)) hs38 af38) .nil)))
 (.cons (.ifs (.op (.cmp .NotEq) (.cons (.var 6) (.cons (.op (.bin .Add) (.cons (.op (.bin .Mult) (.cons (.lst (.cons (.cst (.str (Str.ofString "number"))) .nil)) (.cons (.cst (.int 3)) .nil))) (.cons (.lst (.cons (.cst (.str (Str.ofString "shape"))) .nil)) .nil))) .nil))) (.cons (.ret (.cst (.bl false)))
 .nil) .nil)
 .nil))))))))))
def b39 : Sms := (.cons (.for_ (.n 1) (.seq (.tup (.cons (.cst (.int 0)) (.cons (.cst (.int 1)) .nil)))) b39f3)
 (.cons (.ret (.cst (.bl true)))
 .nil))
def Pt : List (Option Fn) := [some ⟨1, 1, b0⟩, some ⟨3, 3, b1⟩, some ⟨1, 4, b2⟩, some ⟨1, 1, b3⟩, some ⟨2, 2, b4⟩, some ⟨2, 3, b5⟩, some ⟨2, 5, b6⟩, some ⟨2, 7, b7⟩, some ⟨2, 7, b8⟩, some ⟨2, 2, b9⟩, some ⟨3, 3, b10⟩, some ⟨1, 1, b11⟩, some ⟨2, 3, b12⟩, some ⟨3, 3, b13⟩, some ⟨2, 2, b14⟩, some ⟨2, 2, b15⟩, some ⟨1, 2, b16⟩, some ⟨2, 6, b17⟩, some ⟨1, 1, b18⟩, some ⟨1, 1, b19⟩, some ⟨1, 1, b20⟩, some ⟨1, 1, b21⟩, some ⟨1, 1, b22⟩, some ⟨1, 1, b23⟩, some ⟨1, 1, b24⟩, some ⟨1, 1, b25⟩, some ⟨1, 1, b26⟩, some ⟨1, 1, b27⟩, some ⟨2, 2, b28⟩, some ⟨2, 7, b29⟩, some ⟨2, 3, b30⟩, some ⟨2, 2, b31⟩, some ⟨2, 5, b32⟩, some ⟨2, 5, b33⟩, some ⟨3, 6, b34⟩, some ⟨2, 6, b35⟩, some ⟨1, 5, b36⟩, some ⟨2, 9, b37⟩, none, some ⟨1, 7, b39⟩]
def P (k : Nat) : Option Fn := (Pt[k]?).join
theorem P0 : P 0 = some ⟨1, 1, b0⟩ := rfl
theorem P1 : P 1 = some ⟨3, 3, b1⟩ := rfl
theorem P2 : P 2 = some ⟨1, 4, b2⟩ := rfl
theorem P3 : P 3 = some ⟨1, 1, b3⟩ := rfl
theorem P4 : P 4 = some ⟨2, 2, b4⟩ := rfl
theorem P5 : P 5 = some ⟨2, 3, b5⟩ := rfl
theorem P6 : P 6 = some ⟨2, 5, b6⟩ := rfl
theorem P7 : P 7 = some ⟨2, 7, b7⟩ := rfl
theorem P8 : P 8 = some ⟨2, 7, b8⟩ := rfl
theorem P9 : P 9 = some ⟨2, 2, b9⟩ := rfl
theorem P10 : P 10 = some ⟨3, 3, b10⟩ := rfl
theorem P11 : P 11 = some ⟨1, 1, b11⟩ := rfl
theorem P12 : P 12 = some ⟨2, 3, b12⟩ := rfl
theorem P13 : P 13 = some ⟨3, 3, b13⟩ := rfl
theorem P14 : P 14 = some ⟨2, 2, b14⟩ := rfl
theorem P15 : P 15 = some ⟨2, 2, b15⟩ := rfl
theorem P16 : P 16 = some ⟨1, 2, b16⟩ := rfl
theorem P17 : P 17 = some ⟨2, 6, b17⟩ := rfl
theorem P18 : P 18 = some ⟨1, 1, b18⟩ := rfl
theorem P19 : P 19 = some ⟨1, 1, b19⟩ := rfl
theorem P20 : P 20 = some ⟨1, 1, b20⟩ := rfl
theorem P21 : P 21 = some ⟨1, 1, b21⟩ := rfl
theorem P22 : P 22 = some ⟨1, 1, b22⟩ := rfl
theorem P23 : P 23 = some ⟨1, 1, b23⟩ := rfl
theorem P24 : P 24 = some ⟨1, 1, b24⟩ := rfl
theorem P25 : P 25 = some ⟨1, 1, b25⟩ := rfl
theorem P26 : P 26 = some ⟨1, 1, b26⟩ := rfl
theorem P27 : P 27 = some ⟨1, 1, b27⟩ := rfl
theorem P28 : P 28 = some ⟨2, 2, b28⟩ := rfl
theorem P29 : P 29 = some ⟨2, 7, b29⟩ := rfl
theorem P30 : P 30 = some ⟨2, 3, b30⟩ := rfl
theorem P31 : P 31 = some ⟨2, 2, b31⟩ := rfl
theorem P32 : P 32 = some ⟨2, 5, b32⟩ := rfl
theorem P33 : P 33 = some ⟨2, 5, b33⟩ := rfl
theorem P34 : P 34 = some ⟨3, 6, b34⟩ := rfl
theorem P35 : P 35 = some ⟨2, 6, b35⟩ := rfl
theorem P36 : P 36 = some ⟨1, 5, b36⟩ := rfl
theorem P37 : P 37 = some ⟨2, 9, b37⟩ := rfl
theorem P39 : P 39 = some ⟨1, 7, b39⟩ := rfl
end Lk85
end
section
set_option maxRecDepth 100000
namespace Lk85
open PySem Ev
@[simp] theorem e0_int {n : Nat} (i : Int) (h : List C) : evCall P (n + 1) 0 [.d (.int i)] h = .ok (.d (.bl true)) h := by
  rw [evCall_eq P0 _ _ _ rfl]
  simp [b0]
@[simp] theorem e1_int {n : Nat} (i a b : Int) (h : List C) : evCall P (n + 2) 1 [.d (.int i), .d (.int a), .d (.int b)] h = .ok (.d (.bl (decide (a ≤ i ∧ i ≤ b)))) h := by
  rw [evCall_eq P1 _ _ _ rfl]
  simp [b1]
  by_cases ha : a ≤ i <;> simp [ha]
/-- a shape -/
def sp (a b c : Int) : D := .tup [.int a, .int b, .int c]
@[simp] theorem sp_vw (a b c : Int) (h : List C) : vwD h (sp a b c) = some (.d (sp a b c)) := rfl
@[simp] theorem sp_0 (a b c : Int) : idxV (.d (sp a b c)) (.d (.int 0)) = some (.d (.int a)) := rfl
@[simp] theorem sp_1 (a b c : Int) : idxV (.d (sp a b c)) (.d (.int 1)) = some (.d (.int b)) := rfl
@[simp] theorem sp_2 (a b c : Int) : idxV (.d (sp a b c)) (.d (.int 2)) = some (.d (.int c)) := rfl
structure Sh (a b c : Int) : Prop where
  a1 : 1 ≤ a
  a2 : a ≤ 4
  b1 : 1 ≤ b
  b2 : b ≤ 6
  c1 : 1 ≤ c
  c2 : c ≤ 4
theorem mul_small {i j : Int} (h1 : -1000000000 ≤ i) (h2 : i ≤ 1000000000) (h3 : -1000000000 ≤ j) (h4 : j ≤ 1000000000) : mulOk i j = true :=
  mulOk_lt (small_lt (k := 32) (by omega) (by omega)) (small_lt (k := 32) (by omega) (by omega))
@[simp] theorem e2 {n : Nat} {a b c : Int} (s : Sh a b c) (h : List C) : evCall P (n + 3) 2 [.d (sp a b c)] h = .ok (.d (.bl true)) h := by
  obtain ⟨h1, h2, h3, h4, h5, h6⟩ := s
  rw [evCall_eq P2 _ _ _ rfl]
  simp [b2, sp, h1, h2, h3, h4, h5, h6]
theorem sp_mul {a b c : Int} (s : Sh a b c) : 1 ≤ a * c ∧ a * c ≤ 16 := by
  obtain ⟨h1, h2, h3, h4, h5, h6⟩ := s
  have e1 : 1 * 1 ≤ a * c := Int.mul_le_mul h1 h5 (by omega) (by omega)
  have e2 : a * c ≤ 4 * 4 := Int.mul_le_mul h2 h6 (by omega) (by omega)
  omega
theorem e3 {n : Nat} {a b c : Int} (s : Sh a b c) (h : List C) : evCall P (n + 1) 3 [.d (sp a b c)] h = .ok (.d (.int (a * c))) h := by
  have m : mulOk a c = true := mul_small (by have := s.a1; omega) (by have := s.a2; omega) (by have := s.c1; omega) (by have := s.c2; omega)
  rw [evCall_eq P3 _ _ _ rfl]
  simp [b3, m]
theorem e4 {n : Nat} {a b c : Int} (s : Sh a b c) (l : Int) (h : List C) : evCall P (n + 1) 4 [.d (sp a b c), .d (.int l)] h = .ok (.d (.int (l / a))) h := by
  have h1 := s.a1
  have h2 := s.a2
  have lg : a.natAbs.log2 < 9000 := by
    have : a.natAbs.log2 < 3 := (Nat.log2_lt (by omega)).mpr (by omega)
    omega
  rw [evCall_eq P4 _ _ _ rfl]
  simp [b4, lg, show 0 < a by omega]
def cl (i o : Int) : D := .tup [.int i, .int o]
@[simp] theorem cl_vw (a b : Int) (h : List C) : vwD h (cl a b) = some (.d (cl a b)) := rfl
@[simp] theorem cl_0 (a b : Int) : idxV (.d (cl a b)) (.d (.int 0)) = some (.d (.int a)) := rfl
@[simp] theorem cl_1 (a b : Int) : idxV (.d (cl a b)) (.d (.int 1)) = some (.d (.int b)) := rfl
theorem e5 {n : Nat} {a b c : Int} (s : Sh a b c) {i o : Int} (i0 : 0 ≤ i) (i1 : i < a * c) (o0 : 0 ≤ o) (o1 : o < a * c) (h : List C) : evCall P (n + 3) 5 [.d (sp a b c), .d (cl i o)] h = .ok (.d (.bl true)) h := by
  rw [evCall_eq P5 _ _ _ rfl]
  simp [b5, cl, e3 s, i0, o0, show i ≤ a * c - 1 by omega, show o ≤ a * c - 1 by omega]
theorem e10 {n : Nat} {v a b : Int} (h1 : a ≤ v) (h2 : v ≤ b) (h : List C) : evCall P (n + 3) 10 [.d (.int v), .d (.int a), .d (.int b)] h = .ok (.d .non) h := by
  rw [evCall_eq P10 _ _ _ rfl]
  simp [b10, h1, h2]
theorem e11 {n : Nat} {a b c : Int} (s : Sh a b c) (h : List C) : evCall P (n + 4) 11 [.d (sp a b c)] h = .ok (.d .non) h := by
  rw [evCall_eq P11 _ _ _ rfl]
  simp [b11, e2 s]
theorem e19 {n : Nat} {v : Int} (h1 : 1 ≤ v) (h2 : v ≤ 400) (h : List C) : evCall P (n + 4) 19 [.d (.int v)] h = .ok (.d .non) h := by
  rw [evCall_eq P19 _ _ _ rfl]
  simp [b19, e10 h1 h2]
/-- crosses -/
def crs (l m r : Int) : Int := 2 * r * l * m + m * r * r
theorem crs_ok {l m r : Int} (l0 : 0 ≤ l) (l1 : l ≤ 400) (m0 : 0 ≤ m) (m1 : m ≤ 800) (r0 : 0 ≤ r) (r1 : r ≤ 400) : mulOk 2 r = true ∧ mulOk (2 * r) l = true ∧ mulOk (2 * r * l) m = true ∧ mulOk m r = true ∧ mulOk (m * r) r = true := by
  have e1 : r * l ≤ 400 * 400 := Int.mul_le_mul r1 l1 l0 (by omega)
  have e2 : 0 ≤ r * l := Int.mul_nonneg r0 l0
  have e3 : m * r ≤ 800 * 400 := Int.mul_le_mul m1 r1 r0 (by omega)
  have e4 : 0 ≤ m * r := Int.mul_nonneg m0 r0
  have e5 : 2 * r * l = 2 * (r * l) := by rw [Int.mul_assoc]
  exact ⟨mul_small (by omega) (by omega) (by omega) (by omega), mul_small (by omega) (by omega) (by omega) (by omega), mul_small (by omega) (by omega) (by omega) (by omega), mul_small (by omega) (by omega) (by omega) (by omega), mul_small (by omega) (by omega) (by omega) (by omega)⟩
theorem e13 {n : Nat} {l m r : Int} (l0 : 0 ≤ l) (l1 : l ≤ 400) (m0 : 0 ≤ m) (m1 : m ≤ 800) (r0 : 0 ≤ r) (r1 : r ≤ 400) (h : List C) : evCall P (n + 1) 13 [.d (.int l), .d (.int m), .d (.int r)] h = .ok (.d (.int (crs l m r))) h := by
  obtain ⟨h1, h2, h3, h4, h5⟩ := crs_ok l0 l1 m0 m1 r0 r1
  rw [evCall_eq P13 _ _ _ rfl]
  simp [b13, h1, h2, h3, h4, h5, crs]
def mid (k : Nat) (l r : Int) : Int := if k = 14 then (if r = 1 then l else 2 * l - 1) else l
theorem e14 {n : Nat} {l r : Int} (l0 : 0 ≤ l) (l1 : l ≤ 400) (h : List C) : evCall P (n + 1) 14 [.d (.int l), .d (.int r)] h = .ok (.d (.int (mid 14 l r))) h := by
  have m : mulOk 2 l = true := mul_small (by omega) (by omega) (by omega) (by omega)
  rw [evCall_eq P14 _ _ _ rfl]
  by_cases hr : r = 1 <;> simp [b14, m, hr, mid]
theorem e15 {n : Nat} {l r : Int} (h : List C) : evCall P (n + 1) 15 [.d (.int l), .d (.int r)] h = .ok (.d (.int (mid 15 l r))) h := by
  rw [evCall_eq P15 _ _ _ rfl]
  simp [b15, mid]
theorem e18 {n : Nat} {v : Int} (h1 : 1 ≤ v) (h2 : v ≤ 400) (h : List C) : evCall P (n + 1) 18 [.d (.int v)] h = .ok (.d (.int (v * v))) h := by
  have m : mulOk v v = true := mul_small (by omega) (by omega) (by omega) (by omega)
  rw [evCall_eq P18 _ _ _ rfl]
  simp [b18, m]
end Lk85
end
section
set_option maxRecDepth 100000
namespace Lk85
open PySem Ev
def dv (N : Nat) : List Nat := (List.range N).filter fun i => decide ((N : Int) % (1 + (i : Int)) = 0)
def part (N : Nat) (i : Nat) : D := .tup [.int (1 + (i : Int)), .int ((N : Int) / (1 + (i : Int)))]
def cand (k N i : Nat) : D := .tup [.int (crs (1 + (i : Int)) (mid k (1 + (i : Int)) ((N : Int) / (1 + (i : Int)))) ((N : Int) / (1 + (i : Int)))), .tup [.int (1 + (i : Int)), .int (mid k (1 + (i : Int)) ((N : Int) / (1 + (i : Int)))), .int ((N : Int) / (1 + (i : Int)))]]
theorem lg_small {x : Int} (h0 : 0 ≤ x) (h : x ≤ 1000000) : x.natAbs.log2 < 9000 := by
  by_cases hz : x.natAbs = 0
  · rw [hz]; decide
  · have : x.natAbs.log2 < 20 := (Nat.log2_lt hz).mpr (by omega)
    omega
theorem e16 {n N : Nat} (h1 : 1 ≤ N) (h2 : N ≤ 400) (h : List C) : evCall P (n + 1) 16 [.d (.int N)] h = .ok (.c (.lst ((dv N).map (part N)))) h := by
  have HC := compL_map (own := [1]) (tg := .n 1) (test := evT (evCall P n) b16t1) (elt := ev (evCall P n) b16e1) (ok := fun _ _ => true) (σ0 := [W.d (.int N), .none]) (h := h) (fun i : Nat => D.int (1 + (i : Int))) (fun i => decide ((N : Int) % (1 + (i : Int)) = 0)) (part N) rfl (List.range N) (fun i hi => by
    have hi := List.mem_range.mp hi
    refine ⟨[.d (.int N), .d (.int (1 + (i : Int)))], [.d (.int N), .d (.int (1 + (i : Int)))], rfl, ?_, fun _ => ⟨.d (part N i), [.d (.int N), .d (.int (1 + (i : Int)))], [.d (.int N), .d (.int (1 + (i : Int)))], ?_, rfl, rfl⟩, fun _ => rfl⟩
    · have : 0 < 1 + (i : Int) := by omega
      by_cases hz : (N : Int) % (1 + (i : Int)) = 0 <;> simp [b16t1, this, hz]
    · have : 0 < 1 + (i : Int) := by omega
      have lg := lg_small (x := 1 + (i : Int)) (by omega) (by omega)
      simp [b16e1, this, lg, part])
  have rg : rngOf [.d (.int 1), .d (.int ((N : Int) + 1))] = some (rngD 1 N) := by
    rw [rng2_ok (by omega) (by omega) (by omega) (by omega) (by omega)]
    congr 2
    omega
  rw [evCall_eq P16 _ _ _ rfl]
  simp [b16, rg, rngD_map, wiping, wipeW, keepW, ownFree, s_stc, HC, dv]
theorem mid_b {k : Nat} {l r : Int} (h1 : 1 ≤ l) (h2 : l ≤ 400) : 1 ≤ mid k l r ∧ mid k l r ≤ 799 := by
  unfold mid
  split
  · split <;> omega
  · omega
theorem div_b {N : Nat} {i : Nat} (h2 : N ≤ 400) : 0 ≤ (N : Int) / (1 + (i : Int)) ∧ (N : Int) / (1 + (i : Int)) ≤ 400 :=
  ⟨Int.ediv_nonneg (by omega) (by omega), by have := Int.ediv_le_self (a := (N : Int)) (1 + (i : Int)) (by omega); omega⟩
theorem e1415 {n k : Nat} (hk : k = 14 ∨ k = 15) {l r : Int} (l0 : 0 ≤ l) (l1 : l ≤ 400) (h : List C) : evCall P (n + 1) k [.d (.int l), .d (.int r)] h = .ok (.d (.int (mid k l r))) h := by
  rcases hk with rfl | rfl
  · exact e14 l0 l1 h
  · exact e15 h
theorem turn17 {n k N i : Nat} (hk : k = 14 ∨ k = 15) (h2 : N ≤ 400) (hi : i < 400) (l : List D) (hl : l.length < 1000) (h : List C) (w : W) :
    evSs (evCall P (n + 1)) b17f1 [.d (.int N), .d (.gf k), .c (.lst l), .d (.int (1 + (i : Int))), .d (.int ((N : Int) / (1 + (i : Int)))), w] h = .nx [.d (.int N), .d (.gf k), .c (.lst (l ++ [cand k N i])), .d (.int (1 + (i : Int))), .d (.int ((N : Int) / (1 + (i : Int)))), .d (.int (mid k (1 + (i : Int)) ((N : Int) / (1 + (i : Int)))))] h := by
  obtain ⟨r0, r1⟩ := div_b (i := i) h2
  obtain ⟨m0, m1⟩ := mid_b (k := k) (l := 1 + (i : Int)) (r := (N : Int) / (1 + (i : Int))) (by omega) (by omega)
  have E1 := e1415 (n := n) hk (l := 1 + (i : Int)) (r := (N : Int) / (1 + (i : Int))) (by omega) (by omega) h
  have E2 := e13 (n := n) (l := 1 + (i : Int)) (m := mid k (1 + (i : Int)) ((N : Int) / (1 + (i : Int)))) (r := (N : Int) / (1 + (i : Int))) (by omega) (by omega) (by omega) (by omega) r0 r1 h
  have kc : k = 14 ∨ k = 15 := hk
  have sz : l.length < SZ := by unfold SZ; omega
  simp [b17f1, kc, E1, E2, sz, cand]
/-! the least -/
def kd : D → Int
  | .tup (.int k :: _) => k
  | _ => 0
/-- a number with a triple -/
def tq (k a b c : Int) : D := .tup [.int k, .tup [.int a, .int b, .int c]]
def pq (k a b c : Int) : PyData := .tuple [.int k, .tuple [.int a, .int b, .int c]]
theorem pd_tq (k a b c : Int) : pd (tq k a b c) = some (pq k a b c) := rfl
theorem lt_key (k a b c k' a' b' c' : Int) : (ltD (tq k a b c) (tq k' a' b' c') = true → k ≤ k') ∧ (ltD (tq k a b c) (tq k' a' b' c') = false → k' ≤ k) := by
  have e : ltD (tq k a b c) (tq k' a' b' c') = PySem.W.dataLt (pq k a b c) (pq k' a' b' c') := rfl
  rw [e]
  have e2 : PySem.W.dataLt (pq k a b c) (pq k' a' b' c') = (decide (k < k') || (!decide (k' < k) && PyProof.Rows.lexLt PyProof.Rows.itemOrd (PySem.W.keyToksAll [.tuple [.int a, .int b, .int c]]) (PySem.W.keyToksAll [.tuple [.int a', .int b', .int c']]))) := rfl
  rw [e2]
  constructor
  · intro h
    simp at h
    omega
  · intro h
    simp at h
    omega
theorem best_step {d y : D} (hd : ∃ k a b c, d = tq k a b c) (hy : ∃ k a b c, y = tq k a b c) : kd (if ltD y d then y else d) ≤ kd d ∧ kd (if ltD y d then y else d) ≤ kd y := by
  obtain ⟨k, a, b, c, rfl⟩ := hd
  obtain ⟨k', a', b', c', rfl⟩ := hy
  have := lt_key k' a' b' c' k a b c
  cases h : ltD (tq k' a' b' c') (tq k a b c) with
  | true => exact ⟨this.1 h, Int.le_refl _⟩
  | false => exact ⟨Int.le_refl _, this.2 h⟩
theorem best_ok : ∀ (ds : List D) (d : D), (∀ x ∈ d :: ds, ∃ k a b c, x = tq k a b c) → bestD ltD d ds ∈ d :: ds ∧ ∀ x ∈ d :: ds, kd (bestD ltD d ds) ≤ kd x
  | [], d, _ => ⟨List.mem_cons_self, fun x hx => by
    rcases List.mem_cons.mp hx with rfl | hx
    · exact Int.le_refl _
    · cases hx⟩
  | y :: ds, d, h => by
    have hd := h d List.mem_cons_self
    have hy := h y (List.mem_cons_of_mem _ List.mem_cons_self)
    have hz : (if ltD y d then y else d) = y ∨ (if ltD y d then y else d) = d := by split <;> simp
    have IH := best_ok ds (if ltD y d then y else d) fun x hx => by
      rcases List.mem_cons.mp hx with rfl | hx
      · rcases hz with e | e <;> rw [e] <;> assumption
      · exact h x (List.mem_cons_of_mem _ (List.mem_cons_of_mem _ hx))
    have e : bestD ltD d (y :: ds) = bestD ltD (if ltD y d then y else d) ds := rfl
    have st := best_step hd hy
    rw [e]
    refine ⟨?_, fun x hx => ?_⟩
    · rcases List.mem_cons.mp IH.1 with m | m
      · rw [m]
        rcases hz with e | e <;> rw [e] <;> simp
      · exact List.mem_cons_of_mem _ (List.mem_cons_of_mem _ m)
    · have b1 := IH.2 _ List.mem_cons_self
      rcases List.mem_cons.mp hx with rfl | hx
      · omega
      · rcases List.mem_cons.mp hx with rfl | hx
        · omega
        · exact IH.2 x (List.mem_cons_of_mem _ hx)
theorem pds_tq {α : Type} (f : α → Int × Int × Int × Int) : ∀ l : List α, pds (l.map fun x => tq (f x).1 (f x).2.1 (f x).2.2.1 (f x).2.2.2) = some (l.map fun x => pq (f x).1 (f x).2.1 (f x).2.2.1 (f x).2.2.2)
  | [] => rfl
  | x :: l => by
    rw [List.map_cons, List.map_cons]
    simp only [pds, pd_tq, pds_tq f l]
theorem lay_tq {α : Type} (f : α → Int × Int × Int × Int) : ∀ l : List α, PyData.canLayAll0 (l.map fun x => pq (f x).1 (f x).2.1 (f x).2.2.1 (f x).2.2.2) = true ∧ PyData.depthAll (l.map fun x => pq (f x).1 (f x).2.1 (f x).2.2.1 (f x).2.2.2) ≤ 2
  | [] => ⟨rfl, by simp [PyData.depthAll]⟩
  | x :: l => by
    obtain ⟨h1, h2⟩ := lay_tq f l
    have q1 : ∀ k a b c, PyData.canLay0 (pq k a b c) = true := fun k a b c => by simp [pq, PyData.canLayAll0, PyData.canLay0]
    have q2 : ∀ k a b c, PyData.depth (pq k a b c) ≤ 2 := fun k a b c => by simp [pq, PyData.depthAll, PyData.depth]
    rw [List.map_cons]
    constructor
    · simp only [PyData.canLayAll0, q1, h1, Bool.and_self]
    · have := q2 (f x).1 (f x).2.1 (f x).2.2.1 (f x).2.2.2
      simp only [PyData.depthAll]
      omega
theorem okB_tq {α : Type} (f : α → Int × Int × Int × Int) (l : List α) : okB (l.map fun x => tq (f x).1 (f x).2.1 (f x).2.2.1 (f x).2.2.2) = true := by
  obtain ⟨h1, h2⟩ := lay_tq f l
  unfold okB
  rw [pds_tq]
  simp only [h1, Bool.and_true, Bool.and_eq_true, decide_eq_true_eq]
  refine ⟨List.all_eq_true.mpr fun x hx => ?_, by omega⟩
  obtain ⟨y, _, rfl⟩ := List.mem_map.mp hx
  simp only [pq, Bool.true_and]
  refine List.all_eq_true.mpr fun z hz => ?_
  obtain ⟨u, _, rfl⟩ := List.mem_map.mp hz
  simp [pq, PySem.W.alike, PySem.W.alikeAll]
def cands (k N : Nat) : List D := (dv N).map (cand k N)
def best (k N : Nat) : D := match cands k N with
  | [] => .non
  | d :: ds => bestD ltD d ds
theorem cand_tq (k N i : Nat) : cand k N i = tq (crs (1 + (i : Int)) (mid k (1 + (i : Int)) ((N : Int) / (1 + (i : Int)))) ((N : Int) / (1 + (i : Int)))) (1 + (i : Int)) (mid k (1 + (i : Int)) ((N : Int) / (1 + (i : Int)))) ((N : Int) / (1 + (i : Int))) := rfl
theorem dv_0 {N : Nat} (h1 : 1 ≤ N) : 0 ∈ dv N := by
  unfold dv
  rw [List.mem_filter]
  exact ⟨List.mem_range.mpr (by omega), by simp⟩
theorem dv_ne {N : Nat} (h1 : 1 ≤ N) (k : Nat) : cands k N ≠ [] := fun e => by
  have := List.mem_map_of_mem (f := cand k N) (dv_0 h1)
  rw [show (dv N).map (cand k N) = [] from e] at this
  cases this
theorem minL_ok {N : Nat} (h1 : 1 ≤ N) (k : Nat) : minL (.c (.lst (cands k N))) = some (.d (best k N)) := by
  have ok : okB (cands k N) = true := okB_tq (fun i : Nat => (crs (1 + (i : Int)) (mid k (1 + (i : Int)) ((N : Int) / (1 + (i : Int)))) ((N : Int) / (1 + (i : Int))), 1 + (i : Int), mid k (1 + (i : Int)) ((N : Int) / (1 + (i : Int))), (N : Int) / (1 + (i : Int)))) (dv N)
  have ne := dv_ne h1 k
  have e : minL (.c (.lst (cands k N))) = match cands k N with
    | [] => none
    | d :: ds => if okB (d :: ds) then some (.d (bestD ltD d ds)) else none := rfl
  rw [e]
  unfold best
  cases h : cands k N with
  | nil => exact absurd h ne
  | cons d ds =>
    rw [h] at ok
    simp only [ok, if_true]
theorem best_is {N : Nat} (h1 : 1 ≤ N) (k : Nat) : (∃ i ∈ dv N, best k N = cand k N i) ∧ ∀ i ∈ dv N, kd (best k N) ≤ kd (cand k N i) := by
  have all : ∀ x ∈ cands k N, ∃ a b c d, x = tq a b c d := fun x hx => by
    obtain ⟨i, _, rfl⟩ := List.mem_map.mp hx
    exact ⟨_, _, _, _, rfl⟩
  have ne := dv_ne h1 k
  have B : best k N ∈ cands k N ∧ ∀ x ∈ cands k N, kd (best k N) ≤ kd x := by
    unfold best
    cases h : cands k N with
    | nil => exact absurd h ne
    | cons d ds =>
      rw [h] at all
      exact best_ok ds d all
  obtain ⟨i, hi, e⟩ := List.mem_map.mp B.1
  exact ⟨⟨i, hi, e.symm⟩, fun j hj => B.2 _ (List.mem_map_of_mem hj)⟩
end Lk85
end
section
set_option maxRecDepth 100000
namespace Lk85
open PySem Ev
theorem dv_lt {N i : Nat} (h : i ∈ dv N) : i < N := List.mem_range.mp (List.mem_filter.mp h).1
theorem dv_len (N : Nat) : (dv N).length ≤ N := by
  have := List.length_filter_le (fun i : Nat => decide ((N : Int) % (1 + (i : Int)) = 0)) (List.range N)
  simpa [dv] using this
theorem e17 {n k N : Nat} (hk : k = 14 ∨ k = 15) (h1 : 1 ≤ N) (h2 : N ≤ 400) (h : List C) : evCall P (n + 2) 17 [.d (.int N), .d (.gf k)] h = .ok (.d (best k N)) h := by
  have L := forL_nx (tg := .t [3, 4]) (body := evSs (evCall P (n + 1)) b17f1) (ok := stands [.c (.lst ((dv N).map (part N)))] [(dv N).map (part N)]) (xs := (dv N).map (part N))
    (fun i σ h' => ∃ w3 w4 w5, h' = h ∧ σ = [.d (.int N), .d (.gf k), .c (.lst (((dv N).take i).map (cand k N))), w3, w4, w5])
    (σ := [.d (.int N), .d (.gf k), .c (.lst []), .none, .none, .none]) (h := h) ⟨.none, .none, .none, rfl, rfl⟩ (by
      rintro i x σ h' ex ⟨w3, w4, w5, rfl, rfl⟩
      rw [List.getElem?_map] at ex
      cases ej : (dv N)[i]? with
      | none => rw [ej] at ex; cases ex
      | some j =>
        rw [ej] at ex
        cases ex
        have hj := dv_lt (List.mem_of_getElem? ej)
        have hl : (((dv N).take i).map (cand k N)).length < 1000 := by
          have := dv_len N
          simp
          omega
        have E := turn17 (n := n) hk h2 (i := j) (by omega) _ hl h' w5
        have tk : ((dv N).take (i + 1)).map (cand k N) = ((dv N).take i).map (cand k N) ++ [cand k N j] := by
          rw [List.take_add_one, ej, Option.toList_some, List.map_append]
          rfl
        refine ⟨_, _, _, _, rfl, E, by simp [s_stc], .d (.int (1 + (j : Int))), .d (.int ((N : Int) / (1 + (j : Int)))), .d (.int (mid k (1 + (j : Int)) ((N : Int) / (1 + (j : Int))))), rfl, ?_⟩
        rw [tk])
  obtain ⟨σ', h', e, w3, w4, w5, rfl, rfl⟩ := L
  rw [List.length_map, List.take_length] at e
  have m := minL_ok h1 k
  rw [evCall_eq P17 _ _ _ rfl]
  have e16' := e16 (n := n) h1 h2 h'
  have ec : (dv N).map (cand k N) = cands k N := rfl
  rw [ec] at e
  simp [b17, e16', s_stc, e, m]
/-- the name of a kind -/
def kd0 (k : Nat) : Str := if k = 14 then Str.ofString "never" else Str.ofString "led"
theorem led_eq {k : Nat} (hk : k = 14 ∨ k = 15) : eqV (.d (.str (kd0 k))) (.d (.str (Str.ofString "led"))) = some (decide (k = 15)) := by
  rcases hk with rfl | rfl
  · rw [eqV_str (by decide +kernel) _ (by decide +kernel)]; decide +kernel
  · rw [eqV_str (by decide +kernel) _ (by decide +kernel)]; decide +kernel
theorem turn35 {n k N i : Nat} (hk : k = 14 ∨ k = 15) (h2 : N ≤ 400) (hi : i < N) (l : List D) (hl : l.length < 1000) (h : List C) (w4 w5 : W) : ∃ w4' w5',
    evSs (evCall P (n + 1)) b35f1 [.d (.int N), .d (.str (kd0 k)), .c (.lst l), .d (.int (1 + (i : Int))), w4, w5] h = .nx [.d (.int N), .d (.str (kd0 k)), .c (.lst (l ++ if (N : Int) % (1 + (i : Int)) = 0 then [cand k N i] else [])), .d (.int (1 + (i : Int))), w4', w5'] h := by
  obtain ⟨r0, r1⟩ := div_b (i := i) h2
  obtain ⟨m0, m1⟩ := mid_b (k := k) (l := 1 + (i : Int)) (r := (N : Int) / (1 + (i : Int))) (by omega) (by omega)
  have pos : 0 < 1 + (i : Int) := by omega
  have lg := lg_small (x := 1 + (i : Int)) (by omega) (by omega)
  have sz : l.length < SZ := by unfold SZ; omega
  have K := led_eq hk
  have m2 : mulOk 2 (1 + (i : Int)) = true := mul_small (by omega) (by omega) (by omega) (by omega)
  by_cases hz : (N : Int) % (1 + (i : Int)) = 0
  · generalize hr : (N : Int) / (1 + (i : Int)) = r at r0 r1 m0 m1
    obtain ⟨c1, c2, c3, c4, c5⟩ := crs_ok (l := 1 + (i : Int)) (m := mid k (1 + (i : Int)) r) (r := r) (by omega) (by omega) (by omega) (by omega) r0 r1
    have hm : mid k (1 + (i : Int)) r = if k = 15 ∨ r = 1 then 1 + (i : Int) else 2 * (1 + (i : Int)) - 1 := by
      unfold mid
      rcases hk with rfl | rfl <;> simp
    refine ⟨.d (.int r), .d (.int (mid k (1 + (i : Int)) r)), ?_⟩
    by_cases k15 : k = 15
    · have hm2 : mid k (1 + (i : Int)) r = 1 + (i : Int) := by rw [hm, if_pos (.inl k15)]
      rw [hm2] at c3 c4 c5
      have kt := eq_true k15
      simp [b35f1, hz, pos, lg, hr, K, kt, c1, c2, c3, c4, c5, sz, cand, crs, hm2]
    · by_cases r1' : r = 1
      · have hm2 : mid k (1 + (i : Int)) r = 1 + (i : Int) := by rw [hm, if_pos (.inr r1')]
        rw [hm2] at c3 c4 c5
        have rt := eq_true r1'
        simp [b35f1, hz, pos, lg, hr, K, k15, rt, c1, c2, c3, c4, c5, sz, cand, crs, hm2]
      · have hm2 : mid k (1 + (i : Int)) r = 2 * (1 + (i : Int)) - 1 := by rw [hm, if_neg (by simp [k15, r1'])]
        rw [hm2] at c3 c4 c5
        simp [b35f1, hz, pos, lg, hr, K, k15, r1', m2, c1, c2, c3, c4, c5, sz, cand, crs, hm2]
  · refine ⟨w4, w5, ?_⟩
    simp [b35f1, hz, pos]
end Lk85
end
section
set_option maxRecDepth 100000
namespace Lk85
open PySem Ev
theorem e35 {n k N : Nat} (hk : k = 14 ∨ k = 15) (h1 : 1 ≤ N) (h2 : N ≤ 400) (h : List C) : evCall P (n + 2) 35 [.d (.int N), .d (.str (kd0 k))] h = .ok (.d (best k N)) h := by
  have L := forL_nx (tg := .n 3) (body := evSs (evCall P (n + 1)) b35f1) (ok := fun _ _ => true) (xs := rngD 1 N)
    (fun i σ h' => ∃ w3 w4 w5, h' = h ∧ σ = [.d (.int N), .d (.str (kd0 k)), .c (.lst (((List.range i).filter fun i : Nat => decide ((N : Int) % (1 + (i : Int)) = 0)).map (cand k N))), w3, w4, w5])
    (σ := [.d (.int N), .d (.str (kd0 k)), .c (.lst []), .none, .none, .none]) (h := h) ⟨.none, .none, .none, rfl, rfl⟩ (by
      rintro i x σ h' ex ⟨w3, w4, w5, rfl, rfl⟩
      obtain ⟨hi, rfl⟩ := rngL_get' ex
      have hl : (((List.range i).filter fun i : Nat => decide ((N : Int) % (1 + (i : Int)) = 0)).map (cand k N)).length < 1000 := by
        have := List.length_filter_le (fun i : Nat => decide ((N : Int) % (1 + (i : Int)) = 0)) (List.range i)
        simp at this
        simp
        omega
      obtain ⟨w4', w5', E⟩ := turn35 (n := n) hk h2 hi _ hl h' w4 w5
      have tk : ((List.range (i + 1)).filter fun i : Nat => decide ((N : Int) % (1 + (i : Int)) = 0)).map (cand k N) = ((List.range i).filter fun i : Nat => decide ((N : Int) % (1 + (i : Int)) = 0)).map (cand k N) ++ if (N : Int) % (1 + (i : Int)) = 0 then [cand k N i] else [] := by
        rw [List.range_succ, List.filter_append, List.map_append]
        by_cases hz : (N : Int) % (1 + (i : Int)) = 0 <;> simp [hz]
      refine ⟨_, _, _, _, rfl, E, rfl, .d (.int (1 + (i : Int))), w4', w5', rfl, ?_⟩
      rw [tk])
  obtain ⟨σ', h', e, w3, w4, w5, rfl, rfl⟩ := L
  rw [rngD_length] at e
  have m := minL_ok h1 k
  have rg : rngOf [.d (.int 1), .d (.int ((N : Int) + 1))] = some (rngD 1 N) := by
    rw [rng2_ok (by omega) (by omega) (by omega) (by omega) (by omega)]
    congr 2
    omega
  have ec : ((List.range N).filter fun i : Nat => decide ((N : Int) % (1 + (i : Int)) = 0)).map (cand k N) = cands k N := rfl
  rw [ec] at e
  rw [evCall_eq P35 _ _ _ rfl]
  simp [b35, rg, e, m]
theorem e20 {n : Nat} {a b c : Int} (s : Sh a b c) (h : List C) : evCall P (n + 5) 20 [.d (sp a b c)] h = .ok (.d (.int (crs a b c))) h := by
  have E := e13 (n := n + 3) (l := a) (m := b) (r := c) (by have := s.a1; omega) (by have := s.a2; omega) (by have := s.b1; omega) (by have := s.b2; omega) (by have := s.c1; omega) (by have := s.c2; omega) h
  rw [evCall_eq P20 _ _ _ rfl]
  simp [b20, e11 s, E]
theorem e21 {n N : Nat} (h1 : 1 ≤ N) (h2 : N ≤ 400) (h : List C) : evCall P (n + 5) 21 [.d (.int N)] h = .ok (.d (best 14 N)) h := by
  have E1 := e19 (n := n) (v := N) (by omega) (by omega) h
  have E2 := e17 (n := n + 2) (k := 14) (.inl rfl) h1 h2 h
  rw [evCall_eq P21 _ _ _ rfl]
  simp [b21, E1, E2]
theorem e22 {n N : Nat} (h1 : 1 ≤ N) (h2 : N ≤ 400) (h : List C) : evCall P (n + 5) 22 [.d (.int N)] h = .ok (.d (best 15 N)) h := by
  have E1 := e19 (n := n) (v := N) (by omega) (by omega) h
  have E2 := e17 (n := n + 2) (k := 15) (.inr rfl) h1 h2 h
  rw [evCall_eq P22 _ _ _ rfl]
  simp [b22, E1, E2]
/-- the least is a number with a triple -/
theorem best_tq {N : Nat} (h1 : 1 ≤ N) (k : Nat) : ∃ a b c, best k N = tq (kd (best k N)) a b c := by
  obtain ⟨⟨i, _, e⟩, _⟩ := best_is h1 k
  rw [e, cand_tq]
  exact ⟨_, _, _, rfl⟩
@[simp] theorem tq_0 (k a b c : Int) : idxV (.d (tq k a b c)) (.d (.int 0)) = some (.d (.int k)) := rfl
@[simp] theorem tq_vw (k a b c : Int) (h : List C) : vwD h (tq k a b c) = some (.d (tq k a b c)) := rfl
theorem best_vw {N : Nat} (h1 : 1 ≤ N) (k : Nat) (h : List C) : vwD h (best k N) = some (.d (best k N)) := by
  obtain ⟨a, b, c, e⟩ := best_tq h1 k
  rw [e]; rfl
theorem best_0 {N : Nat} (h1 : 1 ≤ N) (k : Nat) : idxV (.d (best k N)) (.d (.int 0)) = some (.d (.int (kd (best k N)))) := by
  obtain ⟨a, b, c, e⟩ := best_tq h1 k
  generalize kd (best k N) = q at e
  rw [e]; rfl
theorem e23 {n N : Nat} (h1 : 1 ≤ N) (h2 : N ≤ 400) (h : List C) : evCall P (n + 5) 23 [.d (.int N)] h = .ok (.d (.bl (decide ((N : Int) * N < kd (best 14 N))))) h := by
  have E1 := e19 (n := n) (v := N) (by omega) (by omega) h
  have E2 := e17 (n := n + 2) (k := 14) (.inl rfl) h1 h2 h
  have E3 := e18 (n := n + 3) (v := N) (by omega) (by omega) h
  rw [evCall_eq P23 _ _ _ rfl]
  simp [b23, E1, E2, E3, best_vw h1, best_0 h1]
def due (a c : Int) : Int := if c = 1 then a else 2 * a - 1
theorem e24 {n : Nat} {a b c : Int} (s : Sh a b c) (h : List C) : evCall P (n + 1) 24 [.d (sp a b c)] h = .ok (.d (.int (due a c))) h := by
  have m : mulOk 2 a = true := mul_small (by omega) (by omega) (by have := s.a1; omega) (by have := s.a2; omega)
  rw [evCall_eq P24 _ _ _ rfl]
  by_cases hc : c = 1
  · simp [b24, hc, due]
  · simp [b24, hc, due, m]
theorem e25 {n : Nat} {a b c : Int} (s : Sh a b c) (h : List C) : evCall P (n + 2) 25 [.d (sp a b c)] h = .ok (.d (.bl (decide (due a c ≤ b)))) h := by
  rw [evCall_eq P25 _ _ _ rfl]
  simp [b25, e24 s]
theorem e26 {n : Nat} {a b c : Int} (s : Sh a b c) (h : List C) : evCall P (n + 5) 26 [.d (sp a b c)] h = .ok (.d (.bl (decide (due a c ≤ b)))) h := by
  rw [evCall_eq P26 _ _ _ rfl]
  simp [b26, e11 s, e25 (n := n + 2) s]
theorem e27 {n : Nat} {a b c : Int} (s : Sh a b c) (h : List C) : evCall P (n + 5) 27 [.d (sp a b c)] h = .ok (.d (.int (due a c))) h := by
  rw [evCall_eq P27 _ _ _ rfl]
  simp [b27, e11 s, e24 (n := n + 3) s]
end Lk85
end
section
set_option maxRecDepth 100000
namespace Lk85
open PySem Ev
theorem rng_i {m : Int} (h0 : 0 ≤ m) (h : m ≤ 1000) : rngOf [.d (.int m)] = some (rngD 0 m.toNat) := by
  rw [s_rng1, if_pos ⟨by omega, by simp [SZ]; omega⟩]
theorem e34 {n : Nat} {a b c : Int} (s : Sh a b c) (h : List C) : evCall P (n + 1) 34 [.d (.int a), .d (.int b), .d (.int c)] h = .ok (.d (.int (crs a b c))) h := by
  have a1 := s.a1; have a2 := s.a2; have b1' := s.b1; have b2' := s.b2; have c1 := s.c1; have c2 := s.c2
  have m1 : mulOk 2 a = true := mul_small (by omega) (by omega) (by omega) (by omega)
  have m2 : mulOk (2 * a) b = true := mul_small (by omega) (by omega) (by omega) (by omega)
  have m3 : mulOk c c = true := mul_small (by omega) (by omega) (by omega) (by omega)
  have L := forL_nx (tg := .n 4) (body := evSs (evCall P n) b34f1) (ok := fun _ _ => true) (xs := rngD 0 c.toNat)
    (fun i σ h' => ∃ w, h' = h ∧ σ = [.d (.int a), .d (.int b), .d (.int c), .d (.int (i * (2 * a * b))), w, .none])
    (σ := [.d (.int a), .d (.int b), .d (.int c), .d (.int 0), .none, .none]) (h := h) ⟨.none, rfl, by simp⟩ (by
      rintro i x σ h' ex ⟨w, rfl, rfl⟩
      obtain ⟨hi, rfl⟩ := rngL_get' ex
      refine ⟨_, _, [.d (.int a), .d (.int b), .d (.int c), .d (.int ((i + 1 : Nat) * (2 * a * b))), .d (.int (0 + i)), .none], _, rfl, ?_, rfl, .d (.int (0 + i)), rfl, rfl⟩
      simp [b34f1, m1, m2]
      rw [Int.add_mul, Int.one_mul])
  obtain ⟨σ', h', e1, w, rfl, rfl⟩ := L
  rw [rngD_length] at e1
  have L2 := forL_nx (tg := .n 5) (body := evSs (evCall P n) b34f2) (ok := fun _ _ => true) (xs := rngD 0 b.toNat)
    (fun i σ h'' => ∃ w2, h'' = h' ∧ σ = [.d (.int a), .d (.int b), .d (.int c), .d (.int (c.toNat * (2 * a * b) + i * (c * c))), w, w2])
    (σ := [.d (.int a), .d (.int b), .d (.int c), .d (.int (c.toNat * (2 * a * b))), w, .none]) (h := h') ⟨.none, rfl, by simp⟩ (by
      rintro i x σ h'' ex ⟨w2, rfl, rfl⟩
      obtain ⟨hi, rfl⟩ := rngL_get' ex
      refine ⟨_, _, [.d (.int a), .d (.int b), .d (.int c), .d (.int (c.toNat * (2 * a * b) + (i + 1 : Nat) * (c * c))), w, .d (.int (0 + i))], _, rfl, ?_, rfl, .d (.int (0 + i)), rfl, rfl⟩
      simp [b34f2, m3]
      rw [Int.add_mul, Int.one_mul, Int.add_assoc])
  obtain ⟨σ', h2, e2, w2, rfl, rfl⟩ := L2
  rw [rngD_length] at e2
  have tot : (c.toNat : Int) * (2 * a * b) + (b.toNat : Int) * (c * c) = crs a b c := by
    rw [Int.toNat_of_nonneg (by omega), Int.toNat_of_nonneg (by omega)]
    unfold crs
    congr 1
    · ac_rfl
    · ac_rfl
  rw [tot] at e2
  have r1 := rng_i (m := c) (by omega) (by omega)
  have r2 := rng_i (m := b) (by omega) (by omega)
  rw [evCall_eq P34 _ _ _ rfl]
  simp only [Int.toNat_of_nonneg (show 0 ≤ c by omega)] at e1 e2
  simp [b34, r1, r2, e1, e2]
/-- what leads costs no more -/
theorem crs_mono {l m m' r : Int} (hl : 0 ≤ l) (hr : 0 ≤ r) (hm : m ≤ m') : crs l m r ≤ crs l m' r := by
  unfold crs
  have e1 : 2 * r * l * m ≤ 2 * r * l * m' := Int.mul_le_mul_of_nonneg_left hm (Int.mul_nonneg (Int.mul_nonneg (by omega) hr) hl)
  have e2 : m * r * r ≤ m' * r * r := Int.mul_le_mul_of_nonneg_right (Int.mul_le_mul_of_nonneg_right hm hr) hr
  omega
theorem kd_cand (k N i : Nat) : kd (cand k N i) = crs (1 + (i : Int)) (mid k (1 + (i : Int)) ((N : Int) / (1 + (i : Int)))) ((N : Int) / (1 + (i : Int))) := rfl
theorem led_le {N : Nat} (h1 : 1 ≤ N) (h2 : N ≤ 400) : kd (best 15 N) ≤ kd (best 14 N) := by
  obtain ⟨⟨i, hi, e⟩, _⟩ := best_is h1 14
  obtain ⟨_, le⟩ := best_is h1 15
  have := le i hi
  rw [e]
  refine Int.le_trans this ?_
  rw [kd_cand, kd_cand]
  refine crs_mono (by omega) (div_b h2).1 ?_
  unfold mid
  simp
  split <;> omega
theorem okD_best {N : Nat} (h1 : 1 ≤ N) (k : Nat) (h : List C) (m : Nat) : okD h (m + 2) (best k N) = true := by
  obtain ⟨a, b, c, e⟩ := best_tq h1 k
  rw [e]
  simp [tq, okD]
theorem P33' : P 33 = some ⟨2, 5, bSame 33⟩ := P33
theorem e36 {n N : Nat} (h1 : 1 ≤ N) (h2 : N ≤ 400) (h : List C) : evCall P (n + 6) 36 [.d (.int N)] h = .ok (.d (.bl true)) h := by
  have E1 := e35 (n := n + 3) (k := 14) (.inl rfl) h1 h2 h
  have E2 := e35 (n := n + 3) (k := 15) (.inr rfl) h1 h2 h
  have E3 := e21 (n := n) h1 h2
  have E4 := e22 (n := n) h1 h2
  have E5 := e23 (n := n) h1 h2
  have K1 : kd0 14 = Str.ofString "never" := rfl
  have K2 : kd0 15 = Str.ofString "led" := rfl
  rw [K1] at E1
  rw [K2] at E2
  generalize hb : best 14 N = p at *
  generalize hq : best 15 N = q at *
  have le : kd q ≤ kd p := by rw [← hb, ← hq]; exact led_le h1 h2
  have o1 : ∀ (h : List C), okD h 2 p = true := fun h => by rw [← hb]; exact okD_best h1 14 h 0
  have o2 : ∀ (h : List C), okD h 2 q = true := fun h => by rw [← hq]; exact okD_best h1 15 h 0
  have S1 := same_rc P33' (n := n + 1) (m := 2) (a := h.length) (l := [p, p, q, q]) (h := h ++ [C.lst [p, p, q, q]]) (by simp) (by simp [o1, o2])
  have p0 : idxV (.d p) (.d (.int 0)) = some (.d (.int (kd p))) := by rw [← hb]; exact best_0 h1 14
  have q0 : idxV (.d q) (.d (.int 0)) = some (.d (.int (kd q))) := by rw [← hq]; exact best_0 h1 15
  have pv : ∀ h, vwD h p = some (.d p) := fun h => by rw [← hb]; exact best_vw h1 14 h
  have qv : ∀ h, vwD h q = some (.d q) := fun h => by rw [← hq]; exact best_vw h1 15 h
  have nm : mulOk (N : Int) N = true := mul_small (by omega) (by omega) (by omega) (by omega)
  rw [evCall_eq P36 _ _ _ rfl]
  generalize hd : decide ((N : Int) * N < kd p) = d at *
  have S2 := same_cc P33' (n := n + 3) (m := 0) (l := [.bl d, .bl d]) (h := h ++ [C.lst [p, p, q, q]]) (by simp [okD])
  have nle : ¬ (kd p < kd q) := by omega
  have f : fin h (.d (.bl true)) (h ++ [C.lst [p, p, q, q]]) = .ok (.d (.bl true)) h := fin_ext (by simp [isTb]) rfl
  simp [b36, E1, E2, E3, E4, permW, nodupB, permL, S1, pv, qv, p0, q0, nle, nm, hd, E5, S2, f]
end Lk85
end
section
set_option maxRecDepth 100000
namespace Lk85
open PySem Ev
theorem P30' : P 30 = some ⟨2, 3, bTurn⟩ := P30
theorem P31' : P 31 = some ⟨2, 2, bOneOf 30⟩ := P31
theorem ixN_lt {n v : Nat} (h : v < n) : ixN n (v : Int) = some v := by
  unfold ixN
  rw [if_pos (by omega), if_pos (by omega)]
  simp
theorem get_erase : ∀ (l : List D) (v : Nat) (h : v < l.length), (l[v] :: l.eraseIdx v).Perm l
  | [], v, h => by simp at h
  | x :: l, 0, h => List.Perm.refl _
  | x :: l, v + 1, h => by
    have IH := get_erase l v (by simpa using h)
    exact (List.Perm.swap x _ _).trans (List.Perm.cons x IH)
theorem pop_ok {l : List D} {v : Nat} (h : v < l.length) (hl : l.length ≤ 1000) : mtf .popAt (.lst l) [.int (v : Int)] = some (.lst (l.eraseIdx v), .d l[v]) := by
  have e : mtf .popAt (.lst l) [.int (v : Int)] = if -(2 ^ 63) ≤ (v : Int) ∧ (v : Int) < 2 ^ 63 then match ixN l.length (v : Int) with
      | some j => (l[j]?).map fun x => (.lst (l.eraseIdx j), .d x)
      | none => none
    else none := rfl
  rw [e, if_pos ⟨by omega, by omega⟩, ixN_lt h]
  show (l[v]?).map _ = _
  rw [List.getElem?_eq_getElem h]
  rfl
theorem Me {v : Nat} : msem .popAt (.s 2) [.d (.int (v : Int))] = bnd (toDs [.d (.int (v : Int))]) fun ds => change (.s 2) fun c => mtf .popAt c ds := rfl
theorem M2 {f : C → List D → Option (C × Av)} {r v : Nat} {l lf fd : List D} {h2 : List C} {w : W} (hv : v < lf.length) (po : f (.lst lf) [.int (v : Int)] = some (.lst (lf.eraseIdx v), .d lf[v])) : bnd (toDs [.d (.int (v : Int))]) (fun ds => change (.s 2) fun c => f c ds) [.d (.ref r), .c (.lst l), .c (.lst lf), .c (.lst fd), w] h2 = .ok (.d lf[v]) [.d (.ref r), .c (.lst l), .c (.lst (lf.eraseIdx v)), .c (.lst fd), w] h2 := by
    simp [po]
theorem M32 {r v : Nat} {l lf fd : List D} {h2 : List C} {w : W} (hv : v < lf.length) (po : mtf .popAt (.lst lf) [.int (v : Int)] = some (.lst (lf.eraseIdx v), .d lf[v])) : msem .popAt (.s 2) [.d (.int (v : Int))] [.d (.ref r), .c (.lst l), .c (.lst lf), .c (.lst fd), w] h2 = .ok (.d lf[v]) [.d (.ref r), .c (.lst l), .c (.lst (lf.eraseIdx v)), .c (.lst fd), w] h2 := by
  rw [Me]
  exact M2 (f := mtf .popAt) hv po
theorem T32 {cf : CF} {r v : Nat} {l lf fd : List D} {h h2 : List C} {w : W} (hv : v < lf.length) (hfd : fd.length < SZ) (E : cf 30 [.d (.ref r), .d (.int (lf.length : Int))] h = .ok (.d (.int (v : Int))) h2)
    (M : msem .popAt (.s 2) [.d (.int (v : Int))] [.d (.ref r), .c (.lst l), .c (.lst lf), .c (.lst fd), w] h2 = .ok (.d lf[v]) [.d (.ref r), .c (.lst l), .c (.lst (lf.eraseIdx v)), .c (.lst fd), w] h2) :
    evSs cf b32f1 [.d (.ref r), .c (.lst l), .c (.lst lf), .c (.lst fd), w] h = .nx [.d (.ref r), .c (.lst l), .c (.lst (lf.eraseIdx v)), .c (.lst (fd ++ [lf[v]])), w] h2 := by
  simp [-s_mpopA, -s_popA, b32f1, E, M, hfd]
theorem turn32 {cf : CF} {r v : Nat} {l lf fd : List D} {h h2 : List C} {w : W} (hv : v < lf.length) (hl : lf.length ≤ 1000) (hfd : fd.length < SZ) (E : cf 30 [.d (.ref r), .d (.int (lf.length : Int))] h = .ok (.d (.int (v : Int))) h2) :
    evSs cf b32f1 [.d (.ref r), .c (.lst l), .c (.lst lf), .c (.lst fd), w] h = .nx [.d (.ref r), .c (.lst l), .c (.lst (lf.eraseIdx v)), .c (.lst (fd ++ [lf[v]])), w] h2 := T32 hv hfd E (M32 hv (pop_ok hv hl))
theorem e32 {n r : Nat} {l : List D} {h : List C} {c : C} (hr : h[r]? = some c) (R : Rl c) (hl : l.length ≤ 1000) :
    ∃ (l' : List D) (c' : C), l'.Perm l ∧ Rl c' ∧ evCall P (n + 2) 32 [.d (.ref r), .c (.lst l)] h = .ok (.c (.lst l')) (h.set r c') := by
  have L := forL_nx (tg := .n 4) (body := evSs (evCall P (n + 1)) b32f1) (ok := fun _ _ => true) (xs := rngD 0 l.length)
    (fun i σ h' => ∃ c' lf fd w, Rl c' ∧ h' = h.set r c' ∧ lf.length + i = l.length ∧ (fd ++ lf).Perm l ∧ σ = [.d (.ref r), .c (.lst l), .c (.lst lf), .c (.lst fd), w])
    (σ := [.d (.ref r), .c (.lst l), .c (.lst l), .c (.lst []), .none]) (h := h.set r c) ⟨c, l, [], .none, R, rfl, rfl, List.Perm.refl _, rfl⟩ (by
      rintro i x σ h' ex ⟨c', lf, fd, w, R', rfl, hlf, pm, rfl⟩
      obtain ⟨hi, rfl⟩ := rngL_get' ex
      have gr : (h.set r c')[r]? = some c' := set_get hr
      obtain ⟨v, c2, hv, R2, E⟩ := turn_ok (n := n) (m := lf.length) P30' gr R' (by omega) (by omega)
      rw [List.set_set] at E
      have ix := ixN_lt hv
      have hfd : fd.length < SZ := by
        have := pm.length_eq
        simp at this
        unfold SZ
        omega
      refine ⟨_, _, [.d (.ref r), .c (.lst l), .c (.lst (lf.eraseIdx v)), .c (.lst (fd ++ [lf[v]])), .d (.int (0 + i))], h.set r c2, rfl, ?_, rfl, c2, _, _, _, R2, rfl, ?_, ?_, rfl⟩
      · exact turn32 hv (by omega) hfd E
      · rw [List.length_eraseIdx_of_lt hv]
        omega
      · refine List.Perm.trans ?_ pm
        rw [List.append_assoc]
        exact List.Perm.append_left fd (get_erase lf v hv))
  obtain ⟨σ', h', e, c', lf, fd, w, R', rfl, hlf, pm, rfl⟩ := L
  rw [rngD_length] at hlf
  have l0 : lf = [] := List.length_eq_zero_iff.mp (by omega)
  subst l0
  rw [List.append_nil] at pm
  refine ⟨fd, c', pm, R', ?_⟩
  have hs : h.set r c = h := by
    apply List.ext_getElem?
    intro j
    by_cases hj : r = j
    · subst hj
      rw [set_get hr, hr]
    · rw [List.getElem?_set_ne hj]
  rw [hs] at e
  have rg : rngOf [.d (.int (l.length : Int))] = some (rngD 0 l.length) := rng1_ok (by omega)
  have f : fin h (.c (.lst fd)) (h.set r c') = .ok (.c (.lst fd)) (h.set r c') := fin_len (by simp)
  rw [evCall_eq P32 _ _ _ rfl]
  simp [b32, rg, e, f]
end Lk85
end
section
set_option maxRecDepth 100000
namespace Lk85
open PySem Ev
/-- calls: the i-th inlet to f i -/
def calls (f : Nat → Nat) (L : Nat) : List D := (List.range L).map fun i : Nat => cl (i : Int) (f i : Int)
theorem calls_get {f : Nat → Nat} {L i : Nat} {x : D} (e : (calls f L)[i]? = some x) : i < L ∧ x = cl (i : Int) (f i : Int) := by
  unfold calls at e
  rw [List.getElem?_map] at e
  by_cases h : i < L
  · rw [List.getElem?_range h] at e
    cases e
    exact ⟨h, rfl⟩
  · rw [List.getElem?_eq_none (by simpa using h)] at e
    cases e
theorem calls_at {f : Nat → Nat} {L i : Nat} (h : i < L) : (calls f L)[i]? = some (cl (i : Int) (f i : Int)) := by
  unfold calls
  rw [List.getElem?_map, List.getElem?_range h]
  rfl
/-- the outlets that stand -/
def outs (f : Nat → Nat) (i : Nat) : List (D × D) := (List.range i).map fun j : Nat => (.int (f j : Int), .bl true)
theorem outs_no {f : Nat → Nat} {i : Nat} (h : ∀ j, j < i → f j ≠ f i) : getK (outs f i) (.int (f i : Int)) = none ∧ putK (outs f i) (.int (f i : Int)) (.bl true) = outs f (i + 1) := by
  have no : ∀ p ∈ outs f i, beqD p.1 (.int (f i : Int)) = false := fun p hp => by
    obtain ⟨j, hj, rfl⟩ := List.mem_map.mp hp
    have := h j (List.mem_range.mp hj)
    simp [beqD]
    omega
  have a : (outs f i).find? (fun p => beqD p.1 (.int (f i : Int))) = none := List.find?_eq_none.mpr fun p hp => by rw [no p hp]; simp
  have b : (outs f i).any (fun p => beqD p.1 (.int (f i : Int))) = false := by
    rw [List.any_eq_false]
    intro p hp
    rw [no p hp]
    simp
  constructor
  · unfold getK
    rw [a]
    rfl
  · unfold putK
    rw [b]
    simp [outs, List.range_succ]
theorem inV_dic (kvs : List (D × D)) (i : Int) : Ev.inV (.d (.int i)) (.c (.dic kvs)) = some (getK kvs (.int i)).isSome := rfl
structure Ok (A B C L : Nat) (f : Nat → Nat) : Prop where
  s : Sh (A : Int) (B : Int) (C : Int)
  l : L = A * C
  lt : ∀ i, i < L → f i < L
  inj : ∀ i j, j < i → i < L → f j ≠ f i
theorem Ok.l16 {A B C L : Nat} {f : Nat → Nat} (o : Ok A B C L f) : 1 ≤ L ∧ L ≤ 16 := by
  have := sp_mul o.s
  rw [o.l]
  constructor
  · have := this.1; norm_cast at this
  · have := this.2; norm_cast at this
theorem turn6 {n A B C L i : Nat} {f : Nat → Nat} (o : Ok A B C L f) (hi : i < L) (h : List Ev.C) (w3 w4 : W) :
    evSs (evCall P (n + 3)) b6f1 [.d (sp A B C), .d (.tup (calls f L)), .c (.dic (outs f i)), .d (.int (i : Int)), .d (cl (i : Int) (f i : Int))] h = .nx [.d (sp A B C), .d (.tup (calls f L)), .c (.dic (outs f (i + 1))), .d (.int (i : Int)), .d (cl (i : Int) (f i : Int))] h := by
  have l16 := o.l16
  have lc : ((A : Int) * C) = (L : Int) := by rw [o.l]; norm_cast
  have E := e5 (n := n) o.s (i := (i : Int)) (o := (f i : Int)) (by omega) (by rw [lc]; omega) (by omega) (by rw [lc]; have := o.lt i hi; omega) h
  obtain ⟨g1, g2⟩ := outs_no fun j hj => o.inj i j hj hi
  have sz : (outs f i).length < SZ := by
    simp [outs, SZ]
    omega
  by_cases i0 : i = 0
  · subst i0
    simp at E g1 g2 sz
    simp [b6f1, E, inV_dic, g1, g2, sz, keyOk]
  · have at1 : atI (calls f L) ((i : Int) - 1) = some (cl ((i - 1 : Nat) : Int) (f (i - 1) : Int)) := by
      rw [show (i : Int) - 1 = ((i - 1 : Nat) : Int) by omega, atI_nat, calls_at (by omega)]
    have nl : ¬ ((i : Int) ≤ ((i - 1 : Nat) : Int)) := by omega
    have ip : (0 : Int) < (i : Int) := by omega
    have ip2 : 0 < i := by omega
    have nl2 : ¬ (i ≤ i - 1) := by omega
    simp [b6f1, E, inV_dic, g1, g2, sz, keyOk, ip, ip2, at1, nl, nl2]
end Lk85
end
section
set_option maxRecDepth 100000
namespace Lk85
open PySem Ev
theorem calls_len (f : Nat → Nat) (L : Nat) : (calls f L).length = L := by simp [calls]
theorem e6 {n A B C L : Nat} {f : Nat → Nat} (o : Ok A B C L f) (h : List Ev.C) : evCall P (n + 4) 6 [.d (sp A B C), .d (.tup (calls f L))] h = .ok (.d .non) h := by
  have L1 := forL_nx (tg := .t [3, 4]) (body := evSs (evCall P (n + 3)) b6f1) (ok := stands [.d (.tup (calls f L))] [calls f L]) (xs := enumD 0 (calls f L))
    (fun i σ h' => ∃ w3 w4, h' = h ∧ σ = [.d (sp A B C), .d (.tup (calls f L)), .c (.dic (outs f i)), w3, w4])
    (σ := [.d (sp A B C), .d (.tup (calls f L)), .c (.dic []), .none, .none]) (h := h) ⟨.none, .none, rfl, rfl⟩ (by
      rintro i x σ h' ex ⟨w3, w4, rfl, rfl⟩
      rw [enumL_get] at ex
      cases ey : (calls f L)[i]? with
      | none => rw [ey] at ex; cases ex
      | some y =>
        rw [ey] at ex
        obtain ⟨hi, rfl⟩ := calls_get ey
        cases ex
        have E := turn6 (n := n) o hi h' w3 w4
        have z : ((0 + i : Nat) : Int) = (i : Int) := by omega
        refine ⟨[.d (sp A B C), .d (.tup (calls f L)), .c (.dic (outs f i)), .d (.int (i : Int)), .d (cl (i : Int) (f i : Int))], h', _, _, ?_, E, by simp [s_stc], .d (.int (i : Int)), .d (cl (i : Int) (f i : Int)), rfl, rfl⟩
        rw [z]
        rfl)
  obtain ⟨σ', h', e, w3, w4, rfl, rfl⟩ := L1
  rw [evCall_eq P6 _ _ _ rfl]
  simp [b6, e]
theorem e12 {n A B C L : Nat} {f : Nat → Nat} (o : Ok A B C L f) (h : List Ev.C) : evCall P (n + 5) 12 [.d (sp A B C), .d (.tup (calls f L))] h = .ok (.d .non) h := by
  have E := e6 (n := n) o h
  rw [evCall_eq P12 _ _ _ rfl]
  simp [b12, E]
/-- how many of the first i are r -/
def cnt (g : Nat → Nat) : Nat → Nat → Nat
  | 0, _ => 0
  | i + 1, r => cnt g i r + if g i = r then 1 else 0
def row (g : Nat → Nat) (C i : Nat) : List D := (List.range C).map fun r : Nat => .int (cnt g i r : Int)
theorem row_at {g : Nat → Nat} {C i r : Nat} (h : r < C) : atI (row g C i) (r : Int) = some (.int (cnt g i r : Int)) := by
  rw [atI_nat]
  unfold row
  rw [List.getElem?_map, List.getElem?_range h]
  rfl
theorem row_set {g : Nat → Nat} {C i : Nat} (h : g i < C) : (row g C i).set (g i) (.int ((cnt g i (g i) : Int) + 1)) = row g C (i + 1) := by
  apply List.ext_getElem?
  intro r
  unfold row
  by_cases hr : r = g i
  · subst hr
    rw [List.getElem?_set_self (by simpa using h), List.getElem?_map, List.getElem?_range h]
    simp [cnt]
  · rw [List.getElem?_set_ne (Ne.symm hr), List.getElem?_map, List.getElem?_map]
    by_cases h2 : r < C
    · rw [List.getElem?_range h2]
      simp [cnt, Ne.symm hr]
    · rw [List.getElem?_eq_none (by simpa using h2)]
      rfl
theorem row_len (g : Nat → Nat) (C i : Nat) : (row g C i).length = C := by simp [row]
theorem div_lt {A C x : Nat} (hA : 0 < A) (h : x < A * C) : x / A < C := Nat.div_lt_of_lt_mul h
theorem turn7 {n A B C L i : Nat} {f : Nat → Nat} (o : Ok A B C L f) (hi : i < L) (h : List Ev.C) (w6 : W) :
    evSs (evCall P (n + 1)) b7f1 [.d (sp A B C), .d (.tup (calls f L)), .c (.lst (row (fun j => j / A) C i)), .c (.lst (row (fun j => f j / A) C i)), .d (.int (i : Int)), .d (.int (f i : Int)), w6] h
      = .nx [.d (sp A B C), .d (.tup (calls f L)), .c (.lst (row (fun j => j / A) C (i + 1))), .c (.lst (row (fun j => f j / A) C (i + 1))), .d (.int (i : Int)), .d (.int (f i : Int)), w6] h := by
  have a1 : 0 < A := by have := o.s.a1; omega
  have E1 := e4 (n := n) o.s (i : Int) h
  have E2 := e4 (n := n) o.s (f i : Int) h
  rw [show (i : Int) / (A : Int) = ((i / A : Nat) : Int) from by norm_cast] at E1
  rw [show (f i : Int) / (A : Int) = ((f i / A : Nat) : Int) from by norm_cast] at E2
  have l1 : i / A < C := div_lt a1 (by rw [← o.l]; exact hi)
  have l2 : f i / A < C := div_lt a1 (by rw [← o.l]; exact o.lt i hi)
  have r1 := row_at (g := fun j => j / A) (i := i) l1
  have r2 := row_at (g := fun j => f j / A) (i := i) l2
  have s1 := row_set (g := fun j => j / A) (i := i) l1
  have s2 := row_set (g := fun j => f j / A) (i := i) l2
  have x1 : ixN C ((i / A : Nat) : Int) = some (i / A) := ixN_lt l1
  have x2 : ixN C ((f i / A : Nat) : Int) = some (f i / A) := ixN_lt l2
  generalize ((i / A : Nat) : Int) = q1 at *
  generalize ((f i / A : Nat) : Int) = q2 at *
  simp [b7f1, E1, E2, getV, r1, r2, augV, augI, dOf, x1, x2, row_len, s1, s2]
theorem e7 {n A B C L : Nat} {f : Nat → Nat} (o : Ok A B C L f) (h : List Ev.C) :
    evCall P (n + 2) 7 [.d (sp A B C), .d (.tup (calls f L))] h = .ok (.d (.tup [.ref h.length, .ref (h.length + 1)])) (h ++ [.lst (row (fun j => j / A) C L), .lst (row (fun j => f j / A) C L)]) := by
  have c2 := o.s.c2
  have c1 := o.s.c1
  have z : ∀ g : Nat → Nat, (List.range C).map (fun _ : Nat => D.int 0) = row g C 0 := fun g => by simp [row, cnt]
  have HC : ∀ (a b c d e : W), compL [6] (.n 6) (Ev.ret true) (ev (evCall P (n + 1)) (.cst (.int 0))) (fun _ _ => true) ((List.range C).map fun i : Nat => D.int (i : Int)) [a, b, c, d, e, .none, .none] h = .ok ((List.range C).map fun _ : Nat => D.int 0) [a, b, c, d, e, .none, .none] h := fun a b c d e =>
    compL_all (fun i : Nat => D.int (i : Int)) (fun _ : Nat => D.int 0) rfl (List.range C) fun x _ => ⟨[a, b, c, d, e, .none, .d (.int (x : Int))], rfl, .d (.int 0), [a, b, c, d, e, .none, .d (.int (x : Int))], [a, b, c, d, e, .none, .d (.int (x : Int))], rfl, rfl, rfl⟩
  have L1 := forL_nx (tg := .t [4, 5]) (body := evSs (evCall P (n + 1)) b7f1) (ok := stands [.d (.tup (calls f L))] [calls f L]) (xs := calls f L)
    (fun i σ h' => ∃ w4 w5, h' = h ∧ σ = [.d (sp A B C), .d (.tup (calls f L)), .c (.lst (row (fun j => j / A) C i)), .c (.lst (row (fun j => f j / A) C i)), w4, w5, .none])
    (σ := [.d (sp A B C), .d (.tup (calls f L)), .c (.lst (row (fun j => j / A) C 0)), .c (.lst (row (fun j => f j / A) C 0)), .none, .none, .none]) (h := h) ⟨.none, .none, rfl, rfl⟩ (by
      rintro i x σ h' ex ⟨w4, w5, rfl, rfl⟩
      obtain ⟨hi, rfl⟩ := calls_get ex
      exact ⟨_, _, _, _, rfl, turn7 (n := n) o hi h' .none, by simp [s_stc], .d (.int (i : Int)), .d (.int (f i : Int)), rfl, rfl⟩)
  obtain ⟨σ', h', e, w4, w5, rfl, rfl⟩ := L1
  rw [calls_len] at e
  have rg : rngOf [.d (.int (C : Int))] = some ((List.range C).map fun i : Nat => D.int (i : Int)) := by
    rw [rng1_ok (by omega), rngD_zero]
  have fi : fin h' (.d (.tup [.ref h'.length, .ref (h'.length + 1)])) (h' ++ [.lst (row (fun j => j / A) C L), .lst (row (fun j => f j / A) C L)]) = .ok (.d (.tup [.ref h'.length, .ref (h'.length + 1)])) (h' ++ [.lst (row (fun j => j / A) C L), .lst (row (fun j => f j / A) C L)]) := by
    unfold fin
    split
    · rfl
    · split
      · simp [refsW, refsD, refsDs]
      · rfl
  rw [evCall_eq P7 _ _ _ rfl]
  rw [z (fun j => j / A)] at HC
  have HC2 := HC
  rw [← z (fun j => j / A), z (fun j => f j / A)] at HC2
  have HC3 : ∀ (a b d e : W), compL [6] (.n 6) (Ev.ret true) (ev (evCall P (n + 1)) (.cst (.int 0))) (fun _ _ => true) ((List.range C).map fun i : Nat => D.int (i : Int)) [a, b, .c (.lst (row (fun j => j / A) C 0)), d, e, .none, .none] h' = .ok (row (fun j => f j / A) C 0) [a, b, .c (.lst (row (fun j => j / A) C 0)), d, e, .none, .none] h' := fun a b d e => HC2 a b _ d e
  have HC4 : ∀ (a b d e : W), compL [6] (.n 6) (Ev.ret true) (ev (evCall P (n + 1)) (.cst (.int 0))) (fun _ _ => true) ((List.range C).map fun i : Nat => D.int (i : Int)) [a, b, .none, d, e, .none, .none] h' = .ok (row (fun j => j / A) C 0) [a, b, .none, d, e, .none, .none] h' := fun a b d e => HC a b _ d e
  simp only [s_cst] at HC3 HC4
  simp [b7, rg, wiping, wipeW, keepW, ownFree, HC3, HC4, e, fi]
end Lk85
end
section
set_option maxRecDepth 100000
namespace Lk85
open PySem Ev
theorem cnt_eq (g : Nat → Nat) (r : Nat) : ∀ i, cnt g i r = (List.range i).countP fun j => decide (g j = r)
  | 0 => rfl
  | i + 1 => by
    rw [List.range_succ, List.countP_append, cnt, cnt_eq g r i]
    by_cases h : g i = r <;> simp [h]
theorem cnt_div : ∀ A < 5, ∀ C < 5, ∀ r < C, 0 < A → cnt (fun j => j / A) (A * C) r = A := by decide
theorem cnt_perm {A L : Nat} {f : Nat → Nat} (pm : ((List.range L).map f).Perm (List.range L)) (r : Nat) : cnt (fun j => f j / A) L r = cnt (fun j => j / A) L r := by
  rw [cnt_eq, cnt_eq, ← pm.countP_eq (fun x => decide (x / A = r)), List.countP_map]
  rfl
def rowA (A C : Nat) : List D := (List.range C).map fun _ : Nat => .int (A : Int)
theorem row_first {A B C L : Nat} {f : Nat → Nat} (o : Ok A B C L f) : row (fun j => j / A) C L = rowA A C := by
  have a1 := o.s.a1; have a2 := o.s.a2; have c2 := o.s.c2
  unfold row rowA
  refine List.map_congr_left fun r hr => ?_
  rw [o.l, cnt_div A (by omega) C (by omega) r (List.mem_range.mp hr) (by omega)]
theorem row_last {A B C L : Nat} {f : Nat → Nat} (o : Ok A B C L f) (pm : ((List.range L).map f).Perm (List.range L)) : row (fun j => f j / A) C L = rowA A C := by
  rw [← row_first o]
  unfold row
  refine List.map_congr_left fun r hr => ?_
  rw [cnt_perm pm]
theorem enum_row (A C : Nat) : enumD 0 (rowA A C) = (List.range C).map fun r : Nat => .tup [.int (r : Int), .int (A : Int)] := by
  apply List.ext_getElem?
  intro i
  rw [enumL_get, List.getElem?_map]
  unfold rowA
  rw [List.getElem?_map]
  by_cases h : i < C
  · rw [List.getElem?_range h]
    simp
  · rw [List.getElem?_eq_none (by simpa using h)]
    rfl
def full (s : String) (A B C : Nat) : List D := ((List.range C).filter fun _ => decide (B < A)).map fun r : Nat => .tup [.str (Str.ofString s), .int (r : Int)]
theorem comp8a {cf : CF} {A B C : Nat} {x y : W} {h : List Ev.C} {m k : Nat} {t : W} {ok : List W → List Ev.C → Bool} (hok : ok [.d (sp A B C), x, .d (.ref m), .d (.ref k), t, .none, .none] h = true) :
    compL [5, 6] (.t [5, 6]) (evT cf b8t1) (ev cf b8e1) ok ((List.range C).map fun r : Nat => .tup [.int (r : Int), .int (A : Int)]) [.d (sp A B C), x, .d (.ref m), .d (.ref k), t, .none, .none] h = .ok (full "first" A B C) [.d (sp A B C), x, .d (.ref m), .d (.ref k), t, .none, .none] h :=
  compL_map (fun r : Nat => .tup [.int (r : Int), .int (A : Int)]) (fun _ => decide (B < A)) (fun r : Nat => .tup [.str (Str.ofString "first"), .int (r : Int)]) hok (List.range C) fun r _ => by
    refine ⟨[.d (sp A B C), x, .d (.ref m), .d (.ref k), t, .d (.int (r : Int)), .d (.int (A : Int))], [.d (sp A B C), x, .d (.ref m), .d (.ref k), t, .d (.int (r : Int)), .d (.int (A : Int))], rfl, ?_, fun _ => ⟨.d (.tup [.str (Str.ofString "first"), .int (r : Int)]), [.d (sp A B C), x, .d (.ref m), .d (.ref k), t, .d (.int (r : Int)), .d (.int (A : Int))], [.d (sp A B C), x, .d (.ref m), .d (.ref k), t, .d (.int (r : Int)), .d (.int (A : Int))], ?_, rfl, rfl⟩, fun _ => rfl⟩
    · by_cases hb : B < A <;> simp [b8t1, hb]
    · simp [b8e1]
theorem comp8b {cf : CF} {A B C : Nat} {x y : W} {h : List Ev.C} {m k : Nat} {t : W} {ok : List W → List Ev.C → Bool} (hok : ok [.d (sp A B C), x, .d (.ref m), .d (.ref k), t, .none, .none] h = true) :
    compL [5, 6] (.t [5, 6]) (evT cf b8t2) (ev cf b8e2) ok ((List.range C).map fun r : Nat => .tup [.int (r : Int), .int (A : Int)]) [.d (sp A B C), x, .d (.ref m), .d (.ref k), t, .none, .none] h = .ok (full "last" A B C) [.d (sp A B C), x, .d (.ref m), .d (.ref k), t, .none, .none] h :=
  compL_map (fun r : Nat => .tup [.int (r : Int), .int (A : Int)]) (fun _ => decide (B < A)) (fun r : Nat => .tup [.str (Str.ofString "last"), .int (r : Int)]) hok (List.range C) fun r _ => by
    refine ⟨[.d (sp A B C), x, .d (.ref m), .d (.ref k), t, .d (.int (r : Int)), .d (.int (A : Int))], [.d (sp A B C), x, .d (.ref m), .d (.ref k), t, .d (.int (r : Int)), .d (.int (A : Int))], rfl, ?_, fun _ => ⟨.d (.tup [.str (Str.ofString "last"), .int (r : Int)]), [.d (sp A B C), x, .d (.ref m), .d (.ref k), t, .d (.int (r : Int)), .d (.int (A : Int))], [.d (sp A B C), x, .d (.ref m), .d (.ref k), t, .d (.int (r : Int)), .d (.int (A : Int))], ?_, rfl, rfl⟩, fun _ => rfl⟩
    · by_cases hb : B < A <;> simp [b8t2, hb]
    · simp [b8e2]
theorem full_refs (s : String) (A B C n : Nat) : refsDs n (full s A B C) = true := by
  unfold full
  induction ((List.range C).filter fun _ => decide (B < A)) with
  | nil => rfl
  | cons x l ih => simp [refsDs, refsD, ih]
theorem refs_app (n : Nat) : ∀ a b : List D, refsDs n a = true → refsDs n b = true → refsDs n (a ++ b) = true
  | [], b, _, h => h
  | x :: a, b, h1, h2 => by
    simp only [refsDs, Bool.and_eq_true, List.cons_append] at h1 ⊢
    exact ⟨h1.1, refs_app n a b h1.2 h2⟩
theorem full_len (s : String) (A B C : Nat) : (full s A B C).length = if B < A then C else 0 := by
  unfold full
  by_cases h : B < A
  · simp [h, List.filter_eq_self.mpr]
  · simp [h]
theorem e8 {n A B C L : Nat} {f : Nat → Nat} (o : Ok A B C L f) (pm : ((List.range L).map f).Perm (List.range L)) (h : List Ev.C) :
    evCall P (n + 3) 8 [.d (sp A B C), .d (.tup (calls f L))] h = .ok (.d (.tup (full "first" A B C ++ full "last" A B C))) h := by
  have c2 := o.s.c2
  have E := e7 (n := n) o h
  rw [row_first o, row_last o pm] at E
  have g1 : (h ++ [.lst (rowA A C), .lst (rowA A C)])[h.length]? = some (.lst (rowA A C)) := by simp
  have g2 : (h ++ [.lst (rowA A C), .lst (rowA A C)])[h.length + 1]? = some (.lst (rowA A C)) := by simp
  have sz : (full "first" A B C).length + (full "last" A B C).length ≤ SZ := by
    rw [full_len, full_len]
    unfold SZ
    split <;> omega
  have fi : fin h (.d (.tup (full "first" A B C ++ full "last" A B C))) (h ++ [.lst (rowA A C), .lst (rowA A C)]) = .ok (.d (.tup (full "first" A B C ++ full "last" A B C))) h := by
    refine fin_ext (by simp [isTb]) ?_
    exact refs_app _ _ _ (full_refs _ _ _ _ _) (full_refs _ _ _ _ _)
  have st1 : ∀ t w5 w6, stands1 (.d (.ref h.length)) (rowA A C) [.d (sp A B C), .d (.tup (calls f L)), .d (.ref h.length), .d (.ref (h.length + 1)), t, w5, w6] (h ++ [.lst (rowA A C), .lst (rowA A C)]) = true := fun t w5 w6 => by simp [stands1, beqDs_refl]
  have st2 : ∀ t w5 w6, stands1 (.d (.ref (h.length + 1))) (rowA A C) [.d (sp A B C), .d (.tup (calls f L)), .d (.ref h.length), .d (.ref (h.length + 1)), t, w5, w6] (h ++ [.lst (rowA A C), .lst (rowA A C)]) = true := fun t w5 w6 => by simp [stands1, g2, beqDs_refl]
  have C1 := comp8a (cf := evCall P (n + 2)) (A := A) (B := B) (C := C) (x := .d (.tup (calls f L))) (y := .none) (h := h ++ [.lst (rowA A C), .lst (rowA A C)]) (m := h.length) (k := h.length + 1) (t := .none) (ok := stands [.d (.ref h.length)] [rowA A C]) (by simp [s_stc, st1])
  have C2 := comp8b (cf := evCall P (n + 2)) (A := A) (B := B) (C := C) (x := .d (.tup (calls f L))) (y := .none) (h := h ++ [.lst (rowA A C), .lst (rowA A C)]) (m := h.length) (k := h.length + 1) (t := .c (.lst (full "first" A B C))) (ok := stands [.d (.ref (h.length + 1))] [rowA A C]) (by simp [s_stc, st2])
  rw [evCall_eq P8 _ _ _ rfl]
  simp [b8, E, enum_row, wiping, wipeW, keepW, ownFree, s_stc, st1, st2, C1, C2, sz, fi]
theorem e9 {n A B C L : Nat} {f : Nat → Nat} (o : Ok A B C L f) (pm : ((List.range L).map f).Perm (List.range L)) (h : List Ev.C) : evCall P (n + 4) 9 [.d (sp A B C), .d (.tup (calls f L))] h = .ok (.d (.bl (decide (A ≤ B)))) h := by
  have c1 := o.s.c1
  have E := e8 (n := n) o pm h
  have ln : (full "first" A B C ++ full "last" A B C).length = if B < A then C + C else 0 := by
    rw [List.length_append, full_len, full_len]
    split <;> rfl
  generalize full "first" A B C ++ full "last" A B C = l at E ln
  rw [evCall_eq P9 _ _ _ rfl]
  by_cases hb : B < A
  · rw [if_pos hb] at ln
    have nz : ¬ (C = 0) := by omega
    have nb : ¬ (A ≤ B) := by omega
    simp [b9, E, ln, nz, nb]
    omega
  · rw [if_neg hb] at ln
    have l0 : l = [] := List.length_eq_zero_iff.mp ln
    subst l0
    simp [b9, E, show A ≤ B by omega]
theorem e28 {n A B C L : Nat} {f : Nat → Nat} (o : Ok A B C L f) (pm : ((List.range L).map f).Perm (List.range L)) (h : List Ev.C) : evCall P (n + 6) 28 [.d (sp A B C), .d (.tup (calls f L))] h = .ok (.d (.bl (decide (A ≤ B)))) h := by
  have E1 := e11 (n := n + 1) o.s h
  have E2 := e12 (n := n) o h
  have E3 := e9 (n := n + 1) o pm h
  rw [evCall_eq P28 _ _ _ rfl]
  simp [b28, E1, E2, E3]
end Lk85
end
section
set_option maxRecDepth 100000
namespace Lk85
open PySem Ev
theorem best_le {A B C k : Nat} (s : Sh (A : Int) (B : Int) (C : Int)) (hm : mid k (A : Int) (C : Int) ≤ (B : Int)) : kd (best k (A * C)) ≤ crs (A : Int) (B : Int) (C : Int) := by
  have a1 := s.a1; have c1 := s.c1
  have sm := sp_mul s
  have h1 : 1 ≤ A * C := by have := sm.1; norm_cast at this
  obtain ⟨_, le⟩ := best_is h1 k
  have hA : (1 + ((A - 1 : Nat) : Int)) = (A : Int) := by omega
  have dvi : ((A * C : Nat) : Int) / (A : Int) = (C : Int) := by
    rw [Int.natCast_mul, Int.mul_ediv_cancel_left _ (by omega)]
  have mem : A - 1 ∈ dv (A * C) := by
    unfold dv
    rw [List.mem_filter]
    refine ⟨List.mem_range.mpr ?_, ?_⟩
    · have : A * 1 ≤ A * C := Nat.mul_le_mul_left A (by omega)
      omega
    · rw [hA, Int.natCast_mul, Int.mul_emod_right]
      simp
  have := le _ mem
  rw [kd_cand, hA, dvi] at this
  exact Int.le_trans this (crs_mono (by omega) (by omega) hm)
theorem mid_due (A C : Nat) : mid 14 (A : Int) (C : Int) = due (A : Int) (C : Int) := rfl
/-- a number that is told -/
def unI : D → Nat
  | .int x => x.toNat
  | _ => 0
theorem perm_f {l : List D} {L : Nat} (pm : l.Perm (rngD 0 L)) : ∃ f : Nat → Nat, l = (List.range L).map (fun i : Nat => .int (f i : Int)) ∧ ((List.range L).map f).Perm (List.range L) ∧ (∀ i, i < L → f i < L) ∧ ∀ i j, j < i → i < L → f j ≠ f i := by
  rw [rngD_zero] at pm
  have len : l.length = L := by rw [pm.length_eq]; simp
  have intsA : ∀ x ∈ l, x = .int (unI x : Int) := fun x hx => by
    obtain ⟨j, _, rfl⟩ := List.mem_map.mp (pm.mem_iff.mp hx)
    rfl
  let f : Nat → Nat := fun i => unI (l.getD i .non)
  have e1 : l = (List.range L).map fun i : Nat => .int (f i : Int) := by
    apply List.ext_getElem?
    intro i
    rw [List.getElem?_map]
    by_cases h : i < L
    · rw [List.getElem?_range h]
      have hl : i < l.length := by omega
      show l[i]? = some (.int (unI (l.getD i .non) : Int))
      rw [List.getD_eq_getElem?_getD, List.getElem?_eq_getElem hl]
      exact congrArg some (intsA _ (List.getElem_mem hl))
    · rw [List.getElem?_eq_none (by omega), List.getElem?_eq_none (by simpa using h)]
      rfl
  have e2 : (List.range L).map f = l.map unI := by
    conv => rhs; rw [e1]
    rw [List.map_map]
    refine List.map_congr_left fun i _ => ?_
    simp [unI]
  have p2 : ((List.range L).map f).Perm (List.range L) := by
    rw [e2]
    have := pm.map unI
    rw [List.map_map] at this
    have idm : (List.range L).map (unI ∘ fun i : Nat => D.int (i : Int)) = List.range L := by
      conv => rhs; rw [← List.map_id (List.range L)]
      refine List.map_congr_left fun i _ => ?_
      simp [unI]
    rw [idm] at this
    exact this
  refine ⟨f, e1, p2, fun i hi => ?_, fun i j hj hi z => ?_⟩
  · exact List.mem_range.mp (p2.mem_iff.mp (List.mem_map_of_mem (List.mem_range.mpr hi)))
  · have nd : ((List.range L).map f).Nodup := p2.nodup_iff.mpr List.nodup_range
    have := (List.pairwise_iff_getElem.mp nd) j i (by simp; omega) (by simpa using hi) hj
    simp at this
    exact this z
end Lk85
end
section
set_option maxRecDepth 100000
namespace Lk85
open PySem Ev
theorem led37 {A B C : Nat} (s : Sh (A : Int) (B : Int) (C : Int)) : (decide ((B : Int) < A) || decide (kd (best 15 (A * C)) ≤ crs A B C)) = true := by
  by_cases h : (B : Int) < A
  · simp [h]
  · have := best_le (k := 15) s (by show mid 15 (A : Int) (C : Int) ≤ B; unfold mid; simp; omega)
    simp [this]
theorem never37 {A B C : Nat} (s : Sh (A : Int) (B : Int) (C : Int)) : (decide (due (A : Int) C ≤ B) && decide (crs (A : Int) B C < kd (best 14 (A * C)))) = false := by
  by_cases h : due (A : Int) C ≤ B
  · have := best_le (k := 14) s (by rw [mid_due]; exact h)
    have : ¬ (crs (A : Int) B C < kd (best 14 (A * C))) := by omega
    simp [this]
  · simp [h]
theorem comp37 {cf : CF} {L : Nat} {f : Nat → Nat} {w0 w1 w2 w3 w4 w5 w7 : W} {h : List C} :
    compL [8] (.n 8) (Ev.ret true) (ev cf b37e1) (fun _ _ => true) ((List.range L).map fun i : Nat => D.int (i : Int)) [w0, w1, w2, w3, w4, w5, .c (.lst ((List.range L).map fun i : Nat => D.int (f i : Int))), w7, .none] h = .ok (calls f L) [w0, w1, w2, w3, w4, w5, .c (.lst ((List.range L).map fun i : Nat => D.int (f i : Int))), w7, .none] h :=
  compL_all (fun i : Nat => D.int (i : Int)) (fun i : Nat => cl (i : Int) (f i : Int)) rfl (List.range L) fun i hi => by
    have hi := List.mem_range.mp hi
    have e : atI ((List.range L).map fun i : Nat => D.int (f i : Int)) (i : Int) = some (.int (f i : Int)) := by
      rw [atI_nat, List.getElem?_map, List.getElem?_range hi]
      rfl
    refine ⟨[w0, w1, w2, w3, w4, w5, .c (.lst ((List.range L).map fun i : Nat => D.int (f i : Int))), w7, .d (.int (i : Int))], rfl, .d (cl (i : Int) (f i : Int)), [w0, w1, w2, w3, w4, w5, .c (.lst ((List.range L).map fun i : Nat => D.int (f i : Int))), w7, .d (.int (i : Int))], [w0, w1, w2, w3, w4, w5, .c (.lst ((List.range L).map fun i : Nat => D.int (f i : Int))), w7, .d (.int (i : Int))], ?_, rfl, rfl⟩
    simp [b37e1, e, cl]
theorem e37 {n r A B C : Nat} {h : List Ev.C} {c : Ev.C} (hr : h[r]? = some c) (R : Rl c) (s : Sh (A : Int) (B : Int) (C : Int)) : ∃ c', Rl c' ∧ evCall P (n + 7) 37 [.d (.ref r), .d (sp A B C)] h = .ok (.d (.bl true)) (h.set r c') := by
  have a1 := s.a1; have a2 := s.a2; have b1' := s.b1; have b2' := s.b2; have c1 := s.c1; have c2 := s.c2
  have sm := sp_mul s
  have l1 : 1 ≤ A * C := by have := sm.1; norm_cast at this
  have l2 : A * C ≤ 16 := by have := sm.2; norm_cast at this
  obtain ⟨l', c', pm, R', EM⟩ := e32 (n := n + 4) (l := rngD 0 (A * C)) hr R (by rw [rngD_length]; omega)
  obtain ⟨f, el, p2, flt, finj⟩ := perm_f pm
  have o : Ok A B C (A * C) f := ⟨s, rfl, flt, finj⟩
  have E34 := e34 (n := n + 5) s
  have E20 := e20 (n := n + 1) s
  have E26 := e26 (n := n + 1) s
  have E27 := e27 (n := n + 1) s
  have E21 := e21 (n := n + 1) (N := A * C) l1 (by omega)
  have E22 := e22 (n := n + 1) (N := A * C) l1 (by omega)
  have E28 := e28 (n := n) o p2
  have SC := fun h => same_cc P33' (n := n + 4) (m := 0) (h := h) (l := [.int (crs A B C), .int (crs A B C)]) (by simp [okD])
  have mm : mulOk (A : Int) (C : Int) = true := mul_small (by omega) (by omega) (by omega) (by omega)
  have m2 : mulOk 2 (A : Int) = true := mul_small (by omega) (by omega) (by omega) (by omega)
  have lc : (A : Int) * (C : Int) = ((A * C : Nat) : Int) := by norm_cast
  have T1 := never37 s
  have T2 := led37 s
  have bv1 := best_vw (N := A * C) l1 14
  have b01 := best_0 (N := A * C) l1 14
  have bv2 := best_vw (N := A * C) l1 15
  have b02 := best_0 (N := A * C) l1 15
  have rg : rngOf [.d (.int ((A * C : Nat) : Int))] = some ((List.range (A * C)).map fun i : Nat => D.int (i : Int)) := by
    rw [rng1_ok (by omega), rngD_zero]
  have rgl : rngD 0 (A * C) = (List.range (A * C)).map fun i : Nat => D.int (i : Int) := rngD_zero _
  rw [rgl, el] at EM
  refine ⟨c', R', ?_⟩
  have fi : fin h (.d (.bl true)) (h.set r c') = .ok (.d (.bl true)) (h.set r c') := fin_len (by simp)
  have dueE : (if (C : Int) = 1 then (A : Int) else 2 * (A : Int) - 1) = due A C := rfl
  generalize hL : A * C = L at *
  generalize hcr : crs (A : Int) B C = cr at *
  generalize hd : due (A : Int) C = du at *
  generalize hbn : best 14 L = bn at *
  generalize hbl : best 15 L = bl at *
  have bv1' := bv1; have bv2' := bv2
  have CP := fun w0 w1 w2 w3 w4 w5 w7 => comp37 (cf := evCall P (n + 6)) (L := L) (f := f) (w0 := w0) (w1 := w1) (w2 := w2) (w3 := w3) (w4 := w4) (w5 := w5) (w7 := w7) (h := h.set r c')
  have SC1 := SC h
  clear SC
  rw [evCall_eq P37 _ _ _ rfl]
  have hDue : ∀ (w2 w3 w4 w5 w6 w7 w8 : W), ev (evCall P (n + 6)) (.ite (.op (.cmp .Eq) (.cons (.op .idx (.cons (.var 1) (.cons (.cst (.int 2)) .nil))) (.cons (.cst (.int 1)) .nil))) (.op .idx (.cons (.var 1) (.cons (.cst (.int 0)) .nil))) (.op (.bin .Sub) (.cons (.op (.bin .Mult) (.cons (.cst (.int 2)) (.cons (.op .idx (.cons (.var 1) (.cons (.cst (.int 0)) .nil))) .nil))) (.cons (.cst (.int 1)) .nil))))
      [.d (.ref r), .d (sp A B C), w2, w3, w4, w5, w6, w7, w8] h = .ok (.d (.int du)) [.d (.ref r), .d (sp A B C), w2, w3, w4, w5, w6, w7, w8] h := by
    intro w2 w3 w4 w5 w6 w7 w8
    rw [← dueE]
    by_cases hc1 : (C : Int) = 1
    · simp [hc1]
    · simp [hc1, m2]
  by_cases hdu : du ≤ (B : Int)
  · have n1 : ¬ (cr < kd bn) := by simpa [hdu] using T1
    by_cases hba : (B : Int) < A
    · have nab : ¬ (A ≤ B) := by omega
      have nab2 : ¬ ((A : Int) ≤ B) := by omega
      simp [-s_ite, b37, b37r1, E34, E20, E26, E27, E21, E22, E28, mm, lc, permW, nodupB, permL, SC1, hdu, n1, bv1, b01, bv2, b02, hDue, EM, rg, CP, wiping, wipeW, keepW, ownFree, rgl, hba, nab, nab2, fi]
    · have nab : A ≤ B := by omega
      have nab2 : (A : Int) ≤ B := by omega
      have kl : kd bl ≤ cr := by simpa [hba] using T2
      simp [-s_ite, b37, b37r1, E34, E20, E26, E27, E21, E22, E28, mm, lc, permW, nodupB, permL, SC1, hdu, n1, bv1, b01, bv2, b02, hDue, EM, rg, CP, wiping, wipeW, keepW, ownFree, rgl, hba, nab, nab2, kl, fi]
  · by_cases hba : (B : Int) < A
    · have nab : ¬ (A ≤ B) := by omega
      have nab2 : ¬ ((A : Int) ≤ B) := by omega
      simp [-s_ite, b37, b37r1, E34, E20, E26, E27, E21, E22, E28, mm, lc, permW, nodupB, permL, SC1, hdu, bv1, b01, bv2, b02, hDue, EM, rg, CP, wiping, wipeW, keepW, ownFree, rgl, hba, nab, nab2, fi]
    · have nab : A ≤ B := by omega
      have nab2 : (A : Int) ≤ B := by omega
      have kl : kd bl ≤ cr := by simpa [hba] using T2
      simp [-s_ite, b37, b37r1, E34, E20, E26, E27, E21, E22, E28, mm, lc, permW, nodupB, permL, SC1, hdu, bv1, b01, bv2, b02, hDue, EM, rg, CP, wiping, wipeW, keepW, ownFree, rgl, hba, nab, nab2, kl, fi]
end Lk85
end
section
set_option maxRecDepth 100000
namespace Lk85
open PySem Ev
def bads : List D := [.int 0, .int 401, .int (-1), .non, .bl true, .str (Str.ofString "36"), .tup [.int 36]]
theorem e1_bad {n : Nat} {d : D} (hd : d ∈ bads) (h : List C) : evCall P (n + 2) 1 [.d d, .d (.int 1), .d (.int 400)] h = .ok (.d (.bl false)) h := by
  simp only [bads, List.mem_cons, List.not_mem_nil, or_false] at hd
  rcases hd with rfl | rfl | rfl | rfl | rfl | rfl | rfl
  · simp
  · simp
  · simp
  · have E : evCall P (n + 1) 0 [.d .non] h = .ok (.d (.bl false)) h := by rw [evCall_eq P0 _ _ _ rfl]; simp [b0]
    rw [evCall_eq P1 _ _ _ rfl]; simp [b1, E]
  · have E : evCall P (n + 1) 0 [.d (.bl true)] h = .ok (.d (.bl false)) h := by rw [evCall_eq P0 _ _ _ rfl]; simp [b0]
    rw [evCall_eq P1 _ _ _ rfl]; simp [b1, E]
  · have E : evCall P (n + 1) 0 [.d (.str (Str.ofString "36"))] h = .ok (.d (.bl false)) h := by rw [evCall_eq P0 _ _ _ rfl]; simp [b0]
    rw [evCall_eq P1 _ _ _ rfl]; simp [b1, E]
  · have E : evCall P (n + 1) 0 [.d (.tup [.int 36])] h = .ok (.d (.bl false)) h := by rw [evCall_eq P0 _ _ _ rfl]; simp [b0]
    rw [evCall_eq P1 _ _ _ rfl]; simp [b1, E]
theorem finX_same {h : List C} {c : Nat} {d : D} : finX h c d h = .ex c d h := by simp [finX]
theorem e19_bad {n : Nat} {d : D} (hd : d ∈ bads) (h : List C) : evCall P (n + 4) 19 [.d d] h = .ex 500002 d h := by
  have E1 := e1_bad (n := n) hd h
  have E10 : evCall P (n + 3) 10 [.d d, .d (.int 1), .d (.int 400)] h = .ex 500002 d h := by
    rw [evCall_eq P10 _ _ _ rfl]
    simp [b10, E1, finX_same]
  rw [evCall_eq P19 _ _ _ rfl]
  simp [b19, E10, finX_same]
theorem e212 {n k : Nat} (hk : k = 21 ∨ k = 22 ∨ k = 23) {d : D} (hd : d ∈ bads) (h : List C) : evCall P (n + 5) k [.d d] h = .ex 500002 d h := by
  have E := e19_bad (n := n) hd h
  rcases hk with rfl | rfl | rfl
  · rw [evCall_eq P21 _ _ _ rfl]; simp [b21, E, finX_same]
  · rw [evCall_eq P22 _ _ _ rfl]; simp [b22, E, finX_same]
  · rw [evCall_eq P23 _ _ _ rfl]; simp [b23, E, finX_same]
theorem okD_bad {d : D} (hd : d ∈ bads) (h : List C) : okD h 1 d = true := by
  simp only [bads, List.mem_cons, List.not_mem_nil, or_false] at hd
  rcases hd with rfl | rfl | rfl | rfl | rfl | rfl | rfl <;> first | rfl | (show PyData.strOk _ = true; decide +kernel)
def sN : D := .str (Str.ofString "number")
def sS : D := .str (Str.ofString "shape")
theorem lamN {n k : Nat} (hk : k = 21 ∨ k = 22 ∨ k = 23) {d : D} (hd : d ∈ bads) {h : List C} (ht : isTab 0 q39 h = true) (w0 w1 w2 w3 w4 w6 : W) :
    ev (evCall P (n + 7)) (.lam2 38 0 q39 5 (.call k (.cons (.var 5) .nil)) hs38 af38) [w0, w1, w2, w3, w4, .d d, w6] h = .ok (.d sN) [w0, w1, w2, w3, w4, .d d, w6] h := by
  have E := e212 (n := n + 2) hk hd h
  have S := same_ok P33' (n := n + 5) 1 d h (okD_bad hd h)
  simp [ht, E, caught2, hs38, S, sN]
def sbads (m : Nat) : List D := [.non, .tup [.int 2, .int 2], .ref m, .tup [.int 0, .int 2, .int 2], .tup [.int 5, .int 2, .int 2], .tup [.int 2, .int 7, .int 2], .tup [.int 2, .int 2, .int 5], .tup [.int 2, .bl true, .int 2]]
theorem e2_bad {n m : Nat} {d : D} (hd : d ∈ sbads m) {h : List C} (hm : h[m]? = some (.lst [.int 2, .int 2, .int 2])) : evCall P (n + 3) 2 [.d d] h = .ok (.d (.bl false)) h := by
  simp only [sbads, List.mem_cons, List.not_mem_nil, or_false] at hd
  rcases hd with rfl | rfl | rfl | rfl | rfl | rfl | rfl | rfl
  · rw [evCall_eq P2 _ _ _ rfl]; simp [b2]
  · rw [evCall_eq P2 _ _ _ rfl]; simp [b2]
  · rw [evCall_eq P2 _ _ _ rfl]; simp [b2, hm]
  · rw [evCall_eq P2 _ _ _ rfl]; simp [b2]
  · rw [evCall_eq P2 _ _ _ rfl]; simp [b2]
  · rw [evCall_eq P2 _ _ _ rfl]; simp [b2]
  · rw [evCall_eq P2 _ _ _ rfl]; simp [b2]
  · have E0 : evCall P (n + 1) 0 [.d (.bl true)] h = .ok (.d (.bl false)) h := by rw [evCall_eq P0 _ _ _ rfl]; simp [b0]
    have E : evCall P (n + 2) 1 [.d (.bl true), .d (.int 1), .d (.int 6)] h = .ok (.d (.bl false)) h := by rw [evCall_eq P1 _ _ _ rfl]; simp [b1, E0]
    rw [evCall_eq P2 _ _ _ rfl]; simp [b2, E]
theorem e20_bad {n m : Nat} {d : D} (hd : d ∈ sbads m) {h : List C} (hm : h[m]? = some (.lst [.int 2, .int 2, .int 2])) : evCall P (n + 5) 20 [.d d] h = .ex 500001 d h := by
  have E2 := e2_bad (n := n) hd hm
  have E11 : evCall P (n + 4) 11 [.d d] h = .ex 500001 d h := by
    rw [evCall_eq P11 _ _ _ rfl]
    simp [b11, E2, finX_same]
  rw [evCall_eq P20 _ _ _ rfl]
  simp [b20, E11, finX_same]
theorem okD_sbad {m : Nat} {d : D} (hd : d ∈ sbads m) {h : List C} (hm : h[m]? = some (.lst [.int 2, .int 2, .int 2])) : okD h 1 d = true := by
  simp only [sbads, List.mem_cons, List.not_mem_nil, or_false] at hd
  rcases hd with rfl | rfl | rfl | rfl | rfl | rfl | rfl | rfl <;> simp [okD, hm]
theorem lamS {n m : Nat} {d : D} (hd : d ∈ sbads m) {h : List C} (hm : h[m]? = some (.lst [.int 2, .int 2, .int 2])) (ht : isTab 0 q39 h = true) (w0 w1 w2 w3 w5 w6 : W) :
    ev (evCall P (n + 7)) (.lam2 38 0 q39 4 (.call 20 (.cons (.var 4) .nil)) hs38 af38) [w0, w1, w2, w3, .d d, w5, w6] h = .ok (.d sS) [w0, w1, w2, w3, .d d, w5, w6] h := by
  have E := e20_bad (n := n + 2) hd hm
  have S := same_ok P33' (n := n + 5) 1 d h (okD_sbad hd hm)
  simp [ht, E, caught2, hs38, S, sS, List.lookup]
end Lk85
end
section
set_option maxRecDepth 100000
namespace Lk85
open PySem Ev
theorem PR : P 29 = some ⟨2, 7, bReel⟩ := P29
theorem set_last {h0 : List C} {c c' : C} : (h0 ++ [c]).set h0.length c' = h0 ++ [c'] := by simp
theorem last_get {h0 : List C} {c : C} : (h0 ++ [c])[h0.length]? = some c := by simp
/-- the numbers -/
theorem nums {n : Nat} {σ0 : List W} {h : List C} {s lap r w4 w5 w6 w3 : W} {ok : List W → List C → Bool} (hok : ∀ σ h, ok σ h = true) {l : List D} (hl : ∀ x ∈ l, ∃ N : Nat, x = .int (N : Int) ∧ 1 ≤ N ∧ N ≤ 400) :
    ∃ w3', forL (.n 3) (evSs (evCall P (n + 7)) b39f1) ok l [s, lap, r, w3, w4, w5, w6] h = .nx [s, lap, r, w3', w4, w5, w6] h := by
  have L := forL_nx (tg := .n 3) (body := evSs (evCall P (n + 7)) b39f1) (ok := ok) (xs := l) (fun i σ h' => ∃ w, h' = h ∧ σ = [s, lap, r, w, w4, w5, w6]) (σ := [s, lap, r, w3, w4, w5, w6]) (h := h) ⟨w3, rfl, rfl⟩ (by
    rintro i x σ h' ex ⟨w, rfl, rfl⟩
    obtain ⟨N, rfl, h1, h2⟩ := hl x (List.mem_of_getElem? ex)
    have E := e36 (n := n + 1) h1 h2 h'
    refine ⟨_, _, _, _, rfl, ?_, hok _ _, .d (.int (N : Int)), rfl, rfl⟩
    simp [b39f1, E])
  obtain ⟨σ', h', e, w, rfl, rfl⟩ := L
  exact ⟨w, e⟩
theorem shapes {n : Nat} {h0 : List C} {c : C} (R : Rl c) {s lap w3 w4 w5 w6 : W} {ok : List W → List C → Bool} (hok : ∀ σ h, ok σ h = true) {l : List D} (hl : ∀ x ∈ l, ∃ A B C : Nat, x = sp A B C ∧ Sh (A : Int) (B : Int) (C : Int)) :
    ∃ w4' c', Rl c' ∧ forL (.n 4) (evSs (evCall P (n + 7)) b39f2) ok l [s, lap, .d (.ref h0.length), w3, w4, w5, w6] (h0 ++ [c]) = .nx [s, lap, .d (.ref h0.length), w3, w4', w5, w6] (h0 ++ [c']) := by
  have L := forL_nx (tg := .n 4) (body := evSs (evCall P (n + 7)) b39f2) (ok := ok) (xs := l) (fun i σ h' => ∃ w c', Rl c' ∧ h' = h0 ++ [c'] ∧ σ = [s, lap, .d (.ref h0.length), w3, w, w5, w6]) (σ := [s, lap, .d (.ref h0.length), w3, w4, w5, w6]) (h := h0 ++ [c]) ⟨w4, c, R, rfl, rfl⟩ (by
    rintro i x σ h' ex ⟨w, c', R', rfl, rfl⟩
    obtain ⟨A, B, C, rfl, sh⟩ := hl x (List.mem_of_getElem? ex)
    obtain ⟨c2, R2, E⟩ := e37 (n := n) (last_get (h0 := h0) (c := c')) R' sh
    rw [set_last] at E
    refine ⟨_, _, _, _, rfl, ?_, hok _ _, .d (sp A B C), c2, R2, rfl, rfl⟩
    simp [b39f2, E])
  obtain ⟨σ', h', e, w, c', R', rfl, rfl⟩ := L
  exact ⟨w, c', R', e⟩
theorem fin_told : eqV (.c (.lst [sN, sN, sN, sS])) (.c (.lst [sN, sN, sN, sS])) = some true := by decide +kernel
end Lk85
end
section
set_option maxRecDepth 100000
namespace Lk85
open PySem Ev
def l222 : C := .lst [.int 2, .int 2, .int 2]
theorem set_mid {h0 : List C} {c c' d : C} : (h0 ++ [c, d]).set h0.length c' = h0 ++ [c', d] := by simp
theorem mid_get {h0 : List C} {c d : C} : (h0 ++ [c, d])[h0.length]? = some c := by simp
theorem tab_app {h0 e : List C} (ht : h0[0]? = some (.tbl 0 q39)) : isTab 0 q39 (h0 ++ e) = true := by
  have l0 : 0 < h0.length := (List.getElem?_eq_some_iff.mp ht).1
  unfold isTab
  rw [List.getElem?_append_left l0, ht]
  simp
theorem lap39 {n lap : Nat} {h0 : List C} {s : D} {w2 w3 w4 w5 w6 : W} {ns : List Int} (hlap : lap < 1000) (hs : vwD h0 s = some (.c (.lst (ns.map .int))) ∨ vwD h0 s = some (.d (.flst (ns.map .int)))) (ht : h0[0]? = some (.tbl 0 q39)) :
    ∃ c' a b x t, Rl c' ∧ evSs (evCall P (n + 7)) b39f3 [.d s, .d (.int lap), w2, w3, w4, w5, w6] h0 = .nx [.d s, .d (.int lap), .d (.ref h0.length), a, b, x, t] (h0 ++ [c', l222]) := by
  obtain ⟨c, R, E29⟩ := reel_ok (n := n + 6) (h := h0) (k := 29) (P := P) PR hlap hs
  obtain ⟨v1, c1, hv1, R1, T1⟩ := turn_i (n := n + 6) (h := h0 ++ [c]) (r := h0.length) 12 P30' last_get R (by omega) (by omega)
  obtain ⟨v2, c2, hv2, R2, T2⟩ := turn_i (n := n + 6) (h := h0 ++ [c1]) (r := h0.length) 400 P30' last_get R1 (by omega) (by omega)
  obtain ⟨v3, c3, hv3, R3, T3⟩ := turn_i (n := n + 6) (h := h0 ++ [c2]) (r := h0.length) 33 P30' last_get R2 (by omega) (by omega)
  obtain ⟨v4, c4, hv4, R4, T4⟩ := turn_i (n := n + 6) (h := h0 ++ [c3]) (r := h0.length) 4 P30' last_get R3 (by omega) (by omega)
  obtain ⟨v5, c5, hv5, R5, T5⟩ := turn_i (n := n + 6) (h := h0 ++ [c4]) (r := h0.length) 6 P30' last_get R4 (by omega) (by omega)
  obtain ⟨v6, c6, hv6, R6, T6⟩ := turn_i (n := n + 6) (h := h0 ++ [c5]) (r := h0.length) 4 P30' last_get R5 (by omega) (by omega)
  rw [set_last] at T1 T2 T3 T4 T5 T6
  have m12 : mulOk 12 (1 + (v3 : Int)) = true := mul_small (by omega) (by omega) (by omega) (by omega)
  let ln : List D := [.int 1, .int 400, .int (1 + (v1 : Int)), .int (1 + (v2 : Int)), .int (12 * (1 + (v3 : Int))), .int 36]
  have LN := nums (n := n) (σ0 := []) (h := h0 ++ [c3]) (s := .d s) (lap := .d (.int lap)) (r := .d (.ref h0.length)) (w3 := w3) (w4 := w4) (w5 := w5) (w6 := w6) (ok := stands [.c (.lst ln)] [ln]) (fun σ h => by simp [s_stc]) (l := ln) (fun x hx => by
    simp only [ln, List.mem_cons, List.not_mem_nil, or_false] at hx
    rcases hx with rfl | rfl | rfl | rfl | rfl | rfl
    · exact ⟨1, rfl, by omega, by omega⟩
    · exact ⟨400, rfl, by omega, by omega⟩
    · exact ⟨1 + v1, by simp, by omega, by omega⟩
    · exact ⟨1 + v2, by simp, by omega, by omega⟩
    · exact ⟨12 * (1 + v3), by simp, by omega, by omega⟩
    · exact ⟨36, rfl, by omega, by omega⟩)
  obtain ⟨w3', LN⟩ := LN
  let ls : List D := [sp 1 1 1, sp 4 6 4, sp (1 + (v4 : Int)) (1 + (v5 : Int)) (1 + (v6 : Int))]
  have LS := shapes (n := n) (h0 := h0) (s := .d s) (lap := .d (.int lap)) (w3 := w3') (w4 := w4) (w5 := w5) (w6 := w6) R6 (ok := stands [.c (.lst ls)] [ls]) (fun σ h => by simp [s_stc]) (l := ls) (fun x hx => by
    simp only [ls, List.mem_cons, List.not_mem_nil, or_false] at hx
    rcases hx with rfl | rfl | rfl
    · exact ⟨1, 1, 1, rfl, ⟨by omega, by omega, by omega, by omega, by omega, by omega⟩⟩
    · exact ⟨4, 6, 4, rfl, ⟨by omega, by omega, by omega, by omega, by omega, by omega⟩⟩
    · exact ⟨1 + v4, 1 + v5, 1 + v6, by simp, ⟨by omega, by omega, by omega, by omega, by omega, by omega⟩⟩)
  obtain ⟨w4', c7, R7, LS⟩ := LS
  obtain ⟨x, i, c8, ex, R8, O1⟩ := one_ok (n := n + 5) (h := h0 ++ [c7]) (r := h0.length) (l := bads) P31' P30' last_get R7 (by decide) (by decide)
  rw [set_last] at O1
  have hx := List.mem_of_getElem? ex
  have L21 := lamN (n := n) (.inl rfl) hx (tab_app (e := [c8]) ht)
  have L22 := lamN (n := n) (.inr (.inl rfl)) hx (tab_app (e := [c8]) ht)
  have L23 := lamN (n := n) (.inr (.inr rfl)) hx (tab_app (e := [c8]) ht)
  obtain ⟨y, j, c9, ey, R9, O2⟩ := one_ok (n := n + 5) (h := h0 ++ [c8, l222]) (r := h0.length) (l := sbads (h0.length + 1)) P31' P30' mid_get R8 (by simp [sbads]) (by simp [sbads])
  rw [set_mid] at O2
  have hy := List.mem_of_getElem? ey
  have L20 := lamS (n := n) hy (h := h0 ++ [c9, l222]) (by simp [l222]) (tab_app (e := [c9, l222]) ht)
  have FT := fin_told
  simp only [ln] at LN
  simp only [ls, sp] at LS
  simp only [bads] at O1
  simp only [sbads, l222] at O2
  simp only [l222] at L20
  simp only [sN] at L21 L22 L23
  simp only [sS] at L20
  simp only [sN, sS] at FT
  refine ⟨c9, w3', .d y, .d x, .c (.lst [sN, sN, sN, sS]), R9, ?_⟩
  have s1 : 1 < SZ := by decide
  have s2 : 2 < SZ := by decide
  have s3 : 3 < SZ := by decide
  have s4 : 4 ≤ SZ := by decide
  have s0 : 3 ≤ SZ := by decide
  simp [-s_lam2, b39f3, E29, T1, T2, T3, m12, LN, T4, T5, T6, LS, O1, L21, L22, L23, s1, s2, s3, s4, s0, O2, L20, FT, l222, sN, sS, List.replicate]
end Lk85
end
section
set_option maxRecDepth 100000
namespace Lk85
open PySem Ev
theorem e39 {n : Nat} {h0 : List C} {s : D} {ns : List Int} (hs : ∀ e, vwD (h0 ++ e) s = some (.c (.lst (ns.map .int))) ∨ vwD (h0 ++ e) s = some (.d (.flst (ns.map .int)))) (ht : h0[0]? = some (.tbl 0 q39)) :
    evCall P (n + 8) 39 [.d s] h0 = .ok (.d (.bl true)) h0 := by
  have l0 : 0 < h0.length := (List.getElem?_eq_some_iff.mp ht).1
  have hs0 := hs []
  rw [List.append_nil] at hs0
  obtain ⟨c1, a1, b1, x1, t1, R1, E1⟩ := lap39 (n := n) (lap := 0) (w2 := .none) (w3 := .none) (w4 := .none) (w5 := .none) (w6 := .none) (by omega) hs0 ht
  obtain ⟨c2, a2, b2, x2, t2, R2, E2⟩ := lap39 (n := n) (lap := 1) (w2 := .d (.ref h0.length)) (w3 := a1) (w4 := b1) (w5 := x1) (w6 := t1) (by omega) (hs [c1, l222]) (by rw [List.getElem?_append_left l0, ht])
  have f : fin h0 (.d (.bl true)) (h0 ++ [c1, l222] ++ [c2, l222]) = .ok (.d (.bl true)) h0 := by
    rw [List.append_assoc]
    exact fin_ext (by simp [isTb_reel R1, isTb_reel R2, show isTb l222 = false from rfl]) rfl
  rw [evCall_eq P39 _ _ _ rfl]
  simp at E1 E2 f
  simp [b39, forL, s_stc, E1, E2, f]
end Lk85
end
section
set_option maxRecDepth 100000
set_option maxHeartbeats 0
namespace Lk85
open PySem PySem.Spec PyProof.Rows L2 Ev
abbrev top (i : Nat) : Stmt := PySem.Challenge.pw_trunkrooms_k85_whole_crosses_of_exchange.main.body.getD i (.Pass ⟨0, 0, 0, 0⟩)
def kws : List Kw := [⟨21, 0, [(Str.ofString "number")], [0]⟩, ⟨22, 0, [(Str.ofString "number")], [0]⟩, ⟨23, 0, [(Str.ofString "number")], [0]⟩, ⟨20, 0, [(Str.ofString "shape")], [0]⟩, ⟨27, 0, [(Str.ofString "shape")], [0]⟩, ⟨26, 0, [(Str.ofString "shape")], [0]⟩]
/-! 0 is_whole -/
def n0 : List Str := [(Str.ofString "value")]
def ps0 : List Str := [(Str.ofString "value")]
theorem S0 : FnScope n0 ps0 (defScope (top 1)) := ⟨rfl, rfl, rfl, by decide +kernel, rfl, by decide +kernel, by decide +kernel⟩
def g0 : List (Str × Gk) := [((Str.ofString "isinstance"), .blt), ((Str.ofString "int"), .blt), ((Str.ofString "bool"), .blt)]
theorem c0 : cSs ⟨n0, defScope (top 1), g0, kws, true, ((Str.ofString "is_whole") : Str) ++ ".<locals>." ++ "<lambda>", none, false⟩ b0 (defBody (top 1)) = true := by decide +kernel
/-! 1 is_between -/
def n1 : List Str := [(Str.ofString "value"), (Str.ofString "low"), (Str.ofString "high")]
def ps1 : List Str := [(Str.ofString "value"), (Str.ofString "low"), (Str.ofString "high")]
theorem S1 : FnScope n1 ps1 (defScope (top 2)) := ⟨rfl, rfl, rfl, by decide +kernel, rfl, by decide +kernel, by decide +kernel⟩
def g1 : List (Str × Gk) := [((Str.ofString "is_whole"), .fn 0 1)]
theorem c1 : cSs ⟨n1, defScope (top 2), g1, kws, true, ((Str.ofString "is_between") : Str) ++ ".<locals>." ++ "<lambda>", none, false⟩ b1 (defBody (top 2)) = true := by decide +kernel
/-! 2 shape_ok -/
def n2 : List Str := [(Str.ofString "value"), (Str.ofString "lines"), (Str.ofString "middles"), (Str.ofString "rooms")]
def ps2 : List Str := [(Str.ofString "value")]
theorem S2 : FnScope n2 ps2 (defScope (top 7)) := ⟨rfl, rfl, rfl, by decide +kernel, rfl, by decide +kernel, by decide +kernel⟩
def g2 : List (Str × Gk) := [((Str.ofString "isinstance"), .blt), ((Str.ofString "tuple"), .blt), ((Str.ofString "len"), .blt), ((Str.ofString "is_between"), .fn 1 3), ((Str.ofString "MOST_LINES_shapework"), .val (.int 4)), ((Str.ofString "MOST_MIDDLES"), .val (.int 6)), ((Str.ofString "MOST_ROOMS"), .val (.int 4))]
theorem c2 : cSs ⟨n2, defScope (top 7), g2, kws, true, ((Str.ofString "shape_ok") : Str) ++ ".<locals>." ++ "<lambda>", none, false⟩ b2 (defBody (top 7)) = true := by decide +kernel
/-! 3 line_count_by -/
def n3 : List Str := [(Str.ofString "shape")]
def ps3 : List Str := [(Str.ofString "shape")]
theorem S3 : FnScope n3 ps3 (defScope (top 8)) := ⟨rfl, rfl, rfl, by decide +kernel, rfl, by decide +kernel, by decide +kernel⟩
def g3 : List (Str × Gk) := []
theorem c3 : cSs ⟨n3, defScope (top 8), g3, kws, true, ((Str.ofString "line_count_by") : Str) ++ ".<locals>." ++ "<lambda>", none, false⟩ b3 (defBody (top 8)) = true := by decide +kernel
/-! 4 room_by -/
def n4 : List Str := [(Str.ofString "shape"), (Str.ofString "line")]
def ps4 : List Str := [(Str.ofString "shape"), (Str.ofString "line")]
theorem S4 : FnScope n4 ps4 (defScope (top 9)) := ⟨rfl, rfl, rfl, by decide +kernel, rfl, by decide +kernel, by decide +kernel⟩
def g4 : List (Str × Gk) := []
theorem c4 : cSs ⟨n4, defScope (top 9), g4, kws, true, ((Str.ofString "room_by") : Str) ++ ".<locals>." ++ "<lambda>", none, false⟩ b4 (defBody (top 9)) = true := by decide +kernel
/-! 5 call_ok -/
def n5 : List Str := [(Str.ofString "shape"), (Str.ofString "value"), (Str.ofString "most")]
def ps5 : List Str := [(Str.ofString "shape"), (Str.ofString "value")]
theorem S5 : FnScope n5 ps5 (defScope (top 11)) := ⟨rfl, rfl, rfl, by decide +kernel, rfl, by decide +kernel, by decide +kernel⟩
def g5 : List (Str × Gk) := [((Str.ofString "isinstance"), .blt), ((Str.ofString "tuple"), .blt), ((Str.ofString "len"), .blt), ((Str.ofString "line_count_by"), .fn 3 1), ((Str.ofString "is_between"), .fn 1 3)]
theorem c5 : cSs ⟨n5, defScope (top 11), g5, kws, true, ((Str.ofString "call_ok") : Str) ++ ".<locals>." ++ "<lambda>", none, false⟩ b5 (defBody (top 11)) = true := by decide +kernel
/-! 6 first_wrong_call -/
def n6 : List Str := [(Str.ofString "shape"), (Str.ofString "value"), (Str.ofString "outlets"), (Str.ofString "index"), (Str.ofString "call")]
def ps6 : List Str := [(Str.ofString "shape"), (Str.ofString "value")]
theorem S6 : FnScope n6 ps6 (defScope (top 12)) := ⟨rfl, rfl, rfl, by decide +kernel, rfl, by decide +kernel, by decide +kernel⟩
def g6 : List (Str × Gk) := [((Str.ofString "enumerate"), .blt), ((Str.ofString "call_ok"), .fn 5 2)]
theorem c6 : cSs ⟨n6, defScope (top 12), g6, kws, true, ((Str.ofString "first_wrong_call") : Str) ++ ".<locals>." ++ "<lambda>", none, false⟩ b6 (defBody (top 12)) = true := by decide +kernel
/-! 7 room_calls -/
def n7 : List Str := [(Str.ofString "shape"), (Str.ofString "calls"), (Str.ofString "firsts"), (Str.ofString "lasts"), (Str.ofString "inlet"), (Str.ofString "outlet"), (Str.ofString "_")]
def ps7 : List Str := [(Str.ofString "shape"), (Str.ofString "calls")]
theorem S7 : FnScope n7 ps7 (defScope (top 14)) := ⟨rfl, rfl, rfl, by decide +kernel, rfl, by decide +kernel, by decide +kernel⟩
def g7 : List (Str × Gk) := [((Str.ofString "range"), .blt), ((Str.ofString "room_by"), .fn 4 2)]
theorem c7 : cSs ⟨n7, defScope (top 14), g7, kws, true, ((Str.ofString "room_calls") : Str) ++ ".<locals>." ++ "<lambda>", none, false⟩ b7 (defBody (top 14)) = true := by decide +kernel
/-! 8 overfull_by -/
def n8 : List Str := [(Str.ofString "shape"), (Str.ofString "calls"), (Str.ofString "firsts"), (Str.ofString "lasts"), (Str.ofString "told"), (Str.ofString "room"), (Str.ofString "many")]
def ps8 : List Str := [(Str.ofString "shape"), (Str.ofString "calls")]
theorem S8 : FnScope n8 ps8 (defScope (top 15)) := ⟨rfl, rfl, rfl, by decide +kernel, rfl, by decide +kernel, by decide +kernel⟩
def g8 : List (Str × Gk) := [((Str.ofString "room_calls"), .fn 7 2), ((Str.ofString "enumerate"), .blt), ((Str.ofString "tuple"), .blt)]
theorem c8 : cSs ⟨n8, defScope (top 15), g8, kws, true, ((Str.ofString "overfull_by") : Str) ++ ".<locals>." ++ "<lambda>", none, false⟩ b8 (defBody (top 15)) = true := by decide +kernel
/-! 9 can_lead_by -/
def n9 : List Str := [(Str.ofString "shape"), (Str.ofString "calls")]
def ps9 : List Str := [(Str.ofString "shape"), (Str.ofString "calls")]
theorem S9 : FnScope n9 ps9 (defScope (top 16)) := ⟨rfl, rfl, rfl, by decide +kernel, rfl, by decide +kernel, by decide +kernel⟩
def g9 : List (Str × Gk) := [((Str.ofString "len"), .blt), ((Str.ofString "overfull_by"), .fn 8 2)]
theorem c9 : cSs ⟨n9, defScope (top 16), g9, kws, true, ((Str.ofString "can_lead_by") : Str) ++ ".<locals>." ++ "<lambda>", none, false⟩ b9 (defBody (top 16)) = true := by decide +kernel
/-! 10 check_number -/
def n10 : List Str := [(Str.ofString "value"), (Str.ofString "low"), (Str.ofString "high")]
def ps10 : List Str := [(Str.ofString "value"), (Str.ofString "low"), (Str.ofString "high")]
theorem S10 : FnScope n10 ps10 (defScope (top 23)) := ⟨rfl, rfl, rfl, by decide +kernel, rfl, by decide +kernel, by decide +kernel⟩
def g10 : List (Str × Gk) := [((Str.ofString "is_between"), .fn 1 3), ((Str.ofString "InvalidNumber"), .cls 500002)]
theorem c10 : cSs ⟨n10, defScope (top 23), g10, kws, true, ((Str.ofString "check_number") : Str) ++ ".<locals>." ++ "<lambda>", none, false⟩ b10 (defBody (top 23)) = true := by decide +kernel
/-! 11 check_shape -/
def n11 : List Str := [(Str.ofString "shape")]
def ps11 : List Str := [(Str.ofString "shape")]
theorem S11 : FnScope n11 ps11 (defScope (top 24)) := ⟨rfl, rfl, rfl, by decide +kernel, rfl, by decide +kernel, by decide +kernel⟩
def g11 : List (Str × Gk) := [((Str.ofString "shape_ok"), .fn 2 1), ((Str.ofString "InvalidShape"), .cls 500001)]
theorem c11 : cSs ⟨n11, defScope (top 24), g11, kws, true, ((Str.ofString "check_shape") : Str) ++ ".<locals>." ++ "<lambda>", none, false⟩ b11 (defBody (top 24)) = true := by decide +kernel
/-! 12 check_calls -/
def n12 : List Str := [(Str.ofString "shape"), (Str.ofString "calls"), (Str.ofString "index")]
def ps12 : List Str := [(Str.ofString "shape"), (Str.ofString "calls")]
theorem S12 : FnScope n12 ps12 (defScope (top 25)) := ⟨rfl, rfl, rfl, by decide +kernel, rfl, by decide +kernel, by decide +kernel⟩
def g12 : List (Str × Gk) := [((Str.ofString "isinstance"), .blt), ((Str.ofString "tuple"), .blt), ((Str.ofString "InvalidCalls"), .cls 500003), ((Str.ofString "first_wrong_call"), .fn 6 2)]
theorem c12 : cSs ⟨n12, defScope (top 25), g12, kws, true, ((Str.ofString "check_calls") : Str) ++ ".<locals>." ++ "<lambda>", none, false⟩ b12 (defBody (top 25)) = true := by decide +kernel
/-! 13 crosses_by -/
def n13 : List Str := [(Str.ofString "lines"), (Str.ofString "middles"), (Str.ofString "rooms")]
def ps13 : List Str := [(Str.ofString "lines"), (Str.ofString "middles"), (Str.ofString "rooms")]
theorem S13 : FnScope n13 ps13 (defScope (top 27)) := ⟨rfl, rfl, rfl, by decide +kernel, rfl, by decide +kernel, by decide +kernel⟩
def g13 : List (Str × Gk) := []
theorem c13 : cSs ⟨n13, defScope (top 27), g13, kws, true, ((Str.ofString "crosses_by") : Str) ++ ".<locals>." ++ "<lambda>", none, false⟩ b13 (defBody (top 27)) = true := by decide +kernel
/-! 14 never_rooms -/
def n14 : List Str := [(Str.ofString "lines"), (Str.ofString "rooms")]
def ps14 : List Str := [(Str.ofString "lines"), (Str.ofString "rooms")]
theorem S14 : FnScope n14 ps14 (defScope (top 28)) := ⟨rfl, rfl, rfl, by decide +kernel, rfl, by decide +kernel, by decide +kernel⟩
def g14 : List (Str × Gk) := []
theorem c14 : cSs ⟨n14, defScope (top 28), g14, kws, true, ((Str.ofString "never_rooms") : Str) ++ ".<locals>." ++ "<lambda>", none, false⟩ b14 (defBody (top 28)) = true := by decide +kernel
/-! 15 led_rooms -/
def n15 : List Str := [(Str.ofString "lines"), (Str.ofString "rooms")]
def ps15 : List Str := [(Str.ofString "lines"), (Str.ofString "rooms")]
theorem S15 : FnScope n15 ps15 (defScope (top 29)) := ⟨rfl, rfl, rfl, by decide +kernel, rfl, by decide +kernel, by decide +kernel⟩
def g15 : List (Str × Gk) := []
theorem c15 : cSs ⟨n15, defScope (top 29), g15, kws, true, ((Str.ofString "led_rooms") : Str) ++ ".<locals>." ++ "<lambda>", none, false⟩ b15 (defBody (top 29)) = true := by decide +kernel
/-! 16 partings_of -/
def n16 : List Str := [(Str.ofString "number"), (Str.ofString "lines")]
def ps16 : List Str := [(Str.ofString "number")]
theorem S16 : FnScope n16 ps16 (defScope (top 30)) := ⟨rfl, rfl, rfl, by decide +kernel, rfl, by decide +kernel, by decide +kernel⟩
def g16 : List (Str × Gk) := [((Str.ofString "range"), .blt)]
theorem c16 : cSs ⟨n16, defScope (top 30), g16, kws, true, ((Str.ofString "partings_of") : Str) ++ ".<locals>." ++ "<lambda>", none, false⟩ b16 (defBody (top 30)) = true := by decide +kernel
/-! 17 cheapest_by -/
def n17 : List Str := [(Str.ofString "number"), (Str.ofString "middles_of"), (Str.ofString "found"), (Str.ofString "lines"), (Str.ofString "rooms"), (Str.ofString "middles")]
def ps17 : List Str := [(Str.ofString "number"), (Str.ofString "middles_of")]
theorem S17 : FnScope n17 ps17 (defScope (top 31)) := ⟨rfl, rfl, rfl, by decide +kernel, rfl, by decide +kernel, by decide +kernel⟩
def g17 : List (Str × Gk) := [((Str.ofString "partings_of"), .fn 16 1), ((Str.ofString "never_rooms"), .fn 14 2), ((Str.ofString "led_rooms"), .fn 15 2), ((Str.ofString "crosses_by"), .fn 13 3), ((Str.ofString "min"), .blt)]
theorem c17 : cSs ⟨n17, defScope (top 31), g17, kws, true, ((Str.ofString "cheapest_by") : Str) ++ ".<locals>." ++ "<lambda>", none, false⟩ b17 (defBody (top 31)) = true := by decide +kernel
/-! 18 single_by -/
def n18 : List Str := [(Str.ofString "number")]
def ps18 : List Str := [(Str.ofString "number")]
theorem S18 : FnScope n18 ps18 (defScope (top 32)) := ⟨rfl, rfl, rfl, by decide +kernel, rfl, by decide +kernel, by decide +kernel⟩
def g18 : List (Str × Gk) := []
theorem c18 : cSs ⟨n18, defScope (top 32), g18, kws, true, ((Str.ofString "single_by") : Str) ++ ".<locals>." ++ "<lambda>", none, false⟩ b18 (defBody (top 32)) = true := by decide +kernel
/-! 19 check_many_lines -/
def n19 : List Str := [(Str.ofString "number")]
def ps19 : List Str := [(Str.ofString "number")]
theorem S19 : FnScope n19 ps19 (defScope (top 35)) := ⟨rfl, rfl, rfl, by decide +kernel, rfl, by decide +kernel, by decide +kernel⟩
def g19 : List (Str × Gk) := [((Str.ofString "check_number"), .fn 10 3), ((Str.ofString "MOST_LINES_crosses"), .val (.int 400))]
theorem c19 : cSs ⟨n19, defScope (top 35), g19, kws, true, ((Str.ofString "check_many_lines") : Str) ++ ".<locals>." ++ "<lambda>", none, false⟩ b19 (defBody (top 35)) = true := by decide +kernel
/-! 20 crosses_of -/
def n20 : List Str := [(Str.ofString "shape")]
def ps20 : List Str := [(Str.ofString "shape")]
theorem S20 : FnScope n20 ps20 (defScope (top 36)) := ⟨rfl, rfl, rfl, by decide +kernel, rfl, by decide +kernel, by decide +kernel⟩
def g20 : List (Str × Gk) := [((Str.ofString "check_shape"), .fn 11 1), ((Str.ofString "crosses_by"), .fn 13 3)]
theorem c20 : cSs ⟨n20, defScope (top 36), g20, kws, true, ((Str.ofString "crosses_of") : Str) ++ ".<locals>." ++ "<lambda>", none, false⟩ b20 (defBody (top 36)) = true := by decide +kernel
/-! 21 cheapest_never -/
def n21 : List Str := [(Str.ofString "number")]
def ps21 : List Str := [(Str.ofString "number")]
theorem S21 : FnScope n21 ps21 (defScope (top 37)) := ⟨rfl, rfl, rfl, by decide +kernel, rfl, by decide +kernel, by decide +kernel⟩
def g21 : List (Str × Gk) := [((Str.ofString "check_many_lines"), .fn 19 1), ((Str.ofString "cheapest_by"), .fn 17 2), ((Str.ofString "never_rooms"), .fn 14 2)]
theorem c21 : cSs ⟨n21, defScope (top 37), g21, kws, true, ((Str.ofString "cheapest_never") : Str) ++ ".<locals>." ++ "<lambda>", none, false⟩ b21 (defBody (top 37)) = true := by decide +kernel
/-! 22 cheapest_led -/
def n22 : List Str := [(Str.ofString "number")]
def ps22 : List Str := [(Str.ofString "number")]
theorem S22 : FnScope n22 ps22 (defScope (top 38)) := ⟨rfl, rfl, rfl, by decide +kernel, rfl, by decide +kernel, by decide +kernel⟩
def g22 : List (Str × Gk) := [((Str.ofString "check_many_lines"), .fn 19 1), ((Str.ofString "cheapest_by"), .fn 17 2), ((Str.ofString "led_rooms"), .fn 15 2)]
theorem c22 : cSs ⟨n22, defScope (top 38), g22, kws, true, ((Str.ofString "cheapest_led") : Str) ++ ".<locals>." ++ "<lambda>", none, false⟩ b22 (defBody (top 38)) = true := by decide +kernel
/-! 23 is_single_cheaper -/
def n23 : List Str := [(Str.ofString "number")]
def ps23 : List Str := [(Str.ofString "number")]
theorem S23 : FnScope n23 ps23 (defScope (top 39)) := ⟨rfl, rfl, rfl, by decide +kernel, rfl, by decide +kernel, by decide +kernel⟩
def g23 : List (Str × Gk) := [((Str.ofString "check_many_lines"), .fn 19 1), ((Str.ofString "single_by"), .fn 18 1), ((Str.ofString "cheapest_by"), .fn 17 2), ((Str.ofString "never_rooms"), .fn 14 2)]
theorem c23 : cSs ⟨n23, defScope (top 39), g23, kws, true, ((Str.ofString "is_single_cheaper") : Str) ++ ".<locals>." ++ "<lambda>", none, false⟩ b23 (defBody (top 39)) = true := by decide +kernel
/-! 24 fewest_by -/
def n24 : List Str := [(Str.ofString "shape")]
def ps24 : List Str := [(Str.ofString "shape")]
theorem S24 : FnScope n24 ps24 (defScope (top 41)) := ⟨rfl, rfl, rfl, by decide +kernel, rfl, by decide +kernel, by decide +kernel⟩
def g24 : List (Str × Gk) := []
theorem c24 : cSs ⟨n24, defScope (top 41), g24, kws, true, ((Str.ofString "fewest_by") : Str) ++ ".<locals>." ++ "<lambda>", none, false⟩ b24 (defBody (top 41)) = true := by decide +kernel
/-! 25 never_by -/
def n25 : List Str := [(Str.ofString "shape")]
def ps25 : List Str := [(Str.ofString "shape")]
theorem S25 : FnScope n25 ps25 (defScope (top 42)) := ⟨rfl, rfl, rfl, by decide +kernel, rfl, by decide +kernel, by decide +kernel⟩
def g25 : List (Str × Gk) := [((Str.ofString "fewest_by"), .fn 24 1)]
theorem c25 : cSs ⟨n25, defScope (top 42), g25, kws, true, ((Str.ofString "never_by") : Str) ++ ".<locals>." ++ "<lambda>", none, false⟩ b25 (defBody (top 42)) = true := by decide +kernel
/-! 26 never_blocks -/
def n26 : List Str := [(Str.ofString "shape")]
def ps26 : List Str := [(Str.ofString "shape")]
theorem S26 : FnScope n26 ps26 (defScope (top 44)) := ⟨rfl, rfl, rfl, by decide +kernel, rfl, by decide +kernel, by decide +kernel⟩
def g26 : List (Str × Gk) := [((Str.ofString "check_shape"), .fn 11 1), ((Str.ofString "never_by"), .fn 25 1)]
theorem c26 : cSs ⟨n26, defScope (top 44), g26, kws, true, ((Str.ofString "never_blocks") : Str) ++ ".<locals>." ++ "<lambda>", none, false⟩ b26 (defBody (top 44)) = true := by decide +kernel
/-! 27 fewest_rooms -/
def n27 : List Str := [(Str.ofString "shape")]
def ps27 : List Str := [(Str.ofString "shape")]
theorem S27 : FnScope n27 ps27 (defScope (top 45)) := ⟨rfl, rfl, rfl, by decide +kernel, rfl, by decide +kernel, by decide +kernel⟩
def g27 : List (Str × Gk) := [((Str.ofString "check_shape"), .fn 11 1), ((Str.ofString "fewest_by"), .fn 24 1)]
theorem c27 : cSs ⟨n27, defScope (top 45), g27, kws, true, ((Str.ofString "fewest_rooms") : Str) ++ ".<locals>." ++ "<lambda>", none, false⟩ b27 (defBody (top 45)) = true := by decide +kernel
/-! 28 can_lead -/
def n28 : List Str := [(Str.ofString "shape"), (Str.ofString "calls")]
def ps28 : List Str := [(Str.ofString "shape"), (Str.ofString "calls")]
theorem S28 : FnScope n28 ps28 (defScope (top 47)) := ⟨rfl, rfl, rfl, by decide +kernel, rfl, by decide +kernel, by decide +kernel⟩
def g28 : List (Str × Gk) := [((Str.ofString "check_shape"), .fn 11 1), ((Str.ofString "check_calls"), .fn 12 2), ((Str.ofString "can_lead_by"), .fn 9 2)]
theorem c28 : cSs ⟨n28, defScope (top 47), g28, kws, true, ((Str.ofString "can_lead") : Str) ++ ".<locals>." ++ "<lambda>", none, false⟩ b28 (defBody (top 47)) = true := by decide +kernel
/-! 29 _law_reel -/
def n29 : List Str := [(Str.ofString "script"), (Str.ofString "lap"), (Str.ofString "wound"), (Str.ofString "odd"), (Str.ofString "at"), (Str.ofString "cell"), (Str.ofString "long")]
def ps29 : List Str := [(Str.ofString "script"), (Str.ofString "lap")]
theorem S29 : FnScope n29 ps29 (defScope (top 49)) := ⟨rfl, rfl, rfl, by decide +kernel, rfl, by decide +kernel, by decide +kernel⟩
def g29 : List (Str × Gk) := [((Str.ofString "enumerate"), .blt), ((Str.ofString "list"), .blt), ((Str.ofString "int"), .blt), ((Str.ofString "len"), .blt), ((Str.ofString "abs"), .blt)]
theorem c29 : cSs ⟨n29, defScope (top 49), g29, kws, true, ((Str.ofString "_law_reel") : Str) ++ ".<locals>." ++ "<lambda>", none, false⟩ b29 (defBody (top 49)) = true := by decide +kernel
/-! 30 _law_turn -/
def n30 : List Str := [(Str.ofString "reel"), (Str.ofString "many"), (Str.ofString "own")]
def ps30 : List Str := [(Str.ofString "reel"), (Str.ofString "many")]
theorem S30 : FnScope n30 ps30 (defScope (top 50)) := ⟨rfl, rfl, rfl, by decide +kernel, rfl, by decide +kernel, by decide +kernel⟩
def g30 : List (Str × Gk) := [((Str.ofString "int"), .blt)]
theorem c30 : cSs ⟨n30, defScope (top 50), g30, kws, true, ((Str.ofString "_law_turn") : Str) ++ ".<locals>." ++ "<lambda>", none, false⟩ b30 (defBody (top 50)) = true := by decide +kernel
/-! 31 _law_one_of -/
def n31 : List Str := [(Str.ofString "reel"), (Str.ofString "some")]
def ps31 : List Str := [(Str.ofString "reel"), (Str.ofString "some")]
theorem S31 : FnScope n31 ps31 (defScope (top 51)) := ⟨rfl, rfl, rfl, by decide +kernel, rfl, by decide +kernel, by decide +kernel⟩
def g31 : List (Str × Gk) := [((Str.ofString "_law_turn"), .fn 30 2), ((Str.ofString "len"), .blt)]
theorem c31 : cSs ⟨n31, defScope (top 51), g31, kws, true, ((Str.ofString "_law_one_of") : Str) ++ ".<locals>." ++ "<lambda>", none, false⟩ b31 (defBody (top 51)) = true := by decide +kernel
/-! 32 _law_mixed -/
def n32 : List Str := [(Str.ofString "reel"), (Str.ofString "some"), (Str.ofString "left"), (Str.ofString "found"), (Str.ofString "turn")]
def ps32 : List Str := [(Str.ofString "reel"), (Str.ofString "some")]
theorem S32 : FnScope n32 ps32 (defScope (top 52)) := ⟨rfl, rfl, rfl, by decide +kernel, rfl, by decide +kernel, by decide +kernel⟩
def g32 : List (Str × Gk) := [((Str.ofString "list"), .blt), ((Str.ofString "range"), .blt), ((Str.ofString "len"), .blt), ((Str.ofString "_law_turn"), .fn 30 2)]
theorem c32 : cSs ⟨n32, defScope (top 52), g32, kws, true, ((Str.ofString "_law_mixed") : Str) ++ ".<locals>." ++ "<lambda>", none, false⟩ b32 (defBody (top 52)) = true := by decide +kernel
/-! 33 _law_same -/
def n33 : List Str := [(Str.ofString "told"), (Str.ofString "due"), (Str.ofString "kinds"), (Str.ofString "one"), (Str.ofString "two")]
def ps33 : List Str := [(Str.ofString "told"), (Str.ofString "due")]
theorem S33 : FnScope n33 ps33 (defScope (top 53)) := ⟨rfl, rfl, rfl, by decide +kernel, rfl, by decide +kernel, by decide +kernel⟩
def g33 : List (Str × Gk) := [((Str.ofString "isinstance"), .blt), ((Str.ofString "tuple"), .blt), ((Str.ofString "list"), .blt), ((Str.ofString "len"), .blt), ((Str.ofString "all"), .blt), ((Str.ofString "zip"), .blt), ((Str.ofString "_law_same"), .fn 33 2), ((Str.ofString "bool"), .blt), ((Str.ofString "str"), .blt)]
theorem c33 : cSs ⟨n33, defScope (top 53), g33, kws, true, ((Str.ofString "_law_same") : Str) ++ ".<locals>." ++ "<lambda>", none, false⟩ b33 (defBody (top 53)) = true := by decide +kernel
/-! 34 _law_crosses -/
def n34 : List Str := [(Str.ofString "lines"), (Str.ofString "middles"), (Str.ofString "rooms"), (Str.ofString "total"), (Str.ofString "room"), (Str.ofString "middle")]
def ps34 : List Str := [(Str.ofString "lines"), (Str.ofString "middles"), (Str.ofString "rooms")]
theorem S34 : FnScope n34 ps34 (defScope (top 54)) := ⟨rfl, rfl, rfl, by decide +kernel, rfl, by decide +kernel, by decide +kernel⟩
def g34 : List (Str × Gk) := [((Str.ofString "range"), .blt)]
theorem c34 : cSs ⟨n34, defScope (top 54), g34, kws, true, ((Str.ofString "_law_crosses") : Str) ++ ".<locals>." ++ "<lambda>", none, false⟩ b34 (defBody (top 54)) = true := by decide +kernel
/-! 35 _law_cheapest -/
def n35 : List Str := [(Str.ofString "number"), (Str.ofString "kind"), (Str.ofString "found"), (Str.ofString "lines"), (Str.ofString "rooms"), (Str.ofString "middles")]
def ps35 : List Str := [(Str.ofString "number"), (Str.ofString "kind")]
theorem S35 : FnScope n35 ps35 (defScope (top 55)) := ⟨rfl, rfl, rfl, by decide +kernel, rfl, by decide +kernel, by decide +kernel⟩
def g35 : List (Str × Gk) := [((Str.ofString "range"), .blt), ((Str.ofString "int"), .blt), ((Str.ofString "min"), .blt)]
theorem c35 : cSs ⟨n35, defScope (top 55), g35, kws, true, ((Str.ofString "_law_cheapest") : Str) ++ ".<locals>." ++ "<lambda>", none, false⟩ b35 (defBody (top 55)) = true := by decide +kernel
/-! 36 _law_number_right -/
def n36 : List Str := [(Str.ofString "number"), (Str.ofString "never"), (Str.ofString "led"), (Str.ofString "told"), (Str.ofString "single")]
def ps36 : List Str := [(Str.ofString "number")]
theorem S36 : FnScope n36 ps36 (defScope (top 56)) := ⟨rfl, rfl, rfl, by decide +kernel, rfl, by decide +kernel, by decide +kernel⟩
def g36 : List (Str × Gk) := [((Str.ofString "_law_cheapest"), .fn 35 2), ((Str.ofString "cheapest_never"), .fn 21 1), ((Str.ofString "cheapest_led"), .fn 22 1), ((Str.ofString "_law_same"), .fn 33 2), ((Str.ofString "is_single_cheaper"), .fn 23 1)]
theorem c36 : cSs ⟨n36, defScope (top 56), g36, kws, true, ((Str.ofString "_law_number_right") : Str) ++ ".<locals>." ++ "<lambda>", none, false⟩ b36 (defBody (top 56)) = true := by decide +kernel
/-! 37 _law_shape_right -/
def n37 : List Str := [(Str.ofString "reel"), (Str.ofString "shape"), (Str.ofString "own"), (Str.ofString "lines"), (Str.ofString "least"), (Str.ofString "due"), (Str.ofString "outs"), (Str.ofString "calls"), (Str.ofString "inlet")]
def ps37 : List Str := [(Str.ofString "reel"), (Str.ofString "shape")]
theorem S37 : FnScope n37 ps37 (defScope (top 57)) := ⟨rfl, rfl, rfl, by decide +kernel, rfl, by decide +kernel, by decide +kernel⟩
def g37 : List (Str × Gk) := [((Str.ofString "_law_crosses"), .fn 34 3), ((Str.ofString "_law_same"), .fn 33 2), ((Str.ofString "crosses_of"), .fn 20 1), ((Str.ofString "never_blocks"), .fn 26 1), ((Str.ofString "cheapest_never"), .fn 21 1), ((Str.ofString "fewest_rooms"), .fn 27 1), ((Str.ofString "_law_mixed"), .fn 32 2), ((Str.ofString "list"), .blt), ((Str.ofString "range"), .blt), ((Str.ofString "tuple"), .blt), ((Str.ofString "can_lead"), .fn 28 2), ((Str.ofString "cheapest_led"), .fn 22 1)]
theorem c37 : cSs ⟨n37, defScope (top 57), g37, kws, true, ((Str.ofString "_law_shape_right") : Str) ++ ".<locals>." ++ "<lambda>", none, false⟩ b37 (defBody (top 57)) = true := by decide +kernel
def n38 : List Str := [(Str.ofString "act"), (Str.ofString "kept"), (Str.ofString "e")]
def ps38 : List Str := [(Str.ofString "act"), (Str.ofString "kept")]
theorem S38 : FnScope n38 ps38 (defScope (top 58)) := ⟨rfl, rfl, rfl, by decide +kernel, rfl, by decide +kernel, by decide +kernel⟩
/-! 39 law -/
def n39 : List Str := [(Str.ofString "script"), (Str.ofString "lap"), (Str.ofString "reel"), (Str.ofString "number"), (Str.ofString "shape"), (Str.ofString "bad"), (Str.ofString "told")]
def ps39 : List Str := [(Str.ofString "script")]
theorem S39 : FnScope n39 ps39 (defScope (top 59)) := ⟨rfl, rfl, rfl, by decide +kernel, rfl, by decide +kernel, by decide +kernel⟩
def g39 : List (Str × Gk) := [((Str.ofString "_law_reel"), .fn 29 2), ((Str.ofString "_law_turn"), .fn 30 2), ((Str.ofString "_law_number_right"), .fn 36 1), ((Str.ofString "_law_shape_right"), .fn 37 2), ((Str.ofString "_law_one_of"), .fn 31 2), ((Str.ofString "_law_refused"), .tryf2 38 hs38 af38), ((Str.ofString "cheapest_never"), .fn 21 1), ((Str.ofString "cheapest_led"), .fn 22 1), ((Str.ofString "is_single_cheaper"), .fn 23 1), ((Str.ofString "crosses_of"), .fn 20 1)]
theorem c39 : cSs ⟨n39, defScope (top 59), g39, kws, true, ((Str.ofString "law") : Str) ++ ".<locals>." ++ "<lambda>", (some 0), false⟩ b39 (defBody (top 59)) = true := by decide +kernel
theorem cH33 : cSs ⟨n33, defScope (top 53), g33, [], true, ((Str.ofString "_law_same") : Str) ++ ".<locals>." ++ "<lambda>", none, true⟩ b33 (defBody (top 53)) = true := by decide +kernel
def hot (k : Nat) : Bool := ([33] : List Nat).contains k
def clsBody (st : Stmt) (n : Nat) : Stmt := match st with
  | .ClassDef _ _ _ b _ _ _ _ _ _ _ => b.getD n (.Pass ⟨0, 0, 0, 0⟩)
  | _ => .Pass ⟨0, 0, 0, 0⟩
def nI500001 : List Str := [(Str.ofString "self"), (Str.ofString "given")]
def psI500001 : List Str := [(Str.ofString "self"), (Str.ofString "given")]
theorem SI500001 : FnScope nI500001 psI500001 (defScope (clsBody (top 19) 0)) := ⟨rfl, rfl, rfl, by decide +kernel, rfl, by decide +kernel, by decide +kernel⟩
def nI500002 : List Str := [(Str.ofString "self"), (Str.ofString "given")]
def psI500002 : List Str := [(Str.ofString "self"), (Str.ofString "given")]
theorem SI500002 : FnScope nI500002 psI500002 (defScope (clsBody (top 20) 0)) := ⟨rfl, rfl, rfl, by decide +kernel, rfl, by decide +kernel, by decide +kernel⟩
def nI500003 : List Str := [(Str.ofString "self"), (Str.ofString "index")]
def psI500003 : List Str := [(Str.ofString "self"), (Str.ofString "index")]
theorem SI500003 : FnScope nI500003 psI500003 (defScope (clsBody (top 21) 0)) := ⟨rfl, rfl, rfl, by decide +kernel, rfl, by decide +kernel, by decide +kernel⟩
end Lk85
end
section
set_option maxRecDepth 100000
set_option maxHeartbeats 0
namespace Lk85
open PySem PySem.Spec PyProof.Rows L2 Ev
def dd (x : Str) (i : Nat) : He.DefD := ⟨(x, none), x, x, defArgs (top i), defBody (top i), defScope (top i), [], []⟩
def di (C : Str) (i n : Nat) : He.DefD := ⟨(C, some "__init__"), "__init__", C ++ ".__init__", defArgs (clsBody (top i) n), defBody (clsBody (top i) n), defScope (clsBody (top i) n), [], []⟩
def fn : List He.DefD := [dd (Str.ofString "is_whole") 1, dd (Str.ofString "is_between") 2, dd (Str.ofString "shape_ok") 7, dd (Str.ofString "line_count_by") 8, dd (Str.ofString "room_by") 9, dd (Str.ofString "call_ok") 11, dd (Str.ofString "first_wrong_call") 12, dd (Str.ofString "room_calls") 14, dd (Str.ofString "overfull_by") 15, dd (Str.ofString "can_lead_by") 16, dd (Str.ofString "check_number") 23, dd (Str.ofString "check_shape") 24, dd (Str.ofString "check_calls") 25, dd (Str.ofString "crosses_by") 27, dd (Str.ofString "never_rooms") 28, dd (Str.ofString "led_rooms") 29, dd (Str.ofString "partings_of") 30, dd (Str.ofString "cheapest_by") 31, dd (Str.ofString "single_by") 32, dd (Str.ofString "check_many_lines") 35, dd (Str.ofString "crosses_of") 36, dd (Str.ofString "cheapest_never") 37, dd (Str.ofString "cheapest_led") 38, dd (Str.ofString "is_single_cheaper") 39, dd (Str.ofString "fewest_by") 41, dd (Str.ofString "never_by") 42, dd (Str.ofString "never_blocks") 44, dd (Str.ofString "fewest_rooms") 45, dd (Str.ofString "can_lead") 47, dd (Str.ofString "_law_reel") 49, dd (Str.ofString "_law_turn") 50, dd (Str.ofString "_law_one_of") 51, dd (Str.ofString "_law_mixed") 52, dd (Str.ofString "_law_same") 53, dd (Str.ofString "_law_crosses") 54, dd (Str.ofString "_law_cheapest") 55, dd (Str.ofString "_law_number_right") 56, dd (Str.ofString "_law_shape_right") 57, dd (Str.ofString "_law_refused") 58, dd (Str.ofString "law") 59, di (Str.ofString "InvalidShape") 19 0, di (Str.ofString "InvalidNumber") 20 0, di (Str.ofString "InvalidCalls") 21 0]
def dat : Dat := ⟨[(Str.ofString "is_whole"), (Str.ofString "is_between"), (Str.ofString "shape_ok"), (Str.ofString "line_count_by"), (Str.ofString "room_by"), (Str.ofString "call_ok"), (Str.ofString "first_wrong_call"), (Str.ofString "room_calls"), (Str.ofString "overfull_by"), (Str.ofString "can_lead_by"), (Str.ofString "check_number"), (Str.ofString "check_shape"), (Str.ofString "check_calls"), (Str.ofString "crosses_by"), (Str.ofString "never_rooms"), (Str.ofString "led_rooms"), (Str.ofString "partings_of"), (Str.ofString "cheapest_by"), (Str.ofString "single_by"), (Str.ofString "check_many_lines"), (Str.ofString "crosses_of"), (Str.ofString "cheapest_never"), (Str.ofString "cheapest_led"), (Str.ofString "is_single_cheaper"), (Str.ofString "fewest_by"), (Str.ofString "never_by"), (Str.ofString "never_blocks"), (Str.ofString "fewest_rooms"), (Str.ofString "can_lead"), (Str.ofString "_law_reel"), (Str.ofString "_law_turn"), (Str.ofString "_law_one_of"), (Str.ofString "_law_mixed"), (Str.ofString "_law_same"), (Str.ofString "_law_crosses"), (Str.ofString "_law_cheapest"), (Str.ofString "_law_number_right"), (Str.ofString "_law_shape_right"), (Str.ofString "_law_refused"), (Str.ofString "law")], [((Str.ofString "TrunkError"), (Str.ofString "")), ((Str.ofString "InvalidShape"), (Str.ofString "given")), ((Str.ofString "InvalidNumber"), (Str.ofString "given")), ((Str.ofString "InvalidCalls"), (Str.ofString "index"))], [(Str.ofString "law")]⟩
def clss : List Nat := [500001, 500002, 500003]
def gls : List (List (Str × Gk)) := [g0, g1, g2, g3, g4, g5, g6, g7, g8, g9, g10, g11, g12, g13, g14, g15, g16, g17, g18, g19, g20, g21, g22, g23, g24, g25, g26, g27, g28, g29, g30, g31, g32, g33, g34, g35, g36, g37, g39]
def glh : List (List (Str × Gk)) := [g33]
def tf : List He.Defn := [((Str.ofString "law"), none)]
def tc38 : List Nat := [500002, 500001]
def tg38 : List (Str × Nat) := [((Str.ofString "InvalidNumber"), 500002), ((Str.ofString "InvalidShape"), 500001), ((Str.ofString "_law_same"), 33)]
def clsB (K : W.Frag) (c : Nat) : Bool := decide (W.findIn K (.ref (dat.ga K c)) (Str.ofString "__init__") = some (some (.ref (He.ma K (dat.ga K c) "__init__")))) && (decide (W.typeIn K (.ref (He.ma K (dat.ga K c) "__init__")) = some (.type "function")) && (oexB K (dat.ga K c) && decide (W.findIn K (.ref (dat.ga K c)) (dat.fld c) = some none)))
def tryB (K : W.Frag) (cl : List Nat) : Bool := cl.all fun c => xfB K (dat.ga K c) && (He.eqO (W.findIn K (.ref (dat.ga K c)) (dat.fld c)) (some none) && cl.all fun e => decide (W.exmOne K (.ref (dat.ga K c)) (.ref (dat.ga K e)) = some (c == e)))
def tryG (K : W.Frag) (gl : List (Str × Nat)) : Bool := gl.all fun p => He.eqO (W.nsIn K mainGlobals p.1) (some (some (.ref (dat.ga K p.2))))
def exL (K : W.Frag) : Bool := (gls.all fun gl => gl.all fun p => ggB dat P hot clss K p.1 p.2) && (clss.all fun c => clsB K c) && (glh.all fun gl => gl.all fun p => ggHB dat P hot K p.1 p.2) && tryB K tc38 && tryG K tg38 && He.eqO (W.nsIn K mainGlobals "law") (some (some (.ref (dat.ga K 39)))) && decide (((List.range 1).map fun j => dat.ga K (tabBase + j)).Nodup)
abbrev Rw : PySem.W.OpenRow := PySem.W.OpenLaw.row PySem.Challenge.rw_trunkrooms_k85_whole_crosses_of_exchange
abbrev hk : PySem.W.Hook := He.hookX 4 [] fn [] tf exL
def ob (s : PySem.W.SharedT) : He.AlX := He.obsX 4 [] fn [] tf exL (HandSHeadRun.getT s)
theorem ob_eq (s : PySem.W.SharedT) : ob s = hk.obs s.abs := He.obsX_eq (HandSHeadRun.getT_eq s)
def names0 : List Str := [(Str.ofString "is_whole"), (Str.ofString "is_between"), (Str.ofString "MOST_LINES_shapework"), (Str.ofString "MOST_MIDDLES"), (Str.ofString "MOST_ROOMS"), (Str.ofString "shape_ok"), (Str.ofString "line_count_by"), (Str.ofString "room_by"), (Str.ofString "call_ok"), (Str.ofString "first_wrong_call"), (Str.ofString "room_calls"), (Str.ofString "overfull_by"), (Str.ofString "can_lead_by"), (Str.ofString "TrunkError"), (Str.ofString "InvalidShape"), (Str.ofString "InvalidNumber"), (Str.ofString "InvalidCalls"), (Str.ofString "check_number"), (Str.ofString "check_shape"), (Str.ofString "check_calls"), (Str.ofString "crosses_by"), (Str.ofString "never_rooms"), (Str.ofString "led_rooms"), (Str.ofString "partings_of"), (Str.ofString "cheapest_by"), (Str.ofString "single_by"), (Str.ofString "MOST_LINES_crosses"), (Str.ofString "check_many_lines"), (Str.ofString "crosses_of"), (Str.ofString "cheapest_never"), (Str.ofString "cheapest_led"), (Str.ofString "is_single_cheaper"), (Str.ofString "fewest_by"), (Str.ofString "never_by"), (Str.ofString "never_blocks")]
def names1 : List Str := [(Str.ofString "fewest_rooms"), (Str.ofString "can_lead"), (Str.ofString "_law_reel"), (Str.ofString "_law_turn"), (Str.ofString "_law_one_of"), (Str.ofString "_law_mixed"), (Str.ofString "_law_same"), (Str.ofString "_law_crosses"), (Str.ofString "_law_cheapest"), (Str.ofString "_law_number_right"), (Str.ofString "_law_shape_right"), (Str.ofString "_law_refused")]
def names : List Str := names0 ++ names1
def vw : List Nat := [59]
theorem run (w : World) : HandSHeadRun.RunEqI Rw (PySem.W.view Rw.prog [59]) hk ob 60000 names w := by
  unfold HandSHeadRun.RunEqI
  kernel_rfl
end Lk85
end
section
set_option maxRecDepth 100000
set_option maxHeartbeats 0
namespace Lk85
open PySem PySem.Spec PyProof.Rows L2 Ev
/-- what is known, whatever runs -/
structure Hyp (Pr : Program) (w : World) (K : W.Frag) (mg : Str → Option Value) (base : Heap) : Prop where
  X : K.In base
  G : base.Ns mainGlobals mg
  c : He.SaysD [] fn K
  ex : exL K = true
  T : ∀ p ∈ tf, LamX.TabB base mg (He.cT K p).1 (He.cT K p).2
section
variable {Pr : Program} {w : World} {K : W.Frag} {mg : Str → Option Value} {base : Heap} (h : Hyp Pr w K mg base)
include h
theorem exs : (gls.all fun gl => gl.all fun p => ggB dat P hot clss K p.1 p.2) = true ∧ (clss.all fun c => clsB K c) = true ∧ (glh.all fun gl => gl.all fun p => ggHB dat P hot K p.1 p.2) = true ∧ tryB K tc38 = true ∧ tryG K tg38 = true ∧ He.eqO (W.nsIn K mainGlobals "law") (some (some (.ref (dat.ga K 39)))) = true ∧ ((List.range 1).map fun j => dat.ga K (tabBase + j)).Nodup := by
  have e := h.ex
  simp only [exL, Bool.and_eq_true, decide_eq_true_eq, and_assoc] at e
  exact e
theorem gB {gl : List (Str × Gk)} (i : Nat) (e : gls[i]? = some gl) : (gl.all fun p => ggB dat P hot clss K p.1 p.2) = true := List.all_eq_true.mp (exs h).1 gl (List.mem_of_getElem? e)
theorem cB (c : Nat) (m : c ∈ clss) : W.findIn K (.ref (dat.ga K c)) (Str.ofString "__init__") = some (some (.ref (He.ma K (dat.ga K c) "__init__"))) ∧ W.typeIn K (.ref (He.ma K (dat.ga K c) "__init__")) = some (.type "function") ∧ OexC K (dat.ga K c) ∧ W.findIn K (.ref (dat.ga K c)) (dat.fld c) = some none := by
  have e := List.all_eq_true.mp (exs h).2.1 c m
  simp only [clsB, Bool.and_eq_true, decide_eq_true_eq] at e
  exact ⟨e.1, e.2.1, oexB_ok e.2.2.1, e.2.2.2⟩
theorem K500001 : ClsF dat Pr w K mg base 500001 := by
  obtain ⟨fd, F⟩ := h.c.def_ 40 (d := di (Str.ofString "InvalidShape") 19 0) rfl
  have F : FunD K "__init__" (((Str.ofString "InvalidShape") : Str) ++ ".__init__") (defArgs (clsBody (top 19) 0)) (defBody (clsBody (top 19) 0)) (defScope (clsBody (top 19) 0)) [] [] (He.ma K (dat.ga K 500001) "__init__") fd := F
  obtain ⟨e1, e2, T, e3⟩ := cB h 500001 (by decide)
  exact ⟨_, fd, psI500001, e1, e2, ok_init (fun_of F) SI500001 rfl T e3 (by decide +kernel) (by decide +kernel) (by decide +kernel) (by decide +kernel) (by decide +kernel) (by decide +kernel), (F.bindsN fun _ _ _ _ _ _ us hl => match us, hl with | [_, _], _ => rfl)⟩
theorem K500002 : ClsF dat Pr w K mg base 500002 := by
  obtain ⟨fd, F⟩ := h.c.def_ 41 (d := di (Str.ofString "InvalidNumber") 20 0) rfl
  have F : FunD K "__init__" (((Str.ofString "InvalidNumber") : Str) ++ ".__init__") (defArgs (clsBody (top 20) 0)) (defBody (clsBody (top 20) 0)) (defScope (clsBody (top 20) 0)) [] [] (He.ma K (dat.ga K 500002) "__init__") fd := F
  obtain ⟨e1, e2, T, e3⟩ := cB h 500002 (by decide)
  exact ⟨_, fd, psI500002, e1, e2, ok_init (fun_of F) SI500002 rfl T e3 (by decide +kernel) (by decide +kernel) (by decide +kernel) (by decide +kernel) (by decide +kernel) (by decide +kernel), (F.bindsN fun _ _ _ _ _ _ us hl => match us, hl with | [_, _], _ => rfl)⟩
theorem K500003 : ClsF dat Pr w K mg base 500003 := by
  obtain ⟨fd, F⟩ := h.c.def_ 42 (d := di (Str.ofString "InvalidCalls") 21 0) rfl
  have F : FunD K "__init__" (((Str.ofString "InvalidCalls") : Str) ++ ".__init__") (defArgs (clsBody (top 21) 0)) (defBody (clsBody (top 21) 0)) (defScope (clsBody (top 21) 0)) [] [] (He.ma K (dat.ga K 500003) "__init__") fd := F
  obtain ⟨e1, e2, T, e3⟩ := cB h 500003 (by decide)
  exact ⟨_, fd, psI500003, e1, e2, ok_init (fun_of F) SI500003 rfl T e3 (by decide +kernel) (by decide +kernel) (by decide +kernel) (by decide +kernel) (by decide +kernel) (by decide +kernel), (F.bindsN fun _ _ _ _ _ _ us hl => match us, hl with | [_, _], _ => rfl)⟩
theorem KC : ∀ c ∈ clss, ClsF dat Pr w K mg base c := by
  intro c m
  simp only [clss, List.mem_cons, List.not_mem_nil, or_false] at m
  rcases m with rfl | rfl | rfl
  · exact K500001 h
  · exact K500002 h
  · exact K500003 h
theorem T38 : Try2 (dat.ga K) dat.fld K mg (Str.ofString "_law_refused") 38 hs38 af38 := by
  obtain ⟨fd, F⟩ := h.c.def_ 38 (d := dd (Str.ofString "_law_refused") 58) rfl
  exact try2_of (a := (Str.ofString "act")) (b := (Str.ofString "kept")) (n := (Str.ofString "e")) (Ng := n38) (i := 2) (gl := tg38) (cl := tc38) h.X h.G F ((F.bindsN fun _ _ _ _ _ _ us hl => match us, hl with | [_, _], _ => rfl)) S38 rfl rfl (.inl (by decide +kernel)) (.inl (by decide +kernel)) (by decide +kernel) (by decide +kernel) (exs h).2.2.2.1 (exs h).2.2.2.2.1 rfl (by decide) (by decide +kernel) (by decide +kernel) (by decide +kernel) (by decide +kernel)
theorem D0 {fd : FuncData} (F : FunD K (Str.ofString "is_whole") (Str.ofString "is_whole") (defArgs (top 1)) (defBody (top 1)) (defScope (top 1)) [] [] (dat.ga K 0) fd) : DefOk Pr w K mg base (dat.ga K) dat.fld P hot 0 ⟨1, 1, b0⟩ (Str.ofString "is_whole") (Str.ofString "is_whole") (top 1) fd n0 ps0 g0 kws none := by
  refine ⟨fun_of F, S0, c0, rfl, rfl, (F.bindsN fun _ _ _ _ _ _ us hl => match us, hl with | [_], _ => rfl), (fun q hq hk => absurd hk ((by decide : ∀ q ∈ kws, q.k ≠ 0) q hq)), (fun t ht => by cases ht), gg_of h.X h.G (gB h 0 rfl) (KC h) (fun p m => by cases m)⟩
theorem D1 {fd : FuncData} (F : FunD K (Str.ofString "is_between") (Str.ofString "is_between") (defArgs (top 2)) (defBody (top 2)) (defScope (top 2)) [] [] (dat.ga K 1) fd) : DefOk Pr w K mg base (dat.ga K) dat.fld P hot 1 ⟨3, 3, b1⟩ (Str.ofString "is_between") (Str.ofString "is_between") (top 2) fd n1 ps1 g1 kws none := by
  refine ⟨fun_of F, S1, c1, rfl, rfl, (F.bindsN fun _ _ _ _ _ _ us hl => match us, hl with | [_, _, _], _ => rfl), (fun q hq hk => absurd hk ((by decide : ∀ q ∈ kws, q.k ≠ 1) q hq)), (fun t ht => by cases ht), gg_of h.X h.G (gB h 1 rfl) (KC h) (fun p m => by cases m)⟩
theorem D2 {fd : FuncData} (F : FunD K (Str.ofString "shape_ok") (Str.ofString "shape_ok") (defArgs (top 7)) (defBody (top 7)) (defScope (top 7)) [] [] (dat.ga K 2) fd) : DefOk Pr w K mg base (dat.ga K) dat.fld P hot 2 ⟨1, 4, b2⟩ (Str.ofString "shape_ok") (Str.ofString "shape_ok") (top 7) fd n2 ps2 g2 kws none := by
  refine ⟨fun_of F, S2, c2, rfl, rfl, (F.bindsN fun _ _ _ _ _ _ us hl => match us, hl with | [_], _ => rfl), (fun q hq hk => absurd hk ((by decide : ∀ q ∈ kws, q.k ≠ 2) q hq)), (fun t ht => by cases ht), gg_of h.X h.G (gB h 2 rfl) (KC h) (fun p m => by cases m)⟩
theorem D3 {fd : FuncData} (F : FunD K (Str.ofString "line_count_by") (Str.ofString "line_count_by") (defArgs (top 8)) (defBody (top 8)) (defScope (top 8)) [] [] (dat.ga K 3) fd) : DefOk Pr w K mg base (dat.ga K) dat.fld P hot 3 ⟨1, 1, b3⟩ (Str.ofString "line_count_by") (Str.ofString "line_count_by") (top 8) fd n3 ps3 g3 kws none := by
  refine ⟨fun_of F, S3, c3, rfl, rfl, (F.bindsN fun _ _ _ _ _ _ us hl => match us, hl with | [_], _ => rfl), (fun q hq hk => absurd hk ((by decide : ∀ q ∈ kws, q.k ≠ 3) q hq)), (fun t ht => by cases ht), gg_of h.X h.G (gB h 3 rfl) (KC h) (fun p m => by cases m)⟩
theorem D4 {fd : FuncData} (F : FunD K (Str.ofString "room_by") (Str.ofString "room_by") (defArgs (top 9)) (defBody (top 9)) (defScope (top 9)) [] [] (dat.ga K 4) fd) : DefOk Pr w K mg base (dat.ga K) dat.fld P hot 4 ⟨2, 2, b4⟩ (Str.ofString "room_by") (Str.ofString "room_by") (top 9) fd n4 ps4 g4 kws none := by
  refine ⟨fun_of F, S4, c4, rfl, rfl, (F.bindsN fun _ _ _ _ _ _ us hl => match us, hl with | [_, _], _ => rfl), (fun q hq hk => absurd hk ((by decide : ∀ q ∈ kws, q.k ≠ 4) q hq)), (fun t ht => by cases ht), gg_of h.X h.G (gB h 4 rfl) (KC h) (fun p m => by cases m)⟩
theorem D5 {fd : FuncData} (F : FunD K (Str.ofString "call_ok") (Str.ofString "call_ok") (defArgs (top 11)) (defBody (top 11)) (defScope (top 11)) [] [] (dat.ga K 5) fd) : DefOk Pr w K mg base (dat.ga K) dat.fld P hot 5 ⟨2, 3, b5⟩ (Str.ofString "call_ok") (Str.ofString "call_ok") (top 11) fd n5 ps5 g5 kws none := by
  refine ⟨fun_of F, S5, c5, rfl, rfl, (F.bindsN fun _ _ _ _ _ _ us hl => match us, hl with | [_, _], _ => rfl), (fun q hq hk => absurd hk ((by decide : ∀ q ∈ kws, q.k ≠ 5) q hq)), (fun t ht => by cases ht), gg_of h.X h.G (gB h 5 rfl) (KC h) (fun p m => by cases m)⟩
theorem D6 {fd : FuncData} (F : FunD K (Str.ofString "first_wrong_call") (Str.ofString "first_wrong_call") (defArgs (top 12)) (defBody (top 12)) (defScope (top 12)) [] [] (dat.ga K 6) fd) : DefOk Pr w K mg base (dat.ga K) dat.fld P hot 6 ⟨2, 5, b6⟩ (Str.ofString "first_wrong_call") (Str.ofString "first_wrong_call") (top 12) fd n6 ps6 g6 kws none := by
  refine ⟨fun_of F, S6, c6, rfl, rfl, (F.bindsN fun _ _ _ _ _ _ us hl => match us, hl with | [_, _], _ => rfl), (fun q hq hk => absurd hk ((by decide : ∀ q ∈ kws, q.k ≠ 6) q hq)), (fun t ht => by cases ht), gg_of h.X h.G (gB h 6 rfl) (KC h) (fun p m => by cases m)⟩
theorem D7 {fd : FuncData} (F : FunD K (Str.ofString "room_calls") (Str.ofString "room_calls") (defArgs (top 14)) (defBody (top 14)) (defScope (top 14)) [] [] (dat.ga K 7) fd) : DefOk Pr w K mg base (dat.ga K) dat.fld P hot 7 ⟨2, 7, b7⟩ (Str.ofString "room_calls") (Str.ofString "room_calls") (top 14) fd n7 ps7 g7 kws none := by
  refine ⟨fun_of F, S7, c7, rfl, rfl, (F.bindsN fun _ _ _ _ _ _ us hl => match us, hl with | [_, _], _ => rfl), (fun q hq hk => absurd hk ((by decide : ∀ q ∈ kws, q.k ≠ 7) q hq)), (fun t ht => by cases ht), gg_of h.X h.G (gB h 7 rfl) (KC h) (fun p m => by cases m)⟩
theorem D8 {fd : FuncData} (F : FunD K (Str.ofString "overfull_by") (Str.ofString "overfull_by") (defArgs (top 15)) (defBody (top 15)) (defScope (top 15)) [] [] (dat.ga K 8) fd) : DefOk Pr w K mg base (dat.ga K) dat.fld P hot 8 ⟨2, 7, b8⟩ (Str.ofString "overfull_by") (Str.ofString "overfull_by") (top 15) fd n8 ps8 g8 kws none := by
  refine ⟨fun_of F, S8, c8, rfl, rfl, (F.bindsN fun _ _ _ _ _ _ us hl => match us, hl with | [_, _], _ => rfl), (fun q hq hk => absurd hk ((by decide : ∀ q ∈ kws, q.k ≠ 8) q hq)), (fun t ht => by cases ht), gg_of h.X h.G (gB h 8 rfl) (KC h) (fun p m => by cases m)⟩
theorem D9 {fd : FuncData} (F : FunD K (Str.ofString "can_lead_by") (Str.ofString "can_lead_by") (defArgs (top 16)) (defBody (top 16)) (defScope (top 16)) [] [] (dat.ga K 9) fd) : DefOk Pr w K mg base (dat.ga K) dat.fld P hot 9 ⟨2, 2, b9⟩ (Str.ofString "can_lead_by") (Str.ofString "can_lead_by") (top 16) fd n9 ps9 g9 kws none := by
  refine ⟨fun_of F, S9, c9, rfl, rfl, (F.bindsN fun _ _ _ _ _ _ us hl => match us, hl with | [_, _], _ => rfl), (fun q hq hk => absurd hk ((by decide : ∀ q ∈ kws, q.k ≠ 9) q hq)), (fun t ht => by cases ht), gg_of h.X h.G (gB h 9 rfl) (KC h) (fun p m => by cases m)⟩
theorem D10 {fd : FuncData} (F : FunD K (Str.ofString "check_number") (Str.ofString "check_number") (defArgs (top 23)) (defBody (top 23)) (defScope (top 23)) [] [] (dat.ga K 10) fd) : DefOk Pr w K mg base (dat.ga K) dat.fld P hot 10 ⟨3, 3, b10⟩ (Str.ofString "check_number") (Str.ofString "check_number") (top 23) fd n10 ps10 g10 kws none := by
  refine ⟨fun_of F, S10, c10, rfl, rfl, (F.bindsN fun _ _ _ _ _ _ us hl => match us, hl with | [_, _, _], _ => rfl), (fun q hq hk => absurd hk ((by decide : ∀ q ∈ kws, q.k ≠ 10) q hq)), (fun t ht => by cases ht), gg_of h.X h.G (gB h 10 rfl) (KC h) (fun p m => by cases m)⟩
theorem D11 {fd : FuncData} (F : FunD K (Str.ofString "check_shape") (Str.ofString "check_shape") (defArgs (top 24)) (defBody (top 24)) (defScope (top 24)) [] [] (dat.ga K 11) fd) : DefOk Pr w K mg base (dat.ga K) dat.fld P hot 11 ⟨1, 1, b11⟩ (Str.ofString "check_shape") (Str.ofString "check_shape") (top 24) fd n11 ps11 g11 kws none := by
  refine ⟨fun_of F, S11, c11, rfl, rfl, (F.bindsN fun _ _ _ _ _ _ us hl => match us, hl with | [_], _ => rfl), (fun q hq hk => absurd hk ((by decide : ∀ q ∈ kws, q.k ≠ 11) q hq)), (fun t ht => by cases ht), gg_of h.X h.G (gB h 11 rfl) (KC h) (fun p m => by cases m)⟩
theorem D12 {fd : FuncData} (F : FunD K (Str.ofString "check_calls") (Str.ofString "check_calls") (defArgs (top 25)) (defBody (top 25)) (defScope (top 25)) [] [] (dat.ga K 12) fd) : DefOk Pr w K mg base (dat.ga K) dat.fld P hot 12 ⟨2, 3, b12⟩ (Str.ofString "check_calls") (Str.ofString "check_calls") (top 25) fd n12 ps12 g12 kws none := by
  refine ⟨fun_of F, S12, c12, rfl, rfl, (F.bindsN fun _ _ _ _ _ _ us hl => match us, hl with | [_, _], _ => rfl), (fun q hq hk => absurd hk ((by decide : ∀ q ∈ kws, q.k ≠ 12) q hq)), (fun t ht => by cases ht), gg_of h.X h.G (gB h 12 rfl) (KC h) (fun p m => by cases m)⟩
theorem D13 {fd : FuncData} (F : FunD K (Str.ofString "crosses_by") (Str.ofString "crosses_by") (defArgs (top 27)) (defBody (top 27)) (defScope (top 27)) [] [] (dat.ga K 13) fd) : DefOk Pr w K mg base (dat.ga K) dat.fld P hot 13 ⟨3, 3, b13⟩ (Str.ofString "crosses_by") (Str.ofString "crosses_by") (top 27) fd n13 ps13 g13 kws none := by
  refine ⟨fun_of F, S13, c13, rfl, rfl, (F.bindsN fun _ _ _ _ _ _ us hl => match us, hl with | [_, _, _], _ => rfl), (fun q hq hk => absurd hk ((by decide : ∀ q ∈ kws, q.k ≠ 13) q hq)), (fun t ht => by cases ht), gg_of h.X h.G (gB h 13 rfl) (KC h) (fun p m => by cases m)⟩
theorem D14 {fd : FuncData} (F : FunD K (Str.ofString "never_rooms") (Str.ofString "never_rooms") (defArgs (top 28)) (defBody (top 28)) (defScope (top 28)) [] [] (dat.ga K 14) fd) : DefOk Pr w K mg base (dat.ga K) dat.fld P hot 14 ⟨2, 2, b14⟩ (Str.ofString "never_rooms") (Str.ofString "never_rooms") (top 28) fd n14 ps14 g14 kws none := by
  refine ⟨fun_of F, S14, c14, rfl, rfl, (F.bindsN fun _ _ _ _ _ _ us hl => match us, hl with | [_, _], _ => rfl), (fun q hq hk => absurd hk ((by decide : ∀ q ∈ kws, q.k ≠ 14) q hq)), (fun t ht => by cases ht), gg_of h.X h.G (gB h 14 rfl) (KC h) (fun p m => by cases m)⟩
theorem D15 {fd : FuncData} (F : FunD K (Str.ofString "led_rooms") (Str.ofString "led_rooms") (defArgs (top 29)) (defBody (top 29)) (defScope (top 29)) [] [] (dat.ga K 15) fd) : DefOk Pr w K mg base (dat.ga K) dat.fld P hot 15 ⟨2, 2, b15⟩ (Str.ofString "led_rooms") (Str.ofString "led_rooms") (top 29) fd n15 ps15 g15 kws none := by
  refine ⟨fun_of F, S15, c15, rfl, rfl, (F.bindsN fun _ _ _ _ _ _ us hl => match us, hl with | [_, _], _ => rfl), (fun q hq hk => absurd hk ((by decide : ∀ q ∈ kws, q.k ≠ 15) q hq)), (fun t ht => by cases ht), gg_of h.X h.G (gB h 15 rfl) (KC h) (fun p m => by cases m)⟩
theorem D16 {fd : FuncData} (F : FunD K (Str.ofString "partings_of") (Str.ofString "partings_of") (defArgs (top 30)) (defBody (top 30)) (defScope (top 30)) [] [] (dat.ga K 16) fd) : DefOk Pr w K mg base (dat.ga K) dat.fld P hot 16 ⟨1, 2, b16⟩ (Str.ofString "partings_of") (Str.ofString "partings_of") (top 30) fd n16 ps16 g16 kws none := by
  refine ⟨fun_of F, S16, c16, rfl, rfl, (F.bindsN fun _ _ _ _ _ _ us hl => match us, hl with | [_], _ => rfl), (fun q hq hk => absurd hk ((by decide : ∀ q ∈ kws, q.k ≠ 16) q hq)), (fun t ht => by cases ht), gg_of h.X h.G (gB h 16 rfl) (KC h) (fun p m => by cases m)⟩
theorem D17 {fd : FuncData} (F : FunD K (Str.ofString "cheapest_by") (Str.ofString "cheapest_by") (defArgs (top 31)) (defBody (top 31)) (defScope (top 31)) [] [] (dat.ga K 17) fd) : DefOk Pr w K mg base (dat.ga K) dat.fld P hot 17 ⟨2, 6, b17⟩ (Str.ofString "cheapest_by") (Str.ofString "cheapest_by") (top 31) fd n17 ps17 g17 kws none := by
  refine ⟨fun_of F, S17, c17, rfl, rfl, (F.bindsN fun _ _ _ _ _ _ us hl => match us, hl with | [_, _], _ => rfl), (fun q hq hk => absurd hk ((by decide : ∀ q ∈ kws, q.k ≠ 17) q hq)), (fun t ht => by cases ht), gg_of h.X h.G (gB h 17 rfl) (KC h) (fun p m => by cases m)⟩
theorem D18 {fd : FuncData} (F : FunD K (Str.ofString "single_by") (Str.ofString "single_by") (defArgs (top 32)) (defBody (top 32)) (defScope (top 32)) [] [] (dat.ga K 18) fd) : DefOk Pr w K mg base (dat.ga K) dat.fld P hot 18 ⟨1, 1, b18⟩ (Str.ofString "single_by") (Str.ofString "single_by") (top 32) fd n18 ps18 g18 kws none := by
  refine ⟨fun_of F, S18, c18, rfl, rfl, (F.bindsN fun _ _ _ _ _ _ us hl => match us, hl with | [_], _ => rfl), (fun q hq hk => absurd hk ((by decide : ∀ q ∈ kws, q.k ≠ 18) q hq)), (fun t ht => by cases ht), gg_of h.X h.G (gB h 18 rfl) (KC h) (fun p m => by cases m)⟩
theorem D19 {fd : FuncData} (F : FunD K (Str.ofString "check_many_lines") (Str.ofString "check_many_lines") (defArgs (top 35)) (defBody (top 35)) (defScope (top 35)) [] [] (dat.ga K 19) fd) : DefOk Pr w K mg base (dat.ga K) dat.fld P hot 19 ⟨1, 1, b19⟩ (Str.ofString "check_many_lines") (Str.ofString "check_many_lines") (top 35) fd n19 ps19 g19 kws none := by
  refine ⟨fun_of F, S19, c19, rfl, rfl, (F.bindsN fun _ _ _ _ _ _ us hl => match us, hl with | [_], _ => rfl), (fun q hq hk => absurd hk ((by decide : ∀ q ∈ kws, q.k ≠ 19) q hq)), (fun t ht => by cases ht), gg_of h.X h.G (gB h 19 rfl) (KC h) (fun p m => by cases m)⟩
theorem D20 {fd : FuncData} (F : FunD K (Str.ofString "crosses_of") (Str.ofString "crosses_of") (defArgs (top 36)) (defBody (top 36)) (defScope (top 36)) [] [] (dat.ga K 20) fd) : DefOk Pr w K mg base (dat.ga K) dat.fld P hot 20 ⟨1, 1, b20⟩ (Str.ofString "crosses_of") (Str.ofString "crosses_of") (top 36) fd n20 ps20 g20 kws none := by
  refine ⟨fun_of F, S20, c20, rfl, rfl, (F.bindsN fun _ _ _ _ _ _ us hl => match us, hl with | [_], _ => rfl), (fun q hq hk => by
      have hq : q ∈ kws.filter (fun q => q.k == 20) := List.mem_filter.mpr ⟨hq, by simp [hk]⟩
      have hq : q ∈ ([⟨20, 0, [(Str.ofString "shape")], [0]⟩] : List Kw) := hq
      simp only [List.mem_cons, List.not_mem_nil, or_false] at hq
      subst hq
      exact kb_of F fun _ _ _ _ _ _ us ws h1 h2 => match us, ws, h1, h2 with | [], [_], _, _ => rfl), (fun t ht => by cases ht), gg_of h.X h.G (gB h 20 rfl) (KC h) (fun p m => by cases m)⟩
theorem D21 {fd : FuncData} (F : FunD K (Str.ofString "cheapest_never") (Str.ofString "cheapest_never") (defArgs (top 37)) (defBody (top 37)) (defScope (top 37)) [] [] (dat.ga K 21) fd) : DefOk Pr w K mg base (dat.ga K) dat.fld P hot 21 ⟨1, 1, b21⟩ (Str.ofString "cheapest_never") (Str.ofString "cheapest_never") (top 37) fd n21 ps21 g21 kws none := by
  refine ⟨fun_of F, S21, c21, rfl, rfl, (F.bindsN fun _ _ _ _ _ _ us hl => match us, hl with | [_], _ => rfl), (fun q hq hk => by
      have hq : q ∈ kws.filter (fun q => q.k == 21) := List.mem_filter.mpr ⟨hq, by simp [hk]⟩
      have hq : q ∈ ([⟨21, 0, [(Str.ofString "number")], [0]⟩] : List Kw) := hq
      simp only [List.mem_cons, List.not_mem_nil, or_false] at hq
      subst hq
      exact kb_of F fun _ _ _ _ _ _ us ws h1 h2 => match us, ws, h1, h2 with | [], [_], _, _ => rfl), (fun t ht => by cases ht), gg_of h.X h.G (gB h 21 rfl) (KC h) (fun p m => by cases m)⟩
theorem D22 {fd : FuncData} (F : FunD K (Str.ofString "cheapest_led") (Str.ofString "cheapest_led") (defArgs (top 38)) (defBody (top 38)) (defScope (top 38)) [] [] (dat.ga K 22) fd) : DefOk Pr w K mg base (dat.ga K) dat.fld P hot 22 ⟨1, 1, b22⟩ (Str.ofString "cheapest_led") (Str.ofString "cheapest_led") (top 38) fd n22 ps22 g22 kws none := by
  refine ⟨fun_of F, S22, c22, rfl, rfl, (F.bindsN fun _ _ _ _ _ _ us hl => match us, hl with | [_], _ => rfl), (fun q hq hk => by
      have hq : q ∈ kws.filter (fun q => q.k == 22) := List.mem_filter.mpr ⟨hq, by simp [hk]⟩
      have hq : q ∈ ([⟨22, 0, [(Str.ofString "number")], [0]⟩] : List Kw) := hq
      simp only [List.mem_cons, List.not_mem_nil, or_false] at hq
      subst hq
      exact kb_of F fun _ _ _ _ _ _ us ws h1 h2 => match us, ws, h1, h2 with | [], [_], _, _ => rfl), (fun t ht => by cases ht), gg_of h.X h.G (gB h 22 rfl) (KC h) (fun p m => by cases m)⟩
theorem D23 {fd : FuncData} (F : FunD K (Str.ofString "is_single_cheaper") (Str.ofString "is_single_cheaper") (defArgs (top 39)) (defBody (top 39)) (defScope (top 39)) [] [] (dat.ga K 23) fd) : DefOk Pr w K mg base (dat.ga K) dat.fld P hot 23 ⟨1, 1, b23⟩ (Str.ofString "is_single_cheaper") (Str.ofString "is_single_cheaper") (top 39) fd n23 ps23 g23 kws none := by
  refine ⟨fun_of F, S23, c23, rfl, rfl, (F.bindsN fun _ _ _ _ _ _ us hl => match us, hl with | [_], _ => rfl), (fun q hq hk => by
      have hq : q ∈ kws.filter (fun q => q.k == 23) := List.mem_filter.mpr ⟨hq, by simp [hk]⟩
      have hq : q ∈ ([⟨23, 0, [(Str.ofString "number")], [0]⟩] : List Kw) := hq
      simp only [List.mem_cons, List.not_mem_nil, or_false] at hq
      subst hq
      exact kb_of F fun _ _ _ _ _ _ us ws h1 h2 => match us, ws, h1, h2 with | [], [_], _, _ => rfl), (fun t ht => by cases ht), gg_of h.X h.G (gB h 23 rfl) (KC h) (fun p m => by cases m)⟩
theorem D24 {fd : FuncData} (F : FunD K (Str.ofString "fewest_by") (Str.ofString "fewest_by") (defArgs (top 41)) (defBody (top 41)) (defScope (top 41)) [] [] (dat.ga K 24) fd) : DefOk Pr w K mg base (dat.ga K) dat.fld P hot 24 ⟨1, 1, b24⟩ (Str.ofString "fewest_by") (Str.ofString "fewest_by") (top 41) fd n24 ps24 g24 kws none := by
  refine ⟨fun_of F, S24, c24, rfl, rfl, (F.bindsN fun _ _ _ _ _ _ us hl => match us, hl with | [_], _ => rfl), (fun q hq hk => absurd hk ((by decide : ∀ q ∈ kws, q.k ≠ 24) q hq)), (fun t ht => by cases ht), gg_of h.X h.G (gB h 24 rfl) (KC h) (fun p m => by cases m)⟩
theorem D25 {fd : FuncData} (F : FunD K (Str.ofString "never_by") (Str.ofString "never_by") (defArgs (top 42)) (defBody (top 42)) (defScope (top 42)) [] [] (dat.ga K 25) fd) : DefOk Pr w K mg base (dat.ga K) dat.fld P hot 25 ⟨1, 1, b25⟩ (Str.ofString "never_by") (Str.ofString "never_by") (top 42) fd n25 ps25 g25 kws none := by
  refine ⟨fun_of F, S25, c25, rfl, rfl, (F.bindsN fun _ _ _ _ _ _ us hl => match us, hl with | [_], _ => rfl), (fun q hq hk => absurd hk ((by decide : ∀ q ∈ kws, q.k ≠ 25) q hq)), (fun t ht => by cases ht), gg_of h.X h.G (gB h 25 rfl) (KC h) (fun p m => by cases m)⟩
theorem D26 {fd : FuncData} (F : FunD K (Str.ofString "never_blocks") (Str.ofString "never_blocks") (defArgs (top 44)) (defBody (top 44)) (defScope (top 44)) [] [] (dat.ga K 26) fd) : DefOk Pr w K mg base (dat.ga K) dat.fld P hot 26 ⟨1, 1, b26⟩ (Str.ofString "never_blocks") (Str.ofString "never_blocks") (top 44) fd n26 ps26 g26 kws none := by
  refine ⟨fun_of F, S26, c26, rfl, rfl, (F.bindsN fun _ _ _ _ _ _ us hl => match us, hl with | [_], _ => rfl), (fun q hq hk => by
      have hq : q ∈ kws.filter (fun q => q.k == 26) := List.mem_filter.mpr ⟨hq, by simp [hk]⟩
      have hq : q ∈ ([⟨26, 0, [(Str.ofString "shape")], [0]⟩] : List Kw) := hq
      simp only [List.mem_cons, List.not_mem_nil, or_false] at hq
      subst hq
      exact kb_of F fun _ _ _ _ _ _ us ws h1 h2 => match us, ws, h1, h2 with | [], [_], _, _ => rfl), (fun t ht => by cases ht), gg_of h.X h.G (gB h 26 rfl) (KC h) (fun p m => by cases m)⟩
theorem D27 {fd : FuncData} (F : FunD K (Str.ofString "fewest_rooms") (Str.ofString "fewest_rooms") (defArgs (top 45)) (defBody (top 45)) (defScope (top 45)) [] [] (dat.ga K 27) fd) : DefOk Pr w K mg base (dat.ga K) dat.fld P hot 27 ⟨1, 1, b27⟩ (Str.ofString "fewest_rooms") (Str.ofString "fewest_rooms") (top 45) fd n27 ps27 g27 kws none := by
  refine ⟨fun_of F, S27, c27, rfl, rfl, (F.bindsN fun _ _ _ _ _ _ us hl => match us, hl with | [_], _ => rfl), (fun q hq hk => by
      have hq : q ∈ kws.filter (fun q => q.k == 27) := List.mem_filter.mpr ⟨hq, by simp [hk]⟩
      have hq : q ∈ ([⟨27, 0, [(Str.ofString "shape")], [0]⟩] : List Kw) := hq
      simp only [List.mem_cons, List.not_mem_nil, or_false] at hq
      subst hq
      exact kb_of F fun _ _ _ _ _ _ us ws h1 h2 => match us, ws, h1, h2 with | [], [_], _, _ => rfl), (fun t ht => by cases ht), gg_of h.X h.G (gB h 27 rfl) (KC h) (fun p m => by cases m)⟩
theorem D28 {fd : FuncData} (F : FunD K (Str.ofString "can_lead") (Str.ofString "can_lead") (defArgs (top 47)) (defBody (top 47)) (defScope (top 47)) [] [] (dat.ga K 28) fd) : DefOk Pr w K mg base (dat.ga K) dat.fld P hot 28 ⟨2, 2, b28⟩ (Str.ofString "can_lead") (Str.ofString "can_lead") (top 47) fd n28 ps28 g28 kws none := by
  refine ⟨fun_of F, S28, c28, rfl, rfl, (F.bindsN fun _ _ _ _ _ _ us hl => match us, hl with | [_, _], _ => rfl), (fun q hq hk => absurd hk ((by decide : ∀ q ∈ kws, q.k ≠ 28) q hq)), (fun t ht => by cases ht), gg_of h.X h.G (gB h 28 rfl) (KC h) (fun p m => by cases m)⟩
theorem D29 {fd : FuncData} (F : FunD K (Str.ofString "_law_reel") (Str.ofString "_law_reel") (defArgs (top 49)) (defBody (top 49)) (defScope (top 49)) [] [] (dat.ga K 29) fd) : DefOk Pr w K mg base (dat.ga K) dat.fld P hot 29 ⟨2, 7, b29⟩ (Str.ofString "_law_reel") (Str.ofString "_law_reel") (top 49) fd n29 ps29 g29 kws none := by
  refine ⟨fun_of F, S29, c29, rfl, rfl, (F.bindsN fun _ _ _ _ _ _ us hl => match us, hl with | [_, _], _ => rfl), (fun q hq hk => absurd hk ((by decide : ∀ q ∈ kws, q.k ≠ 29) q hq)), (fun t ht => by cases ht), gg_of h.X h.G (gB h 29 rfl) (KC h) (fun p m => by cases m)⟩
theorem D30 {fd : FuncData} (F : FunD K (Str.ofString "_law_turn") (Str.ofString "_law_turn") (defArgs (top 50)) (defBody (top 50)) (defScope (top 50)) [] [] (dat.ga K 30) fd) : DefOk Pr w K mg base (dat.ga K) dat.fld P hot 30 ⟨2, 3, b30⟩ (Str.ofString "_law_turn") (Str.ofString "_law_turn") (top 50) fd n30 ps30 g30 kws none := by
  refine ⟨fun_of F, S30, c30, rfl, rfl, (F.bindsN fun _ _ _ _ _ _ us hl => match us, hl with | [_, _], _ => rfl), (fun q hq hk => absurd hk ((by decide : ∀ q ∈ kws, q.k ≠ 30) q hq)), (fun t ht => by cases ht), gg_of h.X h.G (gB h 30 rfl) (KC h) (fun p m => by cases m)⟩
theorem D31 {fd : FuncData} (F : FunD K (Str.ofString "_law_one_of") (Str.ofString "_law_one_of") (defArgs (top 51)) (defBody (top 51)) (defScope (top 51)) [] [] (dat.ga K 31) fd) : DefOk Pr w K mg base (dat.ga K) dat.fld P hot 31 ⟨2, 2, b31⟩ (Str.ofString "_law_one_of") (Str.ofString "_law_one_of") (top 51) fd n31 ps31 g31 kws none := by
  refine ⟨fun_of F, S31, c31, rfl, rfl, (F.bindsN fun _ _ _ _ _ _ us hl => match us, hl with | [_, _], _ => rfl), (fun q hq hk => absurd hk ((by decide : ∀ q ∈ kws, q.k ≠ 31) q hq)), (fun t ht => by cases ht), gg_of h.X h.G (gB h 31 rfl) (KC h) (fun p m => by cases m)⟩
theorem D32 {fd : FuncData} (F : FunD K (Str.ofString "_law_mixed") (Str.ofString "_law_mixed") (defArgs (top 52)) (defBody (top 52)) (defScope (top 52)) [] [] (dat.ga K 32) fd) : DefOk Pr w K mg base (dat.ga K) dat.fld P hot 32 ⟨2, 5, b32⟩ (Str.ofString "_law_mixed") (Str.ofString "_law_mixed") (top 52) fd n32 ps32 g32 kws none := by
  refine ⟨fun_of F, S32, c32, rfl, rfl, (F.bindsN fun _ _ _ _ _ _ us hl => match us, hl with | [_, _], _ => rfl), (fun q hq hk => absurd hk ((by decide : ∀ q ∈ kws, q.k ≠ 32) q hq)), (fun t ht => by cases ht), gg_of h.X h.G (gB h 32 rfl) (KC h) (fun p m => by cases m)⟩
theorem D33 {fd : FuncData} (F : FunD K (Str.ofString "_law_same") (Str.ofString "_law_same") (defArgs (top 53)) (defBody (top 53)) (defScope (top 53)) [] [] (dat.ga K 33) fd) : DefOk Pr w K mg base (dat.ga K) dat.fld P hot 33 ⟨2, 5, b33⟩ (Str.ofString "_law_same") (Str.ofString "_law_same") (top 53) fd n33 ps33 g33 kws none := by
  refine ⟨fun_of F, S33, c33, rfl, rfl, (F.bindsN fun _ _ _ _ _ _ us hl => match us, hl with | [_, _], _ => rfl), (fun q hq hk => absurd hk ((by decide : ∀ q ∈ kws, q.k ≠ 33) q hq)), (fun t ht => by cases ht), gg_of h.X h.G (gB h 33 rfl) (KC h) (fun p m => by cases m)⟩
theorem D34 {fd : FuncData} (F : FunD K (Str.ofString "_law_crosses") (Str.ofString "_law_crosses") (defArgs (top 54)) (defBody (top 54)) (defScope (top 54)) [] [] (dat.ga K 34) fd) : DefOk Pr w K mg base (dat.ga K) dat.fld P hot 34 ⟨3, 6, b34⟩ (Str.ofString "_law_crosses") (Str.ofString "_law_crosses") (top 54) fd n34 ps34 g34 kws none := by
  refine ⟨fun_of F, S34, c34, rfl, rfl, (F.bindsN fun _ _ _ _ _ _ us hl => match us, hl with | [_, _, _], _ => rfl), (fun q hq hk => absurd hk ((by decide : ∀ q ∈ kws, q.k ≠ 34) q hq)), (fun t ht => by cases ht), gg_of h.X h.G (gB h 34 rfl) (KC h) (fun p m => by cases m)⟩
theorem D35 {fd : FuncData} (F : FunD K (Str.ofString "_law_cheapest") (Str.ofString "_law_cheapest") (defArgs (top 55)) (defBody (top 55)) (defScope (top 55)) [] [] (dat.ga K 35) fd) : DefOk Pr w K mg base (dat.ga K) dat.fld P hot 35 ⟨2, 6, b35⟩ (Str.ofString "_law_cheapest") (Str.ofString "_law_cheapest") (top 55) fd n35 ps35 g35 kws none := by
  refine ⟨fun_of F, S35, c35, rfl, rfl, (F.bindsN fun _ _ _ _ _ _ us hl => match us, hl with | [_, _], _ => rfl), (fun q hq hk => absurd hk ((by decide : ∀ q ∈ kws, q.k ≠ 35) q hq)), (fun t ht => by cases ht), gg_of h.X h.G (gB h 35 rfl) (KC h) (fun p m => by cases m)⟩
theorem D36 {fd : FuncData} (F : FunD K (Str.ofString "_law_number_right") (Str.ofString "_law_number_right") (defArgs (top 56)) (defBody (top 56)) (defScope (top 56)) [] [] (dat.ga K 36) fd) : DefOk Pr w K mg base (dat.ga K) dat.fld P hot 36 ⟨1, 5, b36⟩ (Str.ofString "_law_number_right") (Str.ofString "_law_number_right") (top 56) fd n36 ps36 g36 kws none := by
  refine ⟨fun_of F, S36, c36, rfl, rfl, (F.bindsN fun _ _ _ _ _ _ us hl => match us, hl with | [_], _ => rfl), (fun q hq hk => absurd hk ((by decide : ∀ q ∈ kws, q.k ≠ 36) q hq)), (fun t ht => by cases ht), gg_of h.X h.G (gB h 36 rfl) (KC h) (fun p m => by cases m)⟩
theorem D37 {fd : FuncData} (F : FunD K (Str.ofString "_law_shape_right") (Str.ofString "_law_shape_right") (defArgs (top 57)) (defBody (top 57)) (defScope (top 57)) [] [] (dat.ga K 37) fd) : DefOk Pr w K mg base (dat.ga K) dat.fld P hot 37 ⟨2, 9, b37⟩ (Str.ofString "_law_shape_right") (Str.ofString "_law_shape_right") (top 57) fd n37 ps37 g37 kws none := by
  refine ⟨fun_of F, S37, c37, rfl, rfl, (F.bindsN fun _ _ _ _ _ _ us hl => match us, hl with | [_, _], _ => rfl), (fun q hq hk => absurd hk ((by decide : ∀ q ∈ kws, q.k ≠ 37) q hq)), (fun t ht => by cases ht), gg_of h.X h.G (gB h 37 rfl) (KC h) (fun p m => by cases m)⟩
theorem D39 {fd : FuncData} (F : FunD K (Str.ofString "law") (Str.ofString "law") (defArgs (top 59)) (defBody (top 59)) (defScope (top 59)) [] [] (dat.ga K 39) fd) : DefOk Pr w K mg base (dat.ga K) dat.fld P hot 39 ⟨1, 7, b39⟩ (Str.ofString "law") (Str.ofString "law") (top 59) fd n39 ps39 g39 kws (some 0) := by
  refine ⟨fun_of F, S39, c39, rfl, rfl, (F.bindsN fun _ _ _ _ _ _ us hl => match us, hl with | [_], _ => rfl), (fun q hq hk => absurd hk ((by decide : ∀ q ∈ kws, q.k ≠ 39) q hq)), (fun t ht => by
      cases ht
      obtain ⟨oc, od, dV, kV, doc, pm, an, cdv, ct, osl, efd, lk, hcd, _, _⟩ := F.ex
      subst efd
      obtain ⟨c, ec⟩ := He.codeIn_ref hcd
      have e := He.codeOf_eq (p := ((Str.ofString "law"), none)) lk ec
      refine ⟨c, ec, ?_⟩
      have t := h.T ((Str.ofString "law"), none) (by simp [tf])
      rw [show (He.cT K ((Str.ofString "law"), none)).1 = c from e] at t
      exact t), gg_of h.X h.G (gB h 38 rfl) (KC h) (fun p m => by
      have m : p ∈ ([((Str.ofString "_law_refused"), .tryf2 38 hs38 af38)] : List (Str × Gk)) := m
      simp only [List.mem_cons, List.not_mem_nil, or_false] at m
      subst m
      exact T38 h)⟩
theorem DH33 {fd : FuncData} (F : FunD K (Str.ofString "_law_same") (Str.ofString "_law_same") (defArgs (top 53)) (defBody (top 53)) (defScope (top 53)) [] [] (dat.ga K 33) fd) : DefH K mg (dat.ga K) P hot 33 ⟨2, 5, b33⟩ (Str.ofString "_law_same") (Str.ofString "_law_same") (top 53) fd n33 ps33 g33 := by
  refine ⟨fun_of F, S33, cH33, rfl, rfl, (F.bindsN fun _ _ _ _ _ _ us hl => match us, hl with | [_, _], _ => rfl), ggh_of h.X h.G (List.all_eq_true.mp (exs h).2.2.1 _ (List.mem_of_getElem? (show glh[0]? = some g33 from rfl)))⟩
theorem HH : ∀ k f, hot k = true → P k = some f → ∃ x qual st fd N ps gl, DefH K mg (dat.ga K) P hot k f x qual st fd N ps gl := by
  intro k f hk e
  simp only [hot, List.contains_eq_mem, List.mem_cons, List.not_mem_nil, or_false, decide_eq_true_eq] at hk
  subst hk
  · cases e; obtain ⟨fd, F⟩ := h.c.def_ 33 (d := dd (Str.ofString "_law_same") 53) rfl; exact ⟨_, _, _, fd, _, _, _, DH33 h F⟩
theorem DD : ∀ k f, P k = some f → ∃ x qual st fd N ps gl lt, DefOk Pr w K mg base (dat.ga K) dat.fld P hot k f x qual st fd N ps gl kws lt
  | 0, _, e => by cases e; obtain ⟨fd, F⟩ := h.c.def_ 0 (d := dd (Str.ofString "is_whole") 1) rfl; exact ⟨_, _, _, fd, _, _, _, _, D0 h F⟩
  | 1, _, e => by cases e; obtain ⟨fd, F⟩ := h.c.def_ 1 (d := dd (Str.ofString "is_between") 2) rfl; exact ⟨_, _, _, fd, _, _, _, _, D1 h F⟩
  | 2, _, e => by cases e; obtain ⟨fd, F⟩ := h.c.def_ 2 (d := dd (Str.ofString "shape_ok") 7) rfl; exact ⟨_, _, _, fd, _, _, _, _, D2 h F⟩
  | 3, _, e => by cases e; obtain ⟨fd, F⟩ := h.c.def_ 3 (d := dd (Str.ofString "line_count_by") 8) rfl; exact ⟨_, _, _, fd, _, _, _, _, D3 h F⟩
  | 4, _, e => by cases e; obtain ⟨fd, F⟩ := h.c.def_ 4 (d := dd (Str.ofString "room_by") 9) rfl; exact ⟨_, _, _, fd, _, _, _, _, D4 h F⟩
  | 5, _, e => by cases e; obtain ⟨fd, F⟩ := h.c.def_ 5 (d := dd (Str.ofString "call_ok") 11) rfl; exact ⟨_, _, _, fd, _, _, _, _, D5 h F⟩
  | 6, _, e => by cases e; obtain ⟨fd, F⟩ := h.c.def_ 6 (d := dd (Str.ofString "first_wrong_call") 12) rfl; exact ⟨_, _, _, fd, _, _, _, _, D6 h F⟩
  | 7, _, e => by cases e; obtain ⟨fd, F⟩ := h.c.def_ 7 (d := dd (Str.ofString "room_calls") 14) rfl; exact ⟨_, _, _, fd, _, _, _, _, D7 h F⟩
  | 8, _, e => by cases e; obtain ⟨fd, F⟩ := h.c.def_ 8 (d := dd (Str.ofString "overfull_by") 15) rfl; exact ⟨_, _, _, fd, _, _, _, _, D8 h F⟩
  | 9, _, e => by cases e; obtain ⟨fd, F⟩ := h.c.def_ 9 (d := dd (Str.ofString "can_lead_by") 16) rfl; exact ⟨_, _, _, fd, _, _, _, _, D9 h F⟩
  | 10, _, e => by cases e; obtain ⟨fd, F⟩ := h.c.def_ 10 (d := dd (Str.ofString "check_number") 23) rfl; exact ⟨_, _, _, fd, _, _, _, _, D10 h F⟩
  | 11, _, e => by cases e; obtain ⟨fd, F⟩ := h.c.def_ 11 (d := dd (Str.ofString "check_shape") 24) rfl; exact ⟨_, _, _, fd, _, _, _, _, D11 h F⟩
  | 12, _, e => by cases e; obtain ⟨fd, F⟩ := h.c.def_ 12 (d := dd (Str.ofString "check_calls") 25) rfl; exact ⟨_, _, _, fd, _, _, _, _, D12 h F⟩
  | 13, _, e => by cases e; obtain ⟨fd, F⟩ := h.c.def_ 13 (d := dd (Str.ofString "crosses_by") 27) rfl; exact ⟨_, _, _, fd, _, _, _, _, D13 h F⟩
  | 14, _, e => by cases e; obtain ⟨fd, F⟩ := h.c.def_ 14 (d := dd (Str.ofString "never_rooms") 28) rfl; exact ⟨_, _, _, fd, _, _, _, _, D14 h F⟩
  | 15, _, e => by cases e; obtain ⟨fd, F⟩ := h.c.def_ 15 (d := dd (Str.ofString "led_rooms") 29) rfl; exact ⟨_, _, _, fd, _, _, _, _, D15 h F⟩
  | 16, _, e => by cases e; obtain ⟨fd, F⟩ := h.c.def_ 16 (d := dd (Str.ofString "partings_of") 30) rfl; exact ⟨_, _, _, fd, _, _, _, _, D16 h F⟩
  | 17, _, e => by cases e; obtain ⟨fd, F⟩ := h.c.def_ 17 (d := dd (Str.ofString "cheapest_by") 31) rfl; exact ⟨_, _, _, fd, _, _, _, _, D17 h F⟩
  | 18, _, e => by cases e; obtain ⟨fd, F⟩ := h.c.def_ 18 (d := dd (Str.ofString "single_by") 32) rfl; exact ⟨_, _, _, fd, _, _, _, _, D18 h F⟩
  | 19, _, e => by cases e; obtain ⟨fd, F⟩ := h.c.def_ 19 (d := dd (Str.ofString "check_many_lines") 35) rfl; exact ⟨_, _, _, fd, _, _, _, _, D19 h F⟩
  | 20, _, e => by cases e; obtain ⟨fd, F⟩ := h.c.def_ 20 (d := dd (Str.ofString "crosses_of") 36) rfl; exact ⟨_, _, _, fd, _, _, _, _, D20 h F⟩
  | 21, _, e => by cases e; obtain ⟨fd, F⟩ := h.c.def_ 21 (d := dd (Str.ofString "cheapest_never") 37) rfl; exact ⟨_, _, _, fd, _, _, _, _, D21 h F⟩
  | 22, _, e => by cases e; obtain ⟨fd, F⟩ := h.c.def_ 22 (d := dd (Str.ofString "cheapest_led") 38) rfl; exact ⟨_, _, _, fd, _, _, _, _, D22 h F⟩
  | 23, _, e => by cases e; obtain ⟨fd, F⟩ := h.c.def_ 23 (d := dd (Str.ofString "is_single_cheaper") 39) rfl; exact ⟨_, _, _, fd, _, _, _, _, D23 h F⟩
  | 24, _, e => by cases e; obtain ⟨fd, F⟩ := h.c.def_ 24 (d := dd (Str.ofString "fewest_by") 41) rfl; exact ⟨_, _, _, fd, _, _, _, _, D24 h F⟩
  | 25, _, e => by cases e; obtain ⟨fd, F⟩ := h.c.def_ 25 (d := dd (Str.ofString "never_by") 42) rfl; exact ⟨_, _, _, fd, _, _, _, _, D25 h F⟩
  | 26, _, e => by cases e; obtain ⟨fd, F⟩ := h.c.def_ 26 (d := dd (Str.ofString "never_blocks") 44) rfl; exact ⟨_, _, _, fd, _, _, _, _, D26 h F⟩
  | 27, _, e => by cases e; obtain ⟨fd, F⟩ := h.c.def_ 27 (d := dd (Str.ofString "fewest_rooms") 45) rfl; exact ⟨_, _, _, fd, _, _, _, _, D27 h F⟩
  | 28, _, e => by cases e; obtain ⟨fd, F⟩ := h.c.def_ 28 (d := dd (Str.ofString "can_lead") 47) rfl; exact ⟨_, _, _, fd, _, _, _, _, D28 h F⟩
  | 29, _, e => by cases e; obtain ⟨fd, F⟩ := h.c.def_ 29 (d := dd (Str.ofString "_law_reel") 49) rfl; exact ⟨_, _, _, fd, _, _, _, _, D29 h F⟩
  | 30, _, e => by cases e; obtain ⟨fd, F⟩ := h.c.def_ 30 (d := dd (Str.ofString "_law_turn") 50) rfl; exact ⟨_, _, _, fd, _, _, _, _, D30 h F⟩
  | 31, _, e => by cases e; obtain ⟨fd, F⟩ := h.c.def_ 31 (d := dd (Str.ofString "_law_one_of") 51) rfl; exact ⟨_, _, _, fd, _, _, _, _, D31 h F⟩
  | 32, _, e => by cases e; obtain ⟨fd, F⟩ := h.c.def_ 32 (d := dd (Str.ofString "_law_mixed") 52) rfl; exact ⟨_, _, _, fd, _, _, _, _, D32 h F⟩
  | 33, _, e => by cases e; obtain ⟨fd, F⟩ := h.c.def_ 33 (d := dd (Str.ofString "_law_same") 53) rfl; exact ⟨_, _, _, fd, _, _, _, _, D33 h F⟩
  | 34, _, e => by cases e; obtain ⟨fd, F⟩ := h.c.def_ 34 (d := dd (Str.ofString "_law_crosses") 54) rfl; exact ⟨_, _, _, fd, _, _, _, _, D34 h F⟩
  | 35, _, e => by cases e; obtain ⟨fd, F⟩ := h.c.def_ 35 (d := dd (Str.ofString "_law_cheapest") 55) rfl; exact ⟨_, _, _, fd, _, _, _, _, D35 h F⟩
  | 36, _, e => by cases e; obtain ⟨fd, F⟩ := h.c.def_ 36 (d := dd (Str.ofString "_law_number_right") 56) rfl; exact ⟨_, _, _, fd, _, _, _, _, D36 h F⟩
  | 37, _, e => by cases e; obtain ⟨fd, F⟩ := h.c.def_ 37 (d := dd (Str.ofString "_law_shape_right") 57) rfl; exact ⟨_, _, _, fd, _, _, _, _, D37 h F⟩
  | 38, _, e => by cases e
  | 39, _, e => by cases e; obtain ⟨fd, F⟩ := h.c.def_ 39 (d := dd (Str.ofString "law") 59) rfl; exact ⟨_, _, _, fd, _, _, _, _, D39 h F⟩
  | n + 40, _, e => by cases e
end
end Lk85
end
section
set_option maxRecDepth 100000
set_option maxHeartbeats 0
namespace Lk85
open PySem PySem.Spec PyProof.Rows L2 Ev
def lawQ : List Str := [q39]
theorem law_at (w : World) (mg : Str → Option Value) (fa : Addr) (h : Heap) (Y : hk.says w h) (G : h.Ns mainGlobals mg) (hmg0 : mg (HandSHeadRun.topDef Rw.prog 59).name = some (.ref fa)) :
    ∃ K : PySem.W.Frag, K.In h ∧ LamX.LawAtS PySem.Challenge.rw_trunkrooms_k85_whole_crosses_of_exchange w K (L2N.CX (PySem.Challenge.rw_trunkrooms_k85_whole_crosses_of_exchange).prog w) 26 63 "script" mg fa h := by
  obtain ⟨K, KX, c⟩ := Y
  have hmg : mg ("law" : Str) = some (.ref fa) := hmg0
  refine ⟨K, KX, ?_⟩
  have cd := c.t.d
  obtain ⟨fd, F⟩ := cd.def_ 39 (d := dd (Str.ofString "law") 59) rfl
  have ex := c.more
  have ee : He.eqO (W.nsIn K mainGlobals "law") (some (some (.ref (dat.ga K 39)))) = true ∧ ((List.range 1).map fun j => dat.ga K (tabBase + j)).Nodup := by
    simp only [exL, Bool.and_eq_true, decide_eq_true_eq, and_assoc] at ex
    exact ex.2.2.2.2.2
  have e := hmg.symm.trans (W.mg_of KX G (He.eqO_ok ee.1))
  cases e
  have F' : FunD K (Str.ofString "law") (Str.ofString "law") (defArgs (top 59)) (defBody (top 59)) (defScope (top 59)) [] [] (dat.ga K 39) fd := F
  have b := FunD.bindsA (ps := ["script"]) F' fun _ _ _ _ _ _ us hl => match us, hl with | [_], _ => rfl
  refine ⟨fd, tf.map (He.cT K), spOf K (dat.ga K) dat.fld (evCall P 8) 1 39, fun p hp => ?_, fun p hp => ?_, fun p hp => ?_, fun s v => b s [v] rfl, fun H a ns hl _ hH hS => ?_, fun base Xb Gb Tb => ?_⟩
  · obtain ⟨q, hq, rfl⟩ := List.mem_map.mp hp
    exact c.empty q hq
  · obtain ⟨q, hq, rfl⟩ := List.mem_map.mp hp
    exact c.out q hq
  · obtain ⟨q, hq, rfl⟩ := List.mem_map.mp hp
    exact W.codeHd_of_K KX (c.hd q hq)
  · refine start_ok (qs := lawQ) (fun j hj => ?_) ee.2 hS (by have : ns.length ≤ 63 := hl; simp [SZ]; omega) (fun h0 s hq hs => e39 (n := 0) (ns := ns) hs (hq 0 _ rfl))
    have hj' : j < 1 := hj
    have hp : (dat.tn.getD j Str.empty, none) ∈ tf := by
      match j, hj' with
      | 0, _ => simp [dat, tf]
    have := hH _ (List.mem_map_of_mem (f := He.cT K) hp)
    have ga : dat.ga K (tabBase + j) = (He.cT K (dat.tn.getD j Str.empty, none)).2 := by
      unfold Dat.ga
      rw [if_neg (by simp [tabBase, clsBase]; omega), if_neg (by omega), Nat.add_sub_cancel_left]
    rw [ga]
    exact this
  · have hyp : Hyp (PySem.Challenge.rw_trunkrooms_k85_whole_crosses_of_exchange).prog w K mg base := ⟨Xb, Gb, cd, c.more, fun p hp => Tb _ (List.mem_map_of_mem hp)⟩
    exact fuel (DD hyp) (HH hyp) 8 39 _ _ _ _ _ _ _ _ _ rfl (D39 hyp F')
end Lk85
open PySem PySem.W PySem.Calls PyProof.Rows
theorem PySem.Challenge.cw_trunkrooms_k85_whole_crosses_of_exchange_holds : PySem.Challenge.rw_trunkrooms_k85_whole_crosses_of_exchange.Holds := by
  w_on; o_law
  refine HandSHeadRun.head_imp (r := OpenLaw.row PySem.Challenge.rw_trunkrooms_k85_whole_crosses_of_exchange) (q := view (OpenLaw.row PySem.Challenge.rw_trunkrooms_k85_whole_crosses_of_exchange).prog [59]) (H := Lk85.hk) (ob := Lk85.ob) (M := 60000) (loose := Lk85.names) (d := HandSHeadRun.topDef (OpenLaw.row PySem.Challenge.rw_trunkrooms_k85_whole_crosses_of_exchange).prog 59) (kwd := []) Lk85.ob_eq Lk85.run
    (by kernel_rfl) (by kernel_rfl) (by kernel_rfl) (by rfl) (by first | assumption | decide +kernel) (by decide +kernel) ⟨rfl, rfl, rfl, rfl, rfl, by decide +kernel⟩ ?hw ?hc
  case hw => w_witness2
  case hc =>
    exact LamX.walk_ofTsE (l := PySem.Challenge.rw_trunkrooms_k85_whole_crosses_of_exchange) (n := 63) (k := 26) (x := "script") (CX := fun w => L2N.CX (PySem.Challenge.rw_trunkrooms_k85_whole_crosses_of_exchange).prog w) rfl (by decide) (by kernel_rfl) ⟨rfl, by decide, by decide⟩ Lk85.law_at (fun _ _ _ _ _ z => by obtain ⟨_, _, _, _, _, _, _, _, _, _, _, _, z⟩ := z; exact z)
end
