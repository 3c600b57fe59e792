import PyProof.Rows.All
import Wide.All
import OpenK.AllK
import Wide.FinOn
import HandS.Zip
import KE.KItemsList
import HandS.Conv
import HandS.ForMost
import HandS.Exc
import HandS.WordsExc
import HandS.Defaults
import HandS.TupLe
import PyProof.NeKinds
import HandS.TupAny
import HandS.TupMul
import HandS.Style
import HandS.Text
import HandS.Dict
import HandS.Flow
import HandS.List
import HandS.IsInst
import HandS.WordsDict
import HandS.SortInts
import HandS.Iter
import KE.GoesMore
import PyProof.EnumFor
import PyProof.EnumMake
import HandS.Star
import HandS.Small
import HandS.Comp
import HandS.Words
import HandS.TryMany
import HandS.ExcField
import HandS.ExcOwn
import KE.KExcIs
import HandS.DictComp
import HandS.SortRule
import HandS.Spec
import KE.KSortTupAny
import HandS.SetFor
import HandS.Strs
import HandS.SetTxt0
import PyProof.Rows.SortShellAny
import HandS.ExcSuper
import KE.KExcSuper
import KE.KExcInit
import KE.KSuper
import OpenK.KDict
import HandS.More
import KE.KDictPairs
import HandS.Head0
import HandS.Head1
import HandS.Head2
import HandS.HeadEnd
import HandS.HeadHook1
import HandS.HeadHook2
import KE.KStateDown
import PySem.Challenge.RW_fewanswers_k09_answers_by_hand_and_refus
section
set_option Elab.async false
set_option linter.all false
set_option maxRecDepth 100000
set_option maxHeartbeats 1000000
/-! FeZip: zip of two sequences of any kind, step by step. -/
namespace FE
open PySem PySem.Spec PyProof.Rows L2
/-- an iterator at p over what stands at l: of a list, or of a tuple -/
def ItAt (f : Bool) (p l : Addr) (i : Nat) (h : Heap) : Prop := match f with
  | true => h.IsListIter p l i
  | false => h.IsTupleIter p l i
def SqAt (f : Bool) (l : Addr) (us : Array Value) (h : Heap) : Prop := match f with
  | true => h.IsList l us
  | false => h.IsTuple l us
theorem ItAt.by {f : Bool} {p l : Addr} {i : Nat} {h h' : Heap} (m : ItAt f p l i h) (k : ∀ o, h.get? p = some o → h'.get? p = some o) : ItAt f p l i h' := by
  cases f
  · exact Heap.IsTupleIter.at (show h.IsTupleIter p l i from m) k
  · exact Heap.IsListIter.at (show h.IsListIter p l i from m) k
theorem SqAt.by {f : Bool} {l : Addr} {us : Array Value} {h h' : Heap} (m : SqAt f l us h) (k : ∀ o, h.get? l = some o → h'.get? l = some o) : SqAt f l us h' := by
  cases f
  · obtain ⟨o, e, r⟩ := (show h.IsTuple l us from m)
    exact ⟨o, k o e, r⟩
  · obtain ⟨o, e, r⟩ := (show h.IsList l us from m)
    exact ⟨o, k o e, r⟩
theorem ItAt.lt {f : Bool} {p l : Addr} {i : Nat} {h : Heap} (m : ItAt f p l i h) : p < h.objs.size := by
  cases f
  · obtain ⟨_, e, _⟩ := (show h.IsTupleIter p l i from m)
    exact Heap.lt_size e
  · obtain ⟨_, e, _⟩ := (show h.IsListIter p l i from m)
    exact Heap.lt_size e
section
variable {prog : Program} {w : World} {A : Around} {E : Value → Shared → Prop} {s : Shared}
theorem nx_item {f : Bool} {p l : Addr} {i : Nat} {us : Array Value} {x : Value} {Q : Value → Shared → Prop} (mp : ItAt f p l i s.heap) (ml : SqAt f l us s.heap) (ex : us[i]? = some x)
    (k : ∀ h', ItAt f p l (i + 1) h' → Heap.SameBut p s.heap h' → Q x { s with heap := h' }) : wpAny (model prog w) A (Builtin.SmallTypes.nextOf (.ref p)) Q E s := by
  cases f
  · exact RZ.nextOf_tuple_item (show s.heap.IsTupleIter p l i from mp) ml ex k
  · exact wpAny_nextOf_list_item (show s.heap.IsListIter p l i from mp) ml ex k
theorem nx_end {f : Bool} {p l : Addr} {i : Nat} {us : Array Value} {Q : Value → Shared → Prop} (hh : A.handled = none) (mp : ItAt f p l i s.heap) (ml : SqAt f l us s.heap) (ex : us[i]? = none)
    (k : ∀ h' e, Heap.ExtBut p s.heap h' → (∃ o, h'.get? e = some o ∧ o.cls = .type "StopIteration") → E (.ref e) { s with heap := h' }) : wpAny (model prog w) A (Builtin.SmallTypes.nextOf (.ref p)) Q E s := by
  cases f
  · exact RZ.nextOf_tuple_end hh (show s.heap.IsTupleIter p l i from mp) ml ex k
  · exact wpAny_nextOf_list_end hh (show s.heap.IsListIter p l i from mp) ml ex k
/-- a zip that has handed out the tuple told by r -/
abbrev IsZ (h : Heap) (z ti tu : Addr) (r : Value) (b : Bool) : Prop := h.get? z = some { cls := .type "zip", data := .fields #[r, .bool b, .bool false, .ref ti, .ref tu] }
theorem zs_item {f g : Bool} {z ti tu p q l m : Addr} {i j : Nat} {us vs : Array Value} {x y a b : Value} {Q : Value → Shared → Prop} (D : ZipApart z ti tu p q l m)
    (mz : IsZip s.heap z ti tu .none) (mi : IsPair s.heap ti (.ref p) (.ref q)) (mo : IsPair s.heap tu a b) (mp : ItAt f p l i s.heap) (mq : ItAt g q m j s.heap) (ml : SqAt f l us s.heap) (mm : SqAt g m vs s.heap) (ex : us[i]? = some x) (ey : vs[j]? = some y)
    (k : ∀ h', IsZip h' z ti tu (rawInt s.heap.objs.size) → IsPair h' tu x y → ItAt f p l (i + 1) h' → ItAt g q m (j + 1) h' → IsPair h' s.heap.objs.size x y → h'.objs.size = s.heap.objs.size + 1 →
      (∀ c o, c ≠ z → c ≠ tu → c ≠ p → c ≠ q → s.heap.get? c = some o → h'.get? c = some o) → Q (.ref s.heap.objs.size) { s with heap := h' }) :
    wpAny (model prog w) A (Builtin.«zip.__next__» ⟨[.ref z], []⟩) (fun fin s' => ∃ v, fin = .done (.ret v) ∧ Q v s') E s := by
  show wpAny _ _ (field (.ref z) 2 >>= _) _ E s
  refine wpAny_bind (wpAny_field mz rfl (x := .bool false) rfl ?_)
  show wpAny _ _ (field (.ref z) 3 >>= _) _ E s
  refine wpAny_bind (wpAny_field mz rfl (x := .ref ti) rfl ?_)
  refine wpAny_bind (wpAny_seqItems mi rfl ?_)
  show wpAny _ _ (Builtin.SmallTypes.ownedTupleIsFree (.ref z) >>= _) _ E s
  unfold Builtin.SmallTypes.ownedTupleIsFree
  refine wpAny_bind (wpAny_bind (wpAny_field mz rfl (x := .none) rfl (wpAny_pure ?_)))
  simp only [if_true]
  refine wpAny_bind (wpAny_rule (wpAny_bind (wpAny_field mz rfl (x := .ref tu) rfl ?_)))
  refine wpAny_bind (wpAny_setField_rec mz (by simp) fun b1 z1 s1 => ?_)
  have z1 : IsZip b1 z ti tu .ellipsis := z1
  simp only [List.zipIdx_cons, List.zipIdx_nil, List.forIn_cons, List.forIn_nil]
  refine wpAny_bind (wpAny_bind (wpAny_bind (wpAny_onRaise ?_)))
  show wpAny _ _ (Builtin.SmallTypes.nextOf (.ref p) >>= _) _ _ _
  refine wpAny_bind (nx_item (mp.by fun o e => s1.extBut _ o D.i1z e) (ml.by fun o e => s1.extBut _ o D.l1z e) ex fun b2 p2 s2 => wpAny_pure ?_)
  have o2 : IsPair b2 tu a b := s2.extBut _ _ D.TOi1 (s1.extBut _ _ D.TOz mo)
  refine wpAny_bind (wpAny_seqItems o2 rfl (wpAny_bind (wpAny_updateSeq_pair o2 fun b3 o3 s3 => ?_)))
  have o3 : IsPair b3 tu x b := o3
  refine wpAny_bind (wpAny_letGo (wpAny_pure (wpAny_bind (wpAny_bind (wpAny_onRaise ?_)))))
  show wpAny _ _ (Builtin.SmallTypes.nextOf (.ref q) >>= _) _ _ _
  have q3 : ItAt g q m j b3 := mq.by fun o e => s3.extBut _ o D.TOi2.symm (s2.extBut _ o D.i12.symm (s1.extBut _ o D.i2z e))
  have m3 : SqAt g m vs b3 := mm.by fun o e => s3.extBut _ o D.l2TO (s2.extBut _ o D.l2i1 (s1.extBut _ o D.l2z e))
  refine wpAny_bind (nx_item q3 m3 ey fun b4 q4 s4 => wpAny_pure ?_)
  have o4 : IsPair b4 tu x b := s4.extBut _ _ D.TOi2 o3
  refine wpAny_bind (wpAny_seqItems o4 rfl (wpAny_bind (wpAny_updateSeq_pair o4 fun b5 o5 s5 => ?_)))
  have o5 : IsPair b5 tu x y := o5
  refine wpAny_bind (wpAny_letGo (wpAny_pure (wpAny_pure (wpAny_bind (wpAny_seqItems o5 rfl (wpAny_bind (wpAny_newTuple ?_)))))))
  have hsz : b5.objs.size = s.heap.objs.size := by rw [s5.1, s4.1, s3.1, s2.1, s1.1]
  have z5 : IsZip b5 z ti tu .ellipsis := s5.extBut _ _ D.TOz.symm (s4.extBut _ _ D.i2z.symm (s3.extBut _ _ D.TOz.symm (s2.extBut _ _ D.i1z.symm z1)))
  have k5 : ∀ c o, c ≠ z → c ≠ tu → c ≠ p → c ≠ q → s.heap.get? c = some o → b5.get? c = some o := fun c o n1 n2 n3 n4 e =>
    s5.extBut _ _ n2 (s4.extBut _ _ n4 (s3.extBut _ _ n2 (s2.extBut _ _ n3 (s1.extBut _ _ n1 e))))
  have p5 : ItAt f p l (i + 1) b5 := p2.by fun o e => s5.extBut _ o D.TOi1.symm (s4.extBut _ o D.i12 (s3.extBut _ o D.TOi1.symm e))
  have q5 : ItAt g q m (j + 1) b5 := q4.by fun o e => s5.extBut _ o D.TOi2.symm e
  have zl : z < b5.objs.size := Heap.lt_size z5
  show wpAny _ _ (Builtin.SmallTypes.ownedTupleHandOut (.ref z) (.ref b5.objs.size) >>= _) _ E _
  unfold Builtin.SmallTypes.ownedTupleHandOut
  have z6 : IsZip (b5.push { cls := .type "tuple", data := .seq #[x, y] }) z ti tu .ellipsis := Heap.get?_push_of_some _ z5
  refine wpAny_bind (wpAny_bind (wpAny_setField_rec z6 (by simp) fun b7 z7 s7 => ?_))
  have z7 : IsZip b7 z ti tu (rawInt b5.objs.size) := z7
  refine wpAny_setField_rec z7 (by simp) fun b8 z8 s8 => ?_
  have z8 : IsZip b8 z ti tu (rawInt b5.objs.size) := z8
  have up : ∀ c o, c ≠ z → b5.get? c = some o → b8.get? c = some o := fun c o n e => s8.extBut _ _ n (s7.extBut _ _ n (Heap.get?_push_of_some _ e))
  have t8 : IsPair b8 b5.objs.size x y := s8.extBut _ _ (Nat.ne_of_gt zl) (s7.extBut _ _ (Nat.ne_of_gt zl) (Heap.get?_push_size _ rfl))
  have n8 : b8.objs.size = b5.objs.size + 1 := by rw [s8.1, s7.1, Heap.size_push]
  rw [hsz] at z8 t8 n8
  refine wpAny_pure ⟨_, rfl, ?_⟩
  show Q (.ref b5.objs.size) _
  rw [hsz]
  exact k b8 z8 (up _ _ D.TOz o5) (p5.by fun o e => up _ o D.i1z e) (q5.by fun o e => up _ o D.i2z e) t8 n8 fun c o n1 n2 n3 n4 e => up c o n1 (k5 c o n1 n2 n3 n4 e)
theorem zs_end {f g : Bool} {z ti tu p q l m : Addr} {i j : Nat} {us vs : Array Value} {a b : Value} {Q : Fin → Shared → Prop} (hh : A.handled = none) (D : ZipApart z ti tu p q l m)
    (mz : IsZip s.heap z ti tu .none) (mi : IsPair s.heap ti (.ref p) (.ref q)) (mo : IsPair s.heap tu a b) (mp : ItAt f p l i s.heap) (mq : ItAt g q m j s.heap) (ml : SqAt f l us s.heap) (mm : SqAt g m vs s.heap) (en : us[i]? = none ∨ vs[j]? = none)
    (k : ∀ h' e, (∀ c o, c ≠ z → c ≠ tu → c ≠ p → c ≠ q → s.heap.get? c = some o → h'.get? c = some o) → (∃ o, h'.get? e = some o ∧ o.cls = .type "StopIteration") → E (.ref e) { s with heap := h' }) :
    wpAny (model prog w) A (Builtin.«zip.__next__» ⟨[.ref z], []⟩) Q E s := by
  show wpAny _ _ (field (.ref z) 2 >>= _) _ E s
  refine wpAny_bind (wpAny_field mz rfl (x := .bool false) rfl ?_)
  show wpAny _ _ (field (.ref z) 3 >>= _) _ E s
  refine wpAny_bind (wpAny_field mz rfl (x := .ref ti) rfl ?_)
  refine wpAny_bind (wpAny_seqItems mi rfl ?_)
  show wpAny _ _ (Builtin.SmallTypes.ownedTupleIsFree (.ref z) >>= _) _ E s
  unfold Builtin.SmallTypes.ownedTupleIsFree
  refine wpAny_bind (wpAny_bind (wpAny_field mz rfl (x := .none) rfl (wpAny_pure ?_)))
  simp only [if_true]
  refine wpAny_bind (wpAny_rule (wpAny_bind (wpAny_field mz rfl (x := .ref tu) rfl ?_)))
  refine wpAny_bind (wpAny_setField_rec mz (by simp) fun b1 z1 s1 => ?_)
  have z1 : IsZip b1 z ti tu .ellipsis := z1
  simp only [List.zipIdx_cons, List.zipIdx_nil, List.forIn_cons, List.forIn_nil]
  refine wpAny_bind (wpAny_bind (wpAny_bind (wpAny_onRaise ?_)))
  show wpAny _ _ (Builtin.SmallTypes.nextOf (.ref p) >>= _) _ _ _
  have p1 := mp.by fun o e => s1.extBut _ o D.i1z e
  have l1 := ml.by fun o e => s1.extBut _ o D.l1z e
  cases ex : us[i]? with
  | none =>
    refine wpAny_bind (nx_end hh p1 l1 ex fun b2 e s2 ⟨oe, he, ce⟩ => ?_)
    have z2 : IsZip b2 z ti tu .ellipsis := s2 _ _ D.i1z.symm z1
    have ne : e ≠ z := fun x => by subst x; rw [z2] at he; cases he; simp at ce
    exact wpAny_setField_rec z2 (by simp) fun b3 _ s3 => k b3 e (fun c o n1 _ n3 _ x => s3.extBut _ _ n1 (s2 _ _ n3 (s1.extBut _ _ n1 x))) ⟨oe, s3.extBut _ _ ne he, ce⟩
  | some x =>
    have ey : vs[j]? = none := en.resolve_left fun z => by rw [ex] at z; cases z
    refine wpAny_bind (nx_item p1 l1 ex fun b2 p2 s2 => wpAny_pure ?_)
    have o2 : IsPair b2 tu a b := s2.extBut _ _ D.TOi1 (s1.extBut _ _ D.TOz mo)
    refine wpAny_bind (wpAny_seqItems o2 rfl (wpAny_bind (wpAny_updateSeq_pair o2 fun b3 o3 s3 => ?_)))
    refine wpAny_bind (wpAny_letGo (wpAny_pure (wpAny_bind (wpAny_bind (wpAny_onRaise ?_)))))
    show wpAny _ _ (Builtin.SmallTypes.nextOf (.ref q) >>= _) _ _ _
    have q3 : ItAt g q m j b3 := mq.by fun o e => s3.extBut _ o D.TOi2.symm (s2.extBut _ o D.i12.symm (s1.extBut _ o D.i2z e))
    have m3 : SqAt g m vs b3 := mm.by fun o e => s3.extBut _ o D.l2TO (s2.extBut _ o D.l2i1 (s1.extBut _ o D.l2z e))
    refine wpAny_bind (nx_end hh q3 m3 ey fun b4 e s4 ⟨oe, he, ce⟩ => ?_)
    have z4 : IsZip b4 z ti tu .ellipsis := s4 _ _ D.i2z.symm (s3.extBut _ _ D.TOz.symm (s2.extBut _ _ D.i1z.symm z1))
    have ne : e ≠ z := fun x => by subst x; rw [z4] at he; cases he; simp at ce
    exact wpAny_setField_rec z4 (by simp) fun b5 _ s5 => k b5 e (fun c o n1 n2 n3 n4 x => s5.extBut _ _ n1 (s4 _ _ n4 (s3.extBut _ _ n2 (s2.extBut _ _ n3 (s1.extBut _ _ n1 x))))) ⟨oe, s5.extBut _ _ ne he, ce⟩
theorem zo_flag {z ti tu t : Addr} {fl : Bool} {R : Bool → Shared → Prop} (mz : IsZ s.heap z ti tu (rawInt t) fl) (k : ∀ b1, IsZ b1 z ti tu (rawInt t) true → Heap.SameBut z s.heap b1 → R false { s with heap := b1 }) :
    wpAny (model prog w) A (if (Value.bool fl != Value.bool true) = true then (do setField (.ref z) 1 (.bool true); pure false) else pure false) R E s := by
  cases fl with
  | true =>
    rw [if_neg (show ¬ (Value.bool true != Value.bool true) = true from Bool.false_ne_true)]
    exact wpAny_pure (k s.heap mz (Heap.SameBut.refl _ _))
  | false =>
    rw [if_pos (show (Value.bool false != Value.bool true) = true from rfl)]
    exact wpAny_bind (wpAny_setField_rec mz (by simp) fun b1 z1 s1 => wpAny_pure (k b1 z1 s1))
/-- .. where the tuple that it handed out is still had -/
theorem zo_item {f g : Bool} {z ti tu p q l m t : Addr} {fl : Bool} {ot : Obj} {i j : Nat} {us vs : Array Value} {x y : Value} {Q : Value → Shared → Prop} (D : ZipApart z ti tu p q l m)
    (mz : IsZ s.heap z ti tu (rawInt t) fl) (mt : s.heap.get? t = some ot) (mi : IsPair s.heap ti (.ref p) (.ref q)) (mp : ItAt f p l i s.heap) (mq : ItAt g q m j s.heap) (ml : SqAt f l us s.heap) (mm : SqAt g m vs s.heap) (ex : us[i]? = some x) (ey : vs[j]? = some y)
    (k : ∀ h', IsZ h' z ti tu (rawInt t) true → ItAt f p l (i + 1) h' → ItAt g q m (j + 1) h' → IsPair h' s.heap.objs.size x y → h'.objs.size = s.heap.objs.size + 1 →
      (∀ c o, c ≠ z → c ≠ p → c ≠ q → s.heap.get? c = some o → h'.get? c = some o) → Q (.ref s.heap.objs.size) { s with heap := h' }) :
    wpAny (model prog w) A (Builtin.«zip.__next__» ⟨[.ref z], []⟩) (fun fin s' => ∃ v, fin = .done (.ret v) ∧ Q v s') E s := by
  show wpAny _ _ (field (.ref z) 2 >>= _) _ E s
  refine wpAny_bind (wpAny_field mz rfl (x := .bool false) rfl ?_)
  show wpAny _ _ (field (.ref z) 3 >>= _) _ E s
  refine wpAny_bind (wpAny_field mz rfl (x := .ref ti) rfl ?_)
  refine wpAny_bind (wpAny_seqItems mi rfl ?_)
  show wpAny _ _ (Builtin.SmallTypes.ownedTupleIsFree (.ref z) >>= _) _ E s
  unfold Builtin.SmallTypes.ownedTupleIsFree
  refine wpAny_bind (wpAny_bind (wpAny_field mz rfl (x := rawInt t) rfl ?_))
  show wpAny _ _ (loadIfAlive ((t : Int).toNat) >>= _) _ _ _
  rw [Int.toNat_natCast]
  refine wpAny_bind (PySem.W.kdx_alive mt ?_)
  simp only [Option.isNone_some, Bool.false_eq_true, if_false]
  refine wpAny_bind (wpAny_field mz rfl (x := .bool fl) rfl ?_)
  refine zo_flag mz fun b1 z1 s1 => ?_
  simp only [Bool.false_eq_true, if_false, ← Array.forIn_toList, List.forIn_cons, List.forIn_nil]
  refine wpAny_bind (wpAny_bind (wpAny_bind (wpAny_holding ?_)))
  show wpAny _ _ (Builtin.SmallTypes.nextOf (.ref p) >>= _) _ _ _
  refine wpAny_bind (nx_item (mp.by fun o e => s1.extBut _ o D.i1z e) (ml.by fun o e => s1.extBut _ o D.l1z e) ex fun b2 p2 s2 => wpAny_pure (wpAny_pure ?_))
  refine wpAny_bind (wpAny_bind (wpAny_holding ?_))
  show wpAny _ _ (Builtin.SmallTypes.nextOf (.ref q) >>= _) _ _ _
  refine wpAny_bind (nx_item (mq.by fun o e => s2.extBut _ o D.i12.symm (s1.extBut _ o D.i2z e)) (mm.by fun o e => s2.extBut _ o D.l2i1 (s1.extBut _ o D.l2z e)) ey fun b3 q3 s3 => wpAny_pure (wpAny_pure (wpAny_pure ?_)))
  refine wpAny_bind (wpAny_newTuple (hsz := by show 2 ≤ sizeLine; decide) (wpAny_pure ⟨_, rfl, ?_⟩))
  have hsz : b3.objs.size = s.heap.objs.size := by rw [s3.1, s2.1, s1.1]
  have k3 : ∀ c o, c ≠ z → c ≠ p → c ≠ q → s.heap.get? c = some o → b3.get? c = some o := fun c o n1 n2 n3 e => s3.extBut _ _ n3 (s2.extBut _ _ n2 (s1.extBut _ _ n1 e))
  show Q (.ref b3.objs.size) _
  have t3 : IsPair (b3.push { cls := .type "tuple", data := .seq #[x, y] }) b3.objs.size x y := Heap.get?_push_size _ rfl
  have n3 : (b3.push { cls := .type "tuple", data := .seq #[x, y] }).objs.size = b3.objs.size + 1 := Heap.size_push ..
  rw [hsz] at t3 n3 ⊢
  exact k _ (Heap.get?_push_of_some _ (s3.extBut _ _ D.i2z.symm (s2.extBut _ _ D.i1z.symm z1))) (p2.by fun o e => Heap.get?_push_of_some _ (s3.extBut _ o D.i12 e)) (q3.by fun o e => Heap.get?_push_of_some _ e) t3 n3 fun c o n1 n2 n3 e => Heap.get?_push_of_some _ (k3 c o n1 n2 n3 e)
theorem zo_end {f g : Bool} {z ti tu p q l m t : Addr} {fl : Bool} {ot : Obj} {i j : Nat} {us vs : Array Value} {Q : Fin → Shared → Prop} (hh : A.handled = none) (D : ZipApart z ti tu p q l m)
    (mz : IsZ s.heap z ti tu (rawInt t) fl) (mt : s.heap.get? t = some ot) (mi : IsPair s.heap ti (.ref p) (.ref q)) (mp : ItAt f p l i s.heap) (mq : ItAt g q m j s.heap) (ml : SqAt f l us s.heap) (mm : SqAt g m vs s.heap) (en : us[i]? = none ∨ vs[j]? = none)
    (k : ∀ h' e, (∀ c o, c ≠ z → c ≠ p → c ≠ q → s.heap.get? c = some o → h'.get? c = some o) → (∃ o, h'.get? e = some o ∧ o.cls = .type "StopIteration") → E (.ref e) { s with heap := h' }) :
    wpAny (model prog w) A (Builtin.«zip.__next__» ⟨[.ref z], []⟩) Q E s := by
  show wpAny _ _ (field (.ref z) 2 >>= _) _ E s
  refine wpAny_bind (wpAny_field mz rfl (x := .bool false) rfl ?_)
  show wpAny _ _ (field (.ref z) 3 >>= _) _ E s
  refine wpAny_bind (wpAny_field mz rfl (x := .ref ti) rfl ?_)
  refine wpAny_bind (wpAny_seqItems mi rfl ?_)
  show wpAny _ _ (Builtin.SmallTypes.ownedTupleIsFree (.ref z) >>= _) _ E s
  unfold Builtin.SmallTypes.ownedTupleIsFree
  refine wpAny_bind (wpAny_bind (wpAny_field mz rfl (x := rawInt t) rfl ?_))
  show wpAny _ _ (loadIfAlive ((t : Int).toNat) >>= _) _ _ _
  rw [Int.toNat_natCast]
  refine wpAny_bind (PySem.W.kdx_alive mt ?_)
  simp only [Option.isNone_some, Bool.false_eq_true, if_false]
  refine wpAny_bind (wpAny_field mz rfl (x := .bool fl) rfl ?_)
  refine zo_flag mz fun b1 z1 s1 => ?_
  simp only [Bool.false_eq_true, if_false, ← Array.forIn_toList, List.forIn_cons, List.forIn_nil]
  refine wpAny_bind (wpAny_bind (wpAny_bind (wpAny_holding ?_)))
  show wpAny _ _ (Builtin.SmallTypes.nextOf (.ref p) >>= _) _ _ _
  have p1 := mp.by fun o e => s1.extBut _ o D.i1z e
  have l1 := ml.by fun o e => s1.extBut _ o D.l1z e
  cases ex : us[i]? with
  | none => exact wpAny_bind (nx_end hh p1 l1 ex fun b2 e s2 he => k b2 e (fun c o n1 n2 n3 x => s2 _ _ n2 (s1.extBut _ _ n1 x)) he)
  | some x =>
    have ey : vs[j]? = none := en.resolve_left fun z => by rw [ex] at z; cases z
    refine wpAny_bind (nx_item p1 l1 ex fun b2 p2 s2 => wpAny_pure (wpAny_pure ?_))
    refine wpAny_bind (wpAny_bind (wpAny_holding ?_))
    show wpAny _ _ (Builtin.SmallTypes.nextOf (.ref q) >>= _) _ _ _
    exact wpAny_bind (nx_end hh (mq.by fun o e => s2.extBut _ o D.i12.symm (s1.extBut _ o D.i2z e)) (mm.by fun o e => s2.extBut _ o D.l2i1 (s1.extBut _ o D.l2z e)) ey fun b3 e s3 he => k b3 e (fun c o n1 n2 n3 x => s3 _ _ n3 (s2.extBut _ _ n2 (s1.extBut _ _ n1 x))) he)
end
/-- a zip in its ith turn; it changes no more than what c stands for; S is not of it -/
structure ZSt (f g : Bool) (S z ti tu p q l m : Addr) (us vs : Array Value) (i : Nat) (h : Heap) : Prop where
  D : ZipApart z ti tu p q l m
  inn : IsPair h ti (.ref p) (.ref q)
  out : ∃ a b, IsPair h tu a b
  fst : ItAt f p l i h
  snd : ItAt g q m i h
  one : SqAt f l us h
  two : SqAt g m vs h
  zip : IsZip h z ti tu .none ∨ ∃ t b o, IsZ h z ti tu (rawInt (t : Nat)) b ∧ h.get? t = some o ∧ t ≠ z ∧ t ≠ p ∧ t ≠ q ∧ t ≠ S
  off : z ≠ S ∧ ti ≠ S ∧ tu ≠ S ∧ p ≠ S ∧ q ≠ S ∧ l ≠ S ∧ m ≠ S
theorem ZSt.keep {f g : Bool} {S z ti tu p q l m : Addr} {us vs : Array Value} {i : Nat} {h h' : Heap} (Z : ZSt f g S z ti tu p q l m us vs i h) (k : ∀ c o, c ≠ S → h.get? c = some o → h'.get? c = some o) : ZSt f g S z ti tu p q l m us vs i h' := by
  obtain ⟨D, a1, ⟨x, y, a2⟩, a3, a4, a5, a6, a7, o1, o2, o3, o4, o5, o6, o7⟩ := Z
  refine ⟨D, k _ _ o2 a1, ⟨x, y, k _ _ o3 a2⟩, a3.by fun o e => k _ o o4 e, a4.by fun o e => k _ o o5 e, a5.by fun o e => k _ o o6 e, a6.by fun o e => k _ o o7 e, ?_, o1, o2, o3, o4, o5, o6, o7⟩
  rcases a7 with a7 | ⟨t, b, o, b1, b2, b3, b4, b5, b6⟩
  · exact .inl (k _ _ o1 a7)
  · exact .inr ⟨t, b, o, k _ _ o1 b1, k _ _ b6 b2, b3, b4, b5, b6⟩
section
variable {prog : Program} {w : World} {A : Around} {E : Value → Shared → Prop} {s : Shared} {f g : Bool} {S z ti tu p q l m : Addr} {us vs : Array Value} {i : Nat}
theorem ZSt.item {x y : Value} {Q : Option Value → Shared → Prop} (Z : ZSt f g S z ti tu p q l m us vs i s.heap) (hS : S < s.heap.objs.size) (ex : us[i]? = some x) (ey : vs[i]? = some y)
    (k : ∀ h', ZSt f g S z ti tu p q l m us vs (i + 1) h' → IsPair h' s.heap.objs.size x y → h'.objs.size = s.heap.objs.size + 1 → (∀ c o, c ≠ z → c ≠ tu → c ≠ p → c ≠ q → s.heap.get? c = some o → h'.get? c = some o) → Q (some (.ref s.heap.objs.size)) { s with heap := h' }) :
    wpAny (model prog w) A (pyNext (.ref z)) Q E s := by
  obtain ⟨D, a1, ⟨x0, y0, a2⟩, a3, a4, a5, a6, a7, off⟩ := Z
  have hT : s.TypeIs (.ref z) "zip" := by
    rcases a7 with a7 | ⟨t, b, o, b1, _⟩
    · exact ⟨_, a7, rfl⟩
    · exact ⟨_, b1, rfl⟩
  have lp := a3.lt
  have lq := a4.lt
  unfold pyNext
  refine wpAny_bind (wpAny_attempt (wpAny_callSpecial?_slot (name := Str.ofString "__next__") hT F.slot_zip_next (wpAny_call_entry F.slot_zip_next hT F.entry_zip_next ?_ (F.args_zip_next_1 _))))
  rcases a7 with a7 | ⟨t, b, o, b1, b2, b3, b4, b5, b6⟩
  · have lz : z < s.heap.objs.size := Heap.lt_size a7
    refine zs_item D a7 a1 a2 a3 a4 a5 a6 ex ey fun h' c1 c2 c3 c4 c5 c6 c7 => wpAny_pure (k h' ⟨D, c7 _ _ D.TIz D.TITO D.TIi1 D.TIi2 a1, ⟨_, _, c2⟩, c3, c4, a5.by fun o e => c7 _ o D.l1z D.l1TO D.l1i1 D.l1i2 e, a6.by fun o e => c7 _ o D.l2z D.l2TO D.l2i1 D.l2i2 e, .inr ⟨_, _, _, c1, c5, Nat.ne_of_gt lz, Nat.ne_of_gt lp, Nat.ne_of_gt lq, Nat.ne_of_gt hS⟩, off⟩ c5 c6 c7)
  · refine zo_item D b1 b2 a1 a3 a4 a5 a6 ex ey fun h' c1 c3 c4 c5 c6 c7 => wpAny_pure (k h' ⟨D, c7 _ _ D.TIz D.TIi1 D.TIi2 a1, ⟨_, _, c7 _ _ D.TOz D.TOi1 D.TOi2 a2⟩, c3, c4, a5.by fun o e => c7 _ o D.l1z D.l1i1 D.l1i2 e, a6.by fun o e => c7 _ o D.l2z D.l2i1 D.l2i2 e, .inr ⟨_, _, o, c1, c7 _ _ b3 b4 b5 b2, b3, b4, b5, b6⟩, off⟩ c5 c6 fun c o n1 _ n3 n4 e => c7 c o n1 n3 n4 e)
theorem ZSt.stop {Q : Option Value → Shared → Prop} (hh : A.handled = none) (Z : ZSt f g S z ti tu p q l m us vs i s.heap) (en : us[i]? = none ∨ vs[i]? = none)
    (k : ∀ h', (∀ c o, c ≠ z → c ≠ tu → c ≠ p → c ≠ q → s.heap.get? c = some o → h'.get? c = some o) → Q none { s with heap := h' }) : wpAny (model prog w) A (pyNext (.ref z)) Q E s := by
  obtain ⟨D, a1, ⟨x0, y0, a2⟩, a3, a4, a5, a6, a7, off⟩ := Z
  have hT : s.TypeIs (.ref z) "zip" := by
    rcases a7 with a7 | ⟨t, b, o, b1, _⟩
    · exact ⟨_, a7, rfl⟩
    · exact ⟨_, b1, rfl⟩
  have fin : ∀ h' e, (∀ c o, c ≠ z → c ≠ tu → c ≠ p → c ≠ q → s.heap.get? c = some o → h'.get? c = some o) → (∃ o, h'.get? e = some o ∧ o.cls = .type "StopIteration") →
      wpAny (model prog w) A (do if ← isInstance (.ref e) (.type "StopIteration") then pure none else throw (.ref e)) Q E { s with heap := h' } := fun h' e kp ⟨o, ho, hc⟩ =>
    wpAny_bind (wpAny_isInstance (T := "StopIteration") (b := true) ⟨o, ho, hc⟩ isSubtype_stop (wpAny_pure (k h' kp)))
  unfold pyNext
  refine wpAny_bind (wpAny_attempt (wpAny_callSpecial?_slot (name := Str.ofString "__next__") hT F.slot_zip_next (wpAny_call_entry F.slot_zip_next hT F.entry_zip_next ?_ (F.args_zip_next_1 _))))
  rcases a7 with a7 | ⟨t, b, o, b1, b2, b3, b4, b5, b6⟩
  · exact zs_end hh D a7 a1 a2 a3 a4 a5 a6 en fun h' e kp he => fin h' e kp he
  · exact zo_end hh D b1 b2 a1 a3 a4 a5 a6 en fun h' e kp he => fin h' e (fun c o n1 _ n3 n4 x => kp c o n1 n3 n4 x) he
end
/-- the new pairs at as -/
structure ZG (us vs : Array Value) (lo : Addr) (h : Heap) (as : List Addr) : Prop where
  rise : as.Pairwise (· < ·)
  up : ∀ a ∈ as, lo < a
  at_ : ∀ (j : Nat) (a : Addr), as[j]? = some a → ∃ x y, us[j]? = some x ∧ vs[j]? = some y ∧ IsPair h a x y
theorem ZG.lt {us vs : Array Value} {lo : Addr} {h : Heap} {as : List Addr} (Z : ZG us vs lo h as) {a : Addr} (m : a ∈ as) : a < h.objs.size := by
  obtain ⟨j, e⟩ := List.mem_iff_getElem?.mp m
  obtain ⟨_, _, _, _, e⟩ := Z.at_ j a e
  exact Heap.lt_size e
theorem ZG.keep {us vs : Array Value} {lo : Addr} {h h' : Heap} {as : List Addr} (Z : ZG us vs lo h as) (k : ∀ c o, lo < c → h.get? c = some o → h'.get? c = some o) : ZG us vs lo h' as :=
  ⟨Z.rise, Z.up, fun j a e => let ⟨x, y, e1, e2, e3⟩ := Z.at_ j a e; ⟨x, y, e1, e2, k _ _ (Z.up a (List.mem_of_getElem? e)) e3⟩⟩
theorem ZG.add {us vs : Array Value} {lo : Addr} {h : Heap} {as : List Addr} {a : Addr} {x y : Value} (Z : ZG us vs lo h as) (u : ∀ b ∈ as, b < a) (la : lo < a) (ex : us[as.length]? = some x) (ey : vs[as.length]? = some y) (e : IsPair h a x y) : ZG us vs lo h (as ++ [a]) := by
  refine ⟨List.pairwise_append.mpr ⟨Z.rise, List.pairwise_singleton _ _, fun b hb c hc => ?_⟩, fun b hb => ?_, fun j b hj => ?_⟩
  · rw [List.mem_singleton.mp hc]
    exact u b hb
  · rcases List.mem_append.mp hb with hb | hb
    · exact Z.up b hb
    · rw [List.mem_singleton.mp hb]
      exact la
  · by_cases c : j < as.length
    · rw [List.getElem?_append_left c] at hj
      exact Z.at_ j b hj
    · have c2 : j = as.length := by
        have hl : j < (as ++ [a]).length := (List.getElem?_eq_some_iff.mp hj).1
        rw [List.length_append, List.length_singleton] at hl
        omega
      subst c2
      have hj : a = b := by simpa using hj
      subst hj
      exact ⟨x, y, ex, ey, e⟩
section
variable {prog : Program} {w : World} {A : Around} {s : Shared} {R : Result → Shared → Prop} {f g : Bool} {S z ti tu p q l m : Addr} {us vs : Array Value}
theorem zl_loop (hh : A.handled = none) (lo : z < S ∧ tu < S ∧ p < S ∧ q < S) (hn : min us.size vs.size ≤ sizeLine) (res : Value) {h0 : Heap}
    (k : ∀ h' tk acc c as, (∀ b o, b ≠ S → b ≠ z → b ≠ tu → b ≠ p → b ≠ q → h0.get? b = some o → h'.get? b = some o) → h'.get? S = some { cls := .type "list", data := .seq acc c } → as.length = min us.size vs.size → ZG us vs S h' as → acc.toList = as.map Value.ref → R (.ok (.ret res)) { s with heap := h', toks := tk }) :
    ∀ (n i : Nat) (h : Heap) (tk c : Nat) (acc : Array Value) (as : List Addr), min us.size vs.size - i = n → i ≤ min us.size vs.size → ZSt f g S z ti tu p q l m us vs i h → (∀ b o, b ≠ S → b ≠ z → b ≠ tu → b ≠ p → b ≠ q → h0.get? b = some o → h.get? b = some o) →
      h.get? S = some { cls := .type "list", data := .seq acc c } → acc.toList = as.map Value.ref → as.length = i → ZG us vs S h as → codeAny (model prog w) A (.builtin "list.extend.loop" ⟨[.ref S, .ref z, res], []⟩) R { s with heap := h, toks := tk } := by
  intro n
  induction n with
  | zero =>
    intro i h tk c acc as hn hi Z kp hS ha hl G
    have ei : i = min us.size vs.size := by omega
    refine codeAny_builtin PySem.F.entry_extend_loop ?_
    rw [Around.under_plainId PySem.F.plain_extend_loop _]
    show wpAny _ A.in1 (pyNext (.ref z) >>= _) _ _ _
    refine wpAny_bind (Z.stop (s := { s with heap := h, toks := tk }) (A := A.in1) hh ?_ fun h' k' => ?_)
    · by_cases c : us.size ≤ i
      · exact .inl (Array.getElem?_eq_none c)
      · exact .inr (Array.getElem?_eq_none (by omega))
    · exact wpAny_pure (k h' tk acc c as (fun b o n0 n1 n2 n3 n4 e => k' b o n1 n2 n3 n4 (kp b o n0 n1 n2 n3 n4 e)) (k' S _ (Nat.ne_of_gt lo.1) (Nat.ne_of_gt lo.2.1) (Nat.ne_of_gt lo.2.2.1) (Nat.ne_of_gt lo.2.2.2) hS) (by omega)
        (G.keep fun b o u e => k' b o (Nat.ne_of_gt (Nat.lt_trans lo.1 u)) (Nat.ne_of_gt (Nat.lt_trans lo.2.1 u)) (Nat.ne_of_gt (Nat.lt_trans lo.2.2.1 u)) (Nat.ne_of_gt (Nat.lt_trans lo.2.2.2 u)) e) ha)
  | succ n ih =>
    intro i h tk c acc as hn hi Z kp hS ha hl G
    have l1 : i < us.size := by omega
    have l2 : i < vs.size := by omega
    have ex : us[i]? = some us[i] := Array.getElem?_eq_getElem l1
    have ey : vs[i]? = some vs[i] := Array.getElem?_eq_getElem l2
    have hz : acc.size = i := by rw [← Array.length_toList, ha, List.length_map, hl]
    have lS : S < h.objs.size := Heap.lt_size hS
    refine codeAny_builtin PySem.F.entry_extend_loop ?_
    rw [Around.under_plainId PySem.F.plain_extend_loop _]
    show wpAny _ A.in1 (pyNext (.ref z) >>= _) _ _ _
    refine wpAny_bind (Z.item (s := { s with heap := h, toks := tk }) (A := A.in1) lS ex ey fun h' Z' t' n' k' => ?_)
    dsimp only at t' n' k' ⊢
    have S' := k' S _ (Nat.ne_of_gt lo.1) (Nat.ne_of_gt lo.2.1) (Nat.ne_of_gt lo.2.2.1) (Nat.ne_of_gt lo.2.2.2) hS
    have up : ∀ b o, b ≠ S → h'.get? b = some o → (h'.update S (Obj.mapSeq (·.push (Value.ref h.objs.size)))).get? b = some o := fun b o nb e => (Heap.get?_update_other _ _ (Ne.symm nb)).trans e
    show wpAny _ A.in1 (updateSeq S (·.push (Value.ref h.objs.size)) >>= _) _ _ _
    refine wpAny_bind (wpAny_updateSeq S' rfl (wpAny_pure ⟨plainId_quiet PySem.F.plain_extend_loop _, ih (i + 1) _ tk _ (acc.push (Value.ref h.objs.size)) (as ++ [h.objs.size]) (by omega) (by omega) (Z'.keep up)
      (fun b o n0 n1 n2 n3 n4 e => up b o n0 (k' b o n1 n2 n3 n4 (kp b o n0 n1 n2 n3 n4 e))) (Heap.get?_update_self _ S' rfl) (by rw [Array.toList_push, ha, List.map_append]; rfl) (by rw [List.length_append, hl]; rfl) ?_⟩) (by rw [hz]; omega) (by show (acc.push (Value.ref h.objs.size)).size ≤ sizeLine + 1; rw [Array.size_push, hz]; omega))
    have G' : ZG us vs S (h'.update S (Obj.mapSeq (·.push (Value.ref h.objs.size)))) as := G.keep fun b o u e => up b o (Nat.ne_of_gt u) (k' b o (Nat.ne_of_gt (Nat.lt_trans lo.1 u)) (Nat.ne_of_gt (Nat.lt_trans lo.2.1 u)) (Nat.ne_of_gt (Nat.lt_trans lo.2.2.1 u)) (Nat.ne_of_gt (Nat.lt_trans lo.2.2.2 u)) e)
    exact G'.add (fun b hb => G.lt hb) lS (by rw [hl]; exact ex) (by rw [hl]; exact ey) (up _ _ (Nat.ne_of_gt lS) t')
end
/-- a new iterator over what stands at l -/
def ni (f : Bool) (l : Addr) : Obj := match f with
  | true => { cls := .type "list_iterator", data := .fields #[.ref l, .int 0 0] }
  | false => { cls := .type "tuple_iterator", data := .fields #[.ref l, .int 0 0] }
abbrev zb1 (f : Bool) (h : Heap) (l : Addr) : Heap := h.push (ni f l)
abbrev zb2 (f g : Bool) (h : Heap) (l m : Addr) : Heap := (zb1 f h l).push (ni g m)
abbrev zb3 (f g : Bool) (h : Heap) (l m : Addr) : Heap := (zb2 f g h l m).push { cls := .type "tuple", data := .seq #[.ref h.objs.size, .ref (zb1 f h l).objs.size] }
abbrev zb4 (f g : Bool) (h : Heap) (l m : Addr) : Heap := (zb3 f g h l m).push { cls := .type "tuple", data := .seq #[.none, .none] }
abbrev zb5 (f g : Bool) (h : Heap) (l m : Addr) : Heap := (zb4 f g h l m).push { cls := .type "zip", data := .fields #[.none, .bool false, .bool false, .ref (zb2 f g h l m).objs.size, .ref (zb3 f g h l m).objs.size] }
theorem iter_ni {prog : Program} {w : World} {A : Around} {E : Value → Shared → Prop} {s : Shared} {f : Bool} {l : Addr} {us : Array Value} (ml : SqAt f l us s.heap) {Q : Value → Shared → Prop} (k : Q (.ref s.heap.objs.size) { s with heap := s.heap.push (ni f l) }) : wpAny (model prog w) A (pyIter (.ref l)) Q E s := by
  cases f
  · exact wpAny_pyIter_tuple (show s.heap.IsTuple l us from ml) k
  · exact wpAny_pyIter_list (show s.heap.IsList l us from ml) k
theorem meets_zb (f g : Bool) (l m : Addr) (us vs : Array Value) : Meets (Builtin.«zip.__new__» ⟨[.type "zip", .ref l, .ref m], []⟩) (fun _ R s => SqAt f l us s.heap ∧ SqAt g m vs s.heap ∧ R (.ok (.ret (.ref (zb4 f g s.heap l m).objs.size))) { s with heap := zb5 f g s.heap l m }) :=
  .of_wp fun prog w A R s h => by
    obtain ⟨hp, gn, d, tk, os⟩ := s
    obtain ⟨ml, mm, h⟩ := h
    have sub := sub_zip
    have q1 : SqAt f l us (Shared.heap ⟨hp, gn, d, tk, os⟩) := ml
    have q2 : SqAt g m vs (Shared.heap ⟨hp.push (ni f l), gn, d, tk, os⟩) := SqAt.by mm fun o e => Heap.get?_push_of_some _ e
    wp_walk using iter_ni q1, iter_ni q2
    exact ⟨_, rfl, h⟩
theorem ni_at {f : Bool} {l p : Addr} {h : Heap} (e : h.get? p = some (ni f l)) : ItAt f p l 0 h := by
  cases f
  · exact ⟨_, e, rfl, rfl⟩
  · exact ⟨_, e, rfl, rfl⟩
theorem ni_free (f : Bool) (l : Addr) : (ni f l).isFreed = false := by cases f <;> rfl
section
variable {prog : Program} {w : World} {A : Around} {E : Value → Shared → Prop} {s : Shared} {f g : Bool}
theorem call_zb {l m : Addr} {us vs : Array Value} {Q : Value → Shared → Prop} (ml : SqAt f l us s.heap) (mm : SqAt g m vs s.heap)
    (k : ∀ h', IsZip h' (s.heap.objs.size + 4) (s.heap.objs.size + 2) (s.heap.objs.size + 3) .none → IsPair h' (s.heap.objs.size + 2) (.ref s.heap.objs.size) (.ref (s.heap.objs.size + 1)) → IsPair h' (s.heap.objs.size + 3) .none .none →
      ItAt f s.heap.objs.size l 0 h' → ItAt g (s.heap.objs.size + 1) m 0 h' → h'.objs.size = s.heap.objs.size + 5 → (∀ c o, s.heap.get? c = some o → h'.get? c = some o) → Q (.ref (s.heap.objs.size + 4)) { s with heap := h' }) :
    wpAny (model prog w) A (call (.type "zip") [.ref l, .ref m]) Q E s := by
  refine callType_new F.called_zip (by decide) (F.typeCall_zip_2 (.ref l) (.ref m)) (F.newCall_zip_2 (.ref l) (.ref m)) (fun ob => F.args_object_init_3 ob (.ref l) (.ref m)) F.entry_zip_new (meets_zb f g l m us vs) ⟨ml, mm, ?_⟩
  have y1 : (zb1 f s.heap l).objs.size = s.heap.objs.size + 1 := Heap.size_push ..
  have y2 : (zb2 f g s.heap l m).objs.size = s.heap.objs.size + 2 := by rw [Heap.size_push, y1]
  have y3 : (zb3 f g s.heap l m).objs.size = s.heap.objs.size + 3 := by rw [Heap.size_push, y2]
  have y4 : (zb4 f g s.heap l m).objs.size = s.heap.objs.size + 4 := by rw [Heap.size_push, y3]
  have y5 : (zb5 f g s.heap l m).objs.size = s.heap.objs.size + 5 := by rw [Heap.size_push, y4]
  have u1 : (zb5 f g s.heap l m).get? s.heap.objs.size = some (ni f l) := Heap.get?_push_of_some _ (Heap.get?_push_of_some _ (Heap.get?_push_of_some _ (Heap.get?_push_of_some _ (Heap.get?_push_size _ (ni_free f l)))))
  have u2 : (zb5 f g s.heap l m).get? (zb1 f s.heap l).objs.size = some (ni g m) := Heap.get?_push_of_some _ (Heap.get?_push_of_some _ (Heap.get?_push_of_some _ (Heap.get?_push_size _ (ni_free g m))))
  have u3 : (zb5 f g s.heap l m).get? (zb2 f g s.heap l m).objs.size = some _ := Heap.get?_push_of_some _ (Heap.get?_push_of_some _ (Heap.get?_push_size _ rfl))
  have u4 : (zb5 f g s.heap l m).get? (zb3 f g s.heap l m).objs.size = some _ := Heap.get?_push_of_some _ (Heap.get?_push_size _ rfl)
  have u5 : (zb5 f g s.heap l m).get? (zb4 f g s.heap l m).objs.size = some _ := Heap.get?_push_size _ rfl
  show _ ∧ _
  rw [y2, y3, y4] at u5
  rw [y1, y2] at u3
  rw [y3] at u4
  rw [y1] at u2
  rw [y4]
  exact ⟨⟨_, u5, rfl⟩, k _ u5 u3 u4 (ni_at u1) (ni_at u2) y5 fun c o x => Heap.get?_push_of_some _ (Heap.get?_push_of_some _ (Heap.get?_push_of_some _ (Heap.get?_push_of_some _ (Heap.get?_push_of_some _ x))))⟩
theorem zip_no_len : typeLookup (.type "zip") "__len__" = pure none := by rw [typeLookup_type, builtinLookup_eq_fast]; kernel_rfl
theorem zip_no_hint : typeLookup (.type "zip") "__length_hint__" = pure none := by rw [typeLookup_type, builtinLookup_eq_fast]; kernel_rfl
theorem zl_hint {z : Addr} (hT : s.TypeIs (.ref z) "zip") {Q : Bool → Shared → Prop} (k : Q true s) : wpAny (model prog w) A (Builtin.List.listLengthHint (.ref z)) Q E s := by
  unfold Builtin.List.listLengthHint
  refine wpAny_bind (wpAny_specialOf hT zip_no_len ?_)
  show wpAny _ A (specialOf (Value.ref z) (Str.ofString "__length_hint__") >>= _) _ _ _
  exact wpAny_bind (wpAny_specialOf hT zip_no_hint (wpAny_pure k))
theorem ZSt.ty {S z ti tu p q l m : Addr} {us vs : Array Value} {i : Nat} (Z : ZSt f g S z ti tu p q l m us vs i s.heap) : s.TypeIs (.ref z) "zip" := by
  rcases Z.zip with a | ⟨t, b, o, a, _⟩
  · exact ⟨_, a, rfl⟩
  · exact ⟨_, a, rfl⟩
theorem zl_call {z ti tu p q l m : Addr} {us vs : Array Value} {Q : Value → Shared → Prop} (hh : A.handled = none) (mz : IsZip s.heap z ti tu .none) (hn : min us.size vs.size ≤ sizeLine) (lo : tu < s.heap.objs.size ∧ p < s.heap.objs.size ∧ q < s.heap.objs.size) (Z : ZSt f g s.heap.objs.size z ti tu p q l m us vs 0 s.heap)
    (k : ∀ h' tk acc c as, (∀ b o, b ≠ z → b ≠ tu → b ≠ p → b ≠ q → s.heap.get? b = some o → h'.get? b = some o) → h'.get? s.heap.objs.size = some { cls := .type "list", data := .seq acc c } → as.length = min us.size vs.size → ZG us vs s.heap.objs.size h' as → acc.toList = as.map Value.ref → Q (.ref s.heap.objs.size) { s with heap := h', toks := tk }) :
    wpAny (model prog w) A (call (.type "list") [.ref z]) Q E s := by
  have lz : z < s.heap.objs.size := Heap.lt_size mz
  refine callType_codes (Q₁ := fun ob s1 => ob = .ref s.heap.objs.size ∧ s1 = { s with heap := s.heap.push { cls := .type "list", data := .seq #[] } }) PySem.F.called_list (PySem.F.typeCall_list_1 _) PySem.F.entry_list_init (code_list_new _ ⟨rfl, rfl⟩) fun ob s1 h1 => ?_
  obtain ⟨rfl, rfl⟩ := h1
  have S0 : (s.heap.push { cls := .type "list", data := .seq #[] }).get? s.heap.objs.size = some { cls := .type "list", data := .seq #[] } := Heap.get?_push_size _ rfl
  have Z0 : ZSt f g s.heap.objs.size z ti tu p q l m us vs 0 (s.heap.push { cls := .type "list", data := .seq #[] }) := Z.keep fun c o _ e => Heap.get?_push_of_some _ e
  have k0 : ∀ b o, s.heap.get? b = some o → (s.heap.push { cls := .type "list", data := .seq #[] }).get? b = some o := fun b o e => Heap.get?_push_of_some _ e
  revert S0 Z0 k0
  generalize s.heap.push { cls := .type "list", data := .seq #[] } = hp
  intro S0 Z0 k0
  refine ⟨⟨_, S0, rfl⟩, PySem.F.args_list_init_2 _ _, ?_⟩
  show wpAny _ _ (do let old ← Builtin.List.listItems (.ref s.heap.objs.size); Builtin.List.listUpdate (.ref s.heap.objs.size) (fun _ => #[]); letGo old.toList.reverse; Builtin.List.listExtendWith (.ref s.heap.objs.size) (.ref z) .none) _ _ _
  refine wpAny_bind ?_
  unfold Builtin.List.listItems
  refine wpAny_bind (wpAny_seqItems S0 rfl (wpAny_pure ?_))
  show wpAny _ _ (updateSeq s.heap.objs.size (fun _ => #[]) >>= fun _ => letGo (#[] : Array Value).toList.reverse >>= fun _ => Builtin.List.listExtendWith (.ref s.heap.objs.size) (.ref z) .none) _ _ _
  refine wpAny_bind (wpAny_updateSeq S0 rfl ?_)
  have S1 := Heap.get?_update_self (Obj.mapSeq (fun _ => (#[] : Array Value))) S0 rfl
  have up : ∀ (h : Heap) (fn : Obj → Obj) b o, b ≠ s.heap.objs.size → h.get? b = some o → (h.update s.heap.objs.size fn).get? b = some o := fun h fn b o nb e => (Heap.get?_update_other _ _ (Ne.symm nb)).trans e
  have Z1 := Z0.keep (up hp (Obj.mapSeq (fun _ => (#[] : Array Value))))
  have k1 : ∀ b o, s.heap.get? b = some o → _ := fun b o e => up hp (Obj.mapSeq (fun _ => (#[] : Array Value))) b o (Nat.ne_of_lt (Heap.lt_size e)) (k0 b o e)
  refine wpAny_bind (wpAny_letGo ?_)
  unfold Builtin.List.listExtendWith
  refine wpAny_bind (wpAny_typeOf (T := "zip") (Z1.ty (s := { s with heap := _ })) ?_)
  have w1 : Builtin.List.listSameRef (.ref s.heap.objs.size) (.ref z) = false := by simp [Builtin.List.listSameRef, Nat.ne_of_gt lz]
  have w2 : (Value.type "zip" == Value.type "list") = false := by decide
  have w3 : (Value.type "zip" == Value.type "tuple") = false := by decide
  simp only [w1, w2, w3, Bool.or_false, Bool.false_eq_true, if_false]
  have mz1 : IsZip (hp.update s.heap.objs.size (Obj.mapSeq (fun _ => (#[] : Array Value)))) z ti tu .none := k1 _ _ mz
  refine wpAny_bind (wpAny_pyIter_zip (s := { s with heap := _ }) mz1 ?_)
  refine wpAny_bind (wpAny_holding (zl_hint (Z1.ty (s := { s with heap := _ })) ?_))
  show wpAny _ A.in1.in1 (rule "list.extend.makes-room" >>= fun _ => Builtin.List.listTouch (.ref s.heap.objs.size) >>= fun _ => again (.builtin "list.extend.loop" ⟨[.ref s.heap.objs.size, .ref z, .none], []⟩)) _ _ _
  refine wpAny_bind (wpAny_rule (wpAny_bind ?_))
  show wpAny _ _ (updateSeq s.heap.objs.size (·.push .none) >>= fun _ => updateSeq s.heap.objs.size (·.pop)) _ _ _
  refine wpAny_bind (wpAny_updateSeq S1 rfl ?_)
  have S2 := Heap.get?_update_self (Obj.mapSeq (·.push Value.none)) S1 rfl
  refine wpAny_updateSeq (hz := by seq_fits) S2 rfl ?_
  have S3 := Heap.get?_update_self (Obj.mapSeq (·.pop)) S2 rfl
  have Z3 := (Z1.keep (up _ (Obj.mapSeq (·.push Value.none)))).keep (up _ (Obj.mapSeq (·.pop)))
  have k3 : ∀ b o, s.heap.get? b = some o → _ := fun b o e => up _ (Obj.mapSeq (·.pop)) b o (Nat.ne_of_lt (Heap.lt_size e)) (up _ (Obj.mapSeq (·.push Value.none)) b o (Nat.ne_of_lt (Heap.lt_size e)) (k1 b o e))
  refine wpAny_pure ⟨plainId_quiet PySem.F.plain_extend_loop _, ?_⟩
  exact zl_loop (A := A.in1) (s := s) (h0 := s.heap) (R := wants (fun r s2 => r = Value.none ∧ Q (Value.ref s.heap.objs.size) s2) E) hh ⟨lz, lo⟩ hn .none (fun h' tk acc c as kp hS hl hG ha => ⟨rfl, k h' tk acc c as (fun b o n1 n2 n3 n4 e => kp b o (Nat.ne_of_lt (Heap.lt_size e)) n1 n2 n3 n4 e) hS hl hG ha⟩)
    _ 0 _ _ _ _ [] (Nat.sub_zero _) (Nat.zero_le _) Z3 (fun b o _ _ _ _ _ e => k3 b o e) S3 rfl rfl ⟨.nil, (fun _ h => nomatch h), fun j a h => by simp at h⟩
end
end FE
end
section
/-! FeCore: values, heap, IR and the big-step evaluator (no model in sight). Written for the kernel: small handlers, recursors where it is hot. -/
set_option autoImplicit false
set_option linter.unusedVariables false
namespace FE

inductive W where
  | non
  | bl (b : Bool)
  | int (i : Int)
  | str (cs : List Nat)
  | tup (xs : List W)
  | ob (n : Nat)
  | cls (c : Nat)
  | fn (f : Nat)
deriving Inhabited, Repr

inductive O where
  | lst (xs : List W)
  | dct (kvs : List (W × W))
  | ins (c : Nat) (fs : List (Nat × W))
  | exc (c : Nat) (fs : List (Nat × W))
  | urn (t : Nat)
  | cells
  | lck (kvs : List (W × W))
deriving Inhabited, Repr

/-- heap: a binary trie by the digits of the number -/
inductive T where
  | nil
  | node (v : Option O) (l r : T)
deriving Inhabited, Repr
noncomputable def T.get (t : T) : Nat → Option O := @T.rec (fun _ => Nat → Option O) (fun _ => none)
  (fun v _ _ gl gr i => @Bool.rec (fun _ => Option O) (@Bool.rec (fun _ => Option O) (gr (Nat.pred (Nat.div i 2))) (gl (Nat.div i 2)) (Nat.beq (Nat.mod i 2) 1)) v (Nat.beq i 0)) t
def T.put (o : O) : Nat → T → Nat → T
  | 0, t, _ => t
  | k + 1, .nil, i => match Nat.beq i 0 with
    | true => .node (some o) .nil .nil
    | false => match Nat.beq (Nat.mod i 2) 1 with
      | true => .node none (T.put o k .nil (Nat.div i 2)) .nil
      | false => .node none .nil (T.put o k .nil (Nat.pred (Nat.div i 2)))
  | k + 1, .node v l r, i => match Nat.beq i 0 with
    | true => .node (some o) l r
    | false => match Nat.beq (Nat.mod i 2) 1 with
      | true => .node v (T.put o k l (Nat.div i 2)) r
      | false => .node v l (T.put o k r (Nat.pred (Nat.div i 2)))

structure H where
  n : Nat
  t : T
deriving Inhabited, Repr

inductive Op | add | sub | mul | fdiv | mod | pow
deriving Inhabited, Repr
inductive Cm | eq | ne | lt | le | gt | ge | is | isnt | inn | notin
deriving Inhabited, Repr
inductive Ty | int | bool | str | tuple | list | cls (cs : List Nat)
deriving Inhabited, Repr
inductive Bf | len | any | all | sum | sorted | sortedLen | tuple | list | max | min | dict
deriving Inhabited, Repr
inductive B1 | abs | int | str
deriving Inhabited, Repr
/-- methods of built-in types -/
inductive Bm | append | extend | pop | remove | get | count | setdefault | join | split | partition
deriving Inhabited, Repr


noncomputable def H.get (h : H) (n : Nat) : Option O := match h with
  | ⟨_, t⟩ => t.get n
def H.put (h : H) (n : Nat) (o : O) : H := match h with
  | ⟨m, t⟩ => ⟨m, T.put o 40 t n⟩
def addZ (a b : Int) : Int := match a, b with
  | .ofNat m, .ofNat n => .ofNat (Nat.add m n)
  | a, b => a + b
def ltZ (a b : Int) : Bool := match a, b with
  | .ofNat m, .ofNat n => Nat.blt m n
  | .ofNat _, .negSucc _ => false
  | .negSucc _, .ofNat _ => true
  | .negSucc m, .negSucc n => Nat.blt n m
def eqZ (a b : Int) : Bool := match a, b with
  | .ofNat m, .ofNat n => Nat.beq m n
  | .ofNat _, .negSucc _ => false
  | .negSucc _, .ofNat _ => false
  | .negSucc m, .negSucc n => Nat.beq m n
def eqS : List Nat → List Nat → Bool
  | [], [] => true
  | a :: as, b :: bs => match Nat.beq a b with
    | true => eqS as bs
    | false => false
  | [], _ :: _ => false
  | _ :: _, [] => false
def ltS : List Nat → List Nat → Bool
  | _, [] => false
  | [], _ :: _ => true
  | a :: as, b :: bs => match Nat.blt a b with
    | true => true
    | false => match Nat.beq a b with
      | true => ltS as bs
      | false => false

def eqWs (f : W → W → Option Bool) : List W → List W → Option Bool
  | [], [] => some true
  | a :: as, b :: bs => match f a b with
    | some true => eqWs f as bs
    | some false => some false
    | none => none
  | [], _ :: _ => some false
  | _ :: _, [] => some false
def dget (eq : W → W → Option Bool) (k : W) : List (W × W) → Option (Option W)
  | [] => some none
  | (a, v) :: r => match eq a k with
    | some true => some (some v)
    | some false => dget eq k r
    | none => none
/-- each pair of the one is in the other -/
def eqDs (f : W → W → Option Bool) (ds : List (W × W)) : List (W × W) → Option Bool
  | [] => some true
  | (k, v) :: r => match dget f k ds with
    | some (some u) => match f v u with
      | some true => eqDs f ds r
      | some false => some false
      | none => none
    | some none => some false
    | none => none
section
variable (h : H) (f : W → W → Option Bool)
/-- a list stands there -/
noncomputable def isLst (j : Nat) : Option Bool := match h.get j with
  | some (.lst _) => some false
  | _ => none
noncomputable def eqNon (b : W) : Option Bool := match b with
  | .non => some true
  | .ob j => isLst h j
  | .cls _ => none | .fn _ => none
  | _ => some false
noncomputable def eqBl (x : Bool) (b : W) : Option Bool := match b with
  | .bl y => some (x == y)
  | .int y => some (eqZ (match x with | true => 1 | false => 0) y)
  | .ob j => isLst h j
  | .cls _ => none | .fn _ => none
  | _ => some false
noncomputable def eqIn (x : Int) (b : W) : Option Bool := match b with
  | .int y => some (eqZ x y)
  | .bl y => some (eqZ x (match y with | true => 1 | false => 0))
  | .ob j => isLst h j
  | .cls _ => none | .fn _ => none
  | _ => some false
noncomputable def eqSt (x : List Nat) (b : W) : Option Bool := match b with
  | .str y => some (eqS x y)
  | .ob j => isLst h j
  | .cls _ => none | .fn _ => none
  | _ => some false
noncomputable def eqTu (xs : List W) (b : W) : Option Bool := match b with
  | .tup ys => eqWs f xs ys
  | .ob j => isLst h j
  | .cls _ => none | .fn _ => none
  | _ => some false
noncomputable def eqOb (i : Nat) (b : W) : Option Bool := match b with
  | .ob j => match Nat.beq i j with
    | true => some true
    | false => match h.get i with
      | some (.lst xs) => match h.get j with
        | some (.lst ys) => eqWs f xs ys
        | _ => none
      | _ => none
  | .cls _ => none | .fn _ => none
  | _ => isLst h i
noncomputable def eqStep (a b : W) : Option Bool := match a with
  | .non => eqNon h b
  | .bl x => eqBl h x b
  | .int x => eqIn h x b
  | .str x => eqSt h x b
  | .tup xs => eqTu h f xs b
  | .ob i => eqOb h f i b
  | .cls _ => none
  | .fn _ => none
end
/-- == (none: not told) -/
noncomputable def eqW (h : H) : Nat → W → W → Option Bool
  | 0 => fun _ _ => none
  | n + 1 => eqStep h (eqW h n)
/-- < -/
def ltWs (eq lt : W → W → Option Bool) : List W → List W → Option Bool
  | _, [] => some false
  | [], _ :: _ => some true
  | a :: as, b :: bs => match eq a b with
    | some true => ltWs eq lt as bs
    | some false => lt a b
    | none => none
def ltStep (eq lt : W → W → Option Bool) (a b : W) : Option Bool := match a with
  | .int x => match b with
    | .int y => some (ltZ x y)
    | _ => none
  | .str x => match b with
    | .str y => some (ltS x y)
    | _ => none
  | .tup xs => match b with
    | .tup ys => ltWs eq lt xs ys
    | _ => none
  | _ => none
noncomputable def ltW (h : H) : Nat → W → W → Option Bool
  | 0 => fun _ _ => none
  | n + 1 => ltStep (eqW h n) (ltW h n)
def DEEP : Nat := 40

/-- stable insertion: x ahead of the first that is greater -/
def insW (lt : W → W → Option Bool) (x : W × W) : List (W × W) → Option (List (W × W))
  | [] => some [x]
  | y :: ys => match lt x.1 y.1 with
    | some true => some (x :: y :: ys)
    | some false => match insW lt x ys with
      | some zs => some (y :: zs)
      | none => none
    | none => none
def sortW (lt : W → W → Option Bool) : List (W × W) → List (W × W) → Option (List (W × W))
  | acc, [] => some acc
  | acc, x :: xs => match insW lt x acc with
    | some acc' => sortW lt acc' xs
    | none => none
/-! sorting: each item's number of greater ones, all pairs asked -/
def allP {α : Type} (f : α → Bool) : List α → Bool
  | [] => true
  | x :: r => match f x with
    | true => allP f r
    | false => false
/-- ints, texts, tuples of such .. -/
def pureW : Nat → W → Bool
  | 0 => fun _ => false
  | n + 1 => fun w => match w with
    | .non => true
    | .bl _ => true
    | .int _ => true
    | .str _ => true
    | .tup xs => allP (pureW n) xs
    | _ => false
/-- int: 1, text: 2, tuple that begins with an int: 3, a text: 4, a tuple: 5 -/
def sortTag (w : W) : Nat := match w with
  | .int _ => 1
  | .str _ => 2
  | .tup xs => match xs with
    | [] => 0
    | x :: _ => match x with
      | .int _ => 3
      | .str _ => 4
      | .tup _ => 5
      | _ => 0
  | _ => 0
def oneTag (ws : List W) : Bool := match ws with
  | [] => true
  | w :: r => match sortTag w with
    | 0 => false
    | n + 1 => allP (fun u => Nat.beq (sortTag u) (Nat.succ n)) r
abbrev Srow := Nat × (List Bool × W)
def rowOf (lt : W → W → Option Bool) (x : W) : List W → Option (List Bool)
  | [] => some []
  | y :: r => match lt x y with
    | some b => match rowOf lt x r with
      | some l => some (b :: l)
      | none => none
    | none => none
def cntT : List Bool → Nat
  | [] => 0
  | b :: r => match b with
    | true => Nat.succ (cntT r)
    | false => cntT r
def mkRows (lt : W → W → Option Bool) (ws : List W) : List W → Option (List Srow)
  | [] => some []
  | x :: r => match rowOf lt x ws with
    | some b => match mkRows lt ws r with
      | some l => some ((cntT b, (b, x)) :: l)
      | none => none
    | none => none
def okRow (g : Nat) : List Bool → List Srow → Bool
  | [], [] => true
  | b :: bs, q :: qs => match Nat.blt q.1 g with
    | true => match b with
      | true => okRow g bs qs
      | false => false
    | false => match b with
      | true => false
      | false => okRow g bs qs
  | [], _ :: _ => false
  | _ :: _, [] => false
def okRows (rs : List Srow) : List Srow → Bool
  | [] => true
  | p :: r => match okRow p.1 p.2.1 rs with
    | true => okRows rs r
    | false => false
def insR (p : Srow) : List Srow → List Srow
  | [] => [p]
  | q :: qs => match Nat.blt q.1 p.1 with
    | true => p :: q :: qs
    | false => q :: insR p qs
def sortR : List Srow → List Srow → List Srow
  | acc, [] => acc
  | acc, p :: r => sortR (insR p acc) r
def rowsW : List Srow → List W
  | [] => []
  | p :: r => p.2.2 :: rowsW r
def sortL (lt : W → W → Option Bool) (ws : List W) : Option (List W) := match ws with
  | [] => some []
  | x :: r => match r with
    | [] => some [x]
    | _ :: _ => match oneTag (x :: r) with
      | true => match allP (pureW 40) (x :: r) with
        | true => match mkRows lt (x :: r) (x :: r) with
          | some rs => match okRows rs rs with
            | true => some (rowsW (sortR [] rs))
            | false => none
          | none => none
        | false => none
      | false => none
def dedW (eq : W → W → Option Bool) : List W → Option (List W)
  | [] => some []
  | x :: r => match dedW eq r with
    | some l => match l with
      | [] => some [x]
      | y :: l' => match eq x y with
        | some true => some (y :: l')
        | some false => some (x :: y :: l')
        | none => none
    | none => none
noncomputable def truthy (h : H) (w : W) : Option Bool := match w with
  | .bl b => some b
  | .non => some false
  | .int i => some (!eqZ i 0)
  | .str cs => match Nat.ble cs.length 16777216 with
    | true => some (!cs.isEmpty)
    | false => none
  | .tup xs => some (!xs.isEmpty)
  | .ob n => match h.get n with
    | some (.lst xs) => some (!xs.isEmpty)
    | some (.dct xs) => some (!xs.isEmpty)
    | _ => none
  | _ => none
/-- what may be walked -/
noncomputable def seqOf (h : H) (w : W) : Option (List W) := match w with
  | .tup xs => some xs
  | .str cs => some (cs.map fun c => .str [c])
  | .ob n => match h.get n with
    | some (.lst xs) => some xs
    | some (.dct kvs) => some (kvs.map (·.1))
    | _ => none
  | _ => none
def nthW {α : Type} : List α → Nat → Option α
  | [], _ => none
  | x :: _, 0 => some x
  | _ :: xs, n + 1 => nthW xs n
def ix (len : Nat) (i : Int) : Option Nat := match i with
  | .ofNat n => match Nat.blt n len with | true => some n | false => none
  | .negSucc n => match Nat.blt n len with | true => some (Nat.sub len (Nat.succ n)) | false => none
def clip (len : Nat) (i : Int) : Nat := match i with
  | .ofNat n => match Nat.ble n len with | true => n | false => len
  | .negSucc n => Nat.sub len (Nat.succ n)
def sliceL {α : Type} (xs : List α) (lo hi : Option Int) : List α :=
  let len := xs.length
  let a := match lo with | some i => clip len i | none => 0
  let b := match hi with | some i => clip len i | none => len
  (xs.drop a).take (Nat.sub b a)
def setNth : List W → Nat → W → List W
  | [], _, _ => []
  | _ :: xs, 0, w => w :: xs
  | x :: xs, n + 1, w => x :: setNth xs n w
def drepl (eq : W → W → Option Bool) (k v : W) : List (W × W) → Option (List (W × W))
  | [] => some []
  | (a, u) :: r => match eq a k with
    | some b => match drepl eq k v r with
      | some r' => some ((a, match b with | true => v | false => u) :: r')
      | none => none
    | none => none
def dput (eq : W → W → Option Bool) (k v : W) (l : List (W × W)) : Option (List (W × W)) := match dget eq k l with
  | some (some _) => drepl eq k v l
  | some none => some (l ++ [(k, v)])
  | none => none
def dputs (eq : W → W → Option Bool) : List (W × W) → List (W × W) → Option (List (W × W))
  | acc, [] => some acc
  | acc, (k, v) :: r => match dput eq k v acc with
    | some acc' => dputs eq acc' r
    | none => none
def ddel (eq : W → W → Option Bool) (k : W) : List (W × W) → Option (List (W × W))
  | [] => none
  | (a, u) :: r => match eq a k with
    | some true => some r
    | some false => match ddel eq k r with
      | some r' => some ((a, u) :: r')
      | none => none
    | none => none
/-- what may be a key -/
def isKey (w : W) : Bool := match w with
  | .int _ => true
  | .str _ => true
  | _ => false
def fget : List (Nat × W) → Nat → Option W
  | [], _ => none
  | (a, v) :: r, k => match Nat.beq a k with
    | true => some v
    | false => fget r k
def fput : List (Nat × W) → Nat → W → List (Nat × W)
  | [], k, v => [(k, v)]
  | (a, u) :: r, k, v => match Nat.beq a k with
    | true => (a, v) :: r
    | false => (a, u) :: fput r k v
def inW (eq : W → W → Option Bool) (x : W) : List W → Option Bool
  | [] => some false
  | y :: ys => match eq y x with
    | some b => match inW eq x ys with
      | some c => some (match b with | true => true | false => c)
      | none => none
    | none => none
def cntW (eq : W → W → Option Bool) (x : W) : List W → Option Nat
  | [] => some 0
  | y :: ys => match eq y x with
    | some b => match cntW eq x ys with
      | some n => some (match b with | true => Nat.succ n | false => n)
      | none => none
    | none => none
def remW (eq : W → W → Option Bool) (x : W) : List W → Option (List W)
  | [] => none
  | y :: ys => match eq y x with
    | some true => some ys
    | some false => match remW eq x ys with
      | some zs => some (y :: zs)
      | none => none
    | none => none
noncomputable def anyW (h : H) : List W → Option Bool
  | [] => some false
  | x :: xs => match truthy h x with
    | some true => some true
    | some false => anyW h xs
    | none => none
noncomputable def allW (h : H) : List W → Option Bool
  | [] => some true
  | x :: xs => match truthy h x with
    | some true => allW h xs
    | some false => some false
    | none => none
def intOf : W → Option Int
  | .int i => some i
  | .bl b => some (match b with | true => 1 | false => 0)
  | _ => none
def sumW : Int → List W → Option Int
  | acc, [] => some acc
  | acc, x :: xs => match intOf x with
    | some i => match addZ acc i with
      | .ofNat n => sumW (.ofNat n) xs
      | .negSucc n => sumW (.negSucc n) xs
    | none => none
def maxW (lt : W → W → Option Bool) : W → List W → Option W
  | m, [] => some m
  | m, x :: xs => match lt m x with
    | some true => maxW lt x xs
    | some false => maxW lt m xs
    | none => none
def minW (lt : W → W → Option Bool) : W → List W → Option W
  | m, [] => some m
  | m, x :: xs => match lt x m with
    | some true => minW lt x xs
    | some false => minW lt m xs
    | none => none
def pfxS : List Nat → List Nat → Bool
  | [], _ => true
  | _ :: _, [] => false
  | a :: as, b :: bs => match Nat.beq a b with
    | true => pfxS as bs
    | false => false
def subS (p : List Nat) : List Nat → Bool
  | [] => p.isEmpty
  | c :: r => match pfxS p (c :: r) with
    | true => true
    | false => subS p r
def strInt (i : Int) : List Nat := (toString i).toList.map Char.toNat


noncomputable def isTy (h : H) (w : W) (t : Ty) : Option Bool := match t with
  | .int => match w with | .int _ => some true | .bl _ => some true | .cls _ => none | .fn _ => none | _ => some false
  | .bool => match w with | .bl _ => some true | .cls _ => none | .fn _ => none | _ => some false
  | .str => match w with | .str _ => some true | .cls _ => none | .fn _ => none | _ => some false
  | .tuple => match w with | .tup _ => some true | .cls _ => none | .fn _ => none | _ => some false
  | .list => match w with
    | .ob n => match h.get n with
      | some (.lst _) => some true
      | some (.dct _) => some false
      | some (.ins _ _) => some false
      | _ => none
    | .cls _ => none | .fn _ => none
    | _ => some false
  | .cls cs => match w with
    | .ob n => match h.get n with
      | some (.ins c _) => some (cs.any (Nat.beq c))
      | some (.exc c _) => some (cs.any (Nat.beq c))
      | some (.lst _) => some false
      | some (.dct _) => some false
      | _ => none
    | .cls _ => none | .fn _ => none
    | _ => some false
/-- .. a built-in one -/
noncomputable def isBt (h : H) (w : W) (t : Ty) : Option Bool := match w with
  | .non => match t with | .cls _ => none | _ => some false
  | .bl _ => match t with | .int => some true | .bool => some true | .cls _ => none | _ => some false
  | .int _ => match t with | .int => some true | .cls _ => none | _ => some false
  | .str _ => match t with | .str => some true | .cls _ => none | _ => some false
  | .tup _ => match t with | .tuple => some true | .cls _ => none | _ => some false
  | .ob n => match h.get n with
    | some (.lst _) => match t with | .list => some true | .cls _ => none | _ => some false
    | some (.dct _) => match t with | .cls _ => none | _ => some false
    | _ => none
  | _ => none
noncomputable def isBts (h : H) (w : W) : List Ty → Option Bool
  | [] => some false
  | t :: ts => match isBt h w t with
    | some true => some true
    | some false => isBts h w ts
    | none => none
noncomputable def isTys (h : H) (w : W) : List Ty → Option Bool
  | [] => some false
  | t :: ts => match isTy h w t with
    | some true => some true
    | some false => isTys h w ts
    | none => none

def MOST : Nat := 549755813888
noncomputable def plainOb (h : H) (w : W) : Bool := match w with
  | .ob n => match h.get n with
    | some (.lst _) => true
    | _ => false
  | _ => true
/-- slots -/
abbrev Env := List (Option W)
noncomputable def eget (σ : Env) (i : Nat) : Option W := @List.rec (Option W) (fun _ => Nat → Option W) (fun _ => none) (fun x _ ih i => @Nat.rec (fun _ => Option W) x (fun n _ => ih n) i) σ i
def eset : Env → Nat → Option W → Env
  | [], _, _ => []
  | _ :: r, 0, w => w :: r
  | x :: r, n + 1, w => x :: eset r n w

/-- a walk that goes on: a tuple's rest, a list by its place, .. -/
inductive Wk where
  | rest (xs : List W)
  | lst (n i : Nat)
  | rng (i : Int) (k : Nat)
  | enum (i : Nat) (w : Wk)
  | zip (a b : Wk)
  | keys (n i : Nat) | items (n i : Nat) | values (n i : Nat)
def incZ (i : Int) : Int := match i with
  | .ofNat n => .ofNat (Nat.succ n)
  | .negSucc n => match n with | 0 => .ofNat 0 | m + 1 => .negSucc m
noncomputable def dctAt (h : H) (n i : Nat) : Option (Option (W × W)) := match h.get n with
  | some (.lck kvs) => some (nthW kvs i)
  | _ => none
/-- none: not told; some none: at its end -/
noncomputable def wkNext (h : H) : Wk → Option (Option (W × Wk))
  | .rest xs => match xs with
    | [] => some none
    | x :: r => some (some (x, .rest r))
  | .lst n i => match h.get n with
    | some (.lst xs) => match nthW xs i with
      | some x => some (some (x, .lst n (Nat.succ i)))
      | none => some none
    | _ => none
  | .rng i k => match k with
    | 0 => some none
    | k + 1 => some (some (.int i, .rng (incZ i) k))
  | .enum i w => match wkNext h w with
    | some (some (x, w')) => some (some (.tup [.int (.ofNat i), x], .enum (Nat.succ i) w'))
    | some none => some none
    | none => none
  | .zip a b => match wkNext h a with
    | some (some (x, a')) => match wkNext h b with
      | some (some (y, b')) => some (some (.tup [x, y], .zip a' b'))
      | some none => some none
      | none => none
    | some none => match wkNext h b with
      | some _ => some none
      | none => none
    | none => none
  | .keys n i => match dctAt h n i with
    | some (some (k, _)) => some (some (k, .keys n (Nat.succ i)))
    | some none => some none
    | none => none
  | .items n i => match dctAt h n i with
    | some (some (k, v)) => some (some (.tup [k, v], .items n (Nat.succ i)))
    | some none => some none
    | none => none
  | .values n i => match dctAt h n i with
    | some (some (_, v)) => some (some (v, .values n (Nat.succ i)))
    | some none => some none
    | none => none
/-- all that a walk yields, the heap standing still -/
def zipL : List W → List W → List W
  | x :: xs, y :: ys => .tup [x, y] :: zipL xs ys
  | _, _ => []
def enumL : Nat → List W → List W
  | _, [] => []
  | n, x :: xs => .tup [.int (.ofNat n), x] :: enumL (Nat.succ n) xs
def rangeL : Nat → Int → List W
  | 0, _ => []
  | n + 1, i => .int i :: rangeL n (incZ i)
noncomputable def wkAll (h : H) : Wk → Option (List W)
  | .rest xs => some xs
  | .lst n i => match h.get n with
    | some (.lst xs) => some (xs.drop i)
    | _ => none
  | .rng i k => some (rangeL k i)
  | .enum i w => match wkAll h w with
    | some xs => some (enumL i xs)
    | none => none
  | .zip a b => match wkAll h a with
    | some xs => match wkAll h b with
      | some ys => some (zipL xs ys)
      | none => none
    | none => none
  | .keys n i => match h.get n with
    | some (.dct kvs) => some ((kvs.drop i).map (·.1))
    | _ => none
  | .items n i => match h.get n with
    | some (.dct kvs) => some ((kvs.drop i).map fun p => .tup [p.1, p.2])
    | _ => none
  | .values n i => match h.get n with
    | some (.dct kvs) => some ((kvs.drop i).map (·.2))
    | _ => none
noncomputable def wkOf (h : H) (w : W) : Option Wk := match w with
  | .tup xs => some (.rest xs)
  | .str cs => some (.rest (cs.map fun c => .str [c]))
  | .ob n => match h.get n with
    | some (.lst _) => some (.lst n 0)
    | some (.dct _) => some (.keys n 0)
    | _ => none
  | _ => none


end FE
end
section
set_option Elab.async false
set_option linter.all false
set_option maxRecDepth 100000
/-! FeRel: what the evaluator's values and heap stand for. -/
namespace FE
open PySem PySem.Spec PyProof.Rows L2

/-- where own defs and classes stand, how attributes are called -/
structure GM where
  fa : Nat → Option Addr
  ca : Nat → Option Addr
  fld : Nat → Str
  xf : Nat → List Nat
  /-- which are names of fields, which classes have instances -/
  nf : Nat → Bool
  ic : Nat → Bool
  inj : ∀ a b, nf a = true → nf b = true → fld a = fld b → a = b
abbrev toS (cs : List Nat) : Str := ⟨cs.toArray⟩
abbrev Rho := Nat → Option Addr
/-- tuples alone -/
def keyed : List W → Bool
  | [] => true
  | w :: r => match w with
    | .tup _ => keyed r
    | _ => false
/-- a tuple that is known to its object, which has no dict -/
def PTu (H : Hp) (a : Addr) (xs : List V) : Prop := ∃ ob : Obj, ob.dict = none ∧ H a = some (.frz ob (.tup xs))
theorem PTu.sq {K : PySem.W.Frag} {H : Hp} {a : Addr} {xs : List V} (p : PTu H a xs) : SqT K H a xs := let ⟨ob, _, e⟩ := p; .inl (.inr ⟨ob, e⟩)

mutual
inductive RW (G : GM) (K : PySem.W.Frag) (ρ : Rho) (H : Hp) : W → V → Prop
  | non : RW G K ρ H .non .non
  | bl (b) : RW G K ρ H (.bl b) (.bl b)
  | int (i) : RW G K ρ H (.int i) (.int i)
  | str (cs) : RW G K ρ H (.str cs) (.str (toS cs))
  | tup {ws a xs} : SqT K H a xs → RWs G K ρ H ws xs → (keyed ws = true → PTu H a xs) → RW G K ρ H (.tup ws) (.ref a)
  | ob {n a} : ρ n = some a → RW G K ρ H (.ob n) (.ref a)
  | cls {c a} : G.ca c = some a → RW G K ρ H (.cls c) (.ref a)
  | fn {f a} : G.fa f = some a → RW G K ρ H (.fn f) (.ref a)
inductive RWs (G : GM) (K : PySem.W.Frag) (ρ : Rho) (H : Hp) : List W → List V → Prop
  | nil : RWs G K ρ H [] []
  | cons {w v ws vs} : RW G K ρ H w v → RWs G K ρ H ws vs → RWs G K ρ H (w :: ws) (v :: vs)
end
/-- more is seen; tuples stay -/
structure ExtT (K : PySem.W.Frag) (ρ : Rho) (H : Hp) (ρ' : Rho) (H' : Hp) : Prop where
  map : ∀ n a, ρ n = some a → ρ' n = some a
  tup : ∀ a xs, SqT K H a xs → SqT K H' a xs
  pt : ∀ a xs, PTu H a xs → PTu H' a xs
/-- .. and what is locked -/
structure Ext0 (K : PySem.W.Frag) (ρ : Rho) (H : Hp) (ρ' : Rho) (H' : Hp) : Prop extends ExtT K ρ H ρ' H' where
  frz : ∀ a ob u, H a = some (.frz ob u) → H' a = some (.frz ob u)
/-- .. and what the evaluator does not see is as it was -/
structure Ext (K : PySem.W.Frag) (ρ : Rho) (H : Hp) (ρ' : Rho) (H' : Hp) : Prop extends Ext0 K ρ H ρ' H' where
  new : ∀ n a, ρ' n = some a → ρ n = some a ∨ H a = none
  there : ∀ a, H a ≠ none → H' a ≠ none
  keep : ∀ a, H a ≠ none → (∀ n, ρ n ≠ some a) → H' a = H a
theorem Ext.refl {K : PySem.W.Frag} {ρ : Rho} {H : Hp} : Ext K ρ H ρ H := ⟨⟨⟨fun _ _ h => h, fun _ _ h => h, fun _ _ h => h⟩, fun _ _ _ h => h⟩, fun _ _ h => .inl h, fun _ h => h, fun _ _ _ => rfl⟩
theorem Ext.unseen {K : PySem.W.Frag} {ρ ρ' : Rho} {H H' : Hp} (e : Ext K ρ H ρ' H') {a : Addr} (h : H a ≠ none) (u : ∀ n, ρ n ≠ some a) : ∀ n, ρ' n ≠ some a := fun n q => (e.new n a q).elim (u n) h
theorem Ext.trans {K : PySem.W.Frag} {ρ ρ1 ρ2 : Rho} {H H1 H2 : Hp} (a : Ext K ρ H ρ1 H1) (b : Ext K ρ1 H1 ρ2 H2) : Ext K ρ H ρ2 H2 :=
  ⟨⟨⟨fun n x h => b.map n x (a.map n x h), fun x xs h => b.tup x xs (a.tup x xs h), fun x xs h => b.pt x xs (a.pt x xs h)⟩, fun x ob u h => b.frz x ob u (a.frz x ob u h)⟩, fun n x h => by
    rcases b.new n x h with q | q
    · exact a.new n x q
    · exact .inr (by
        cases z : H x with
        | none => rfl
        | some o => exact absurd q (a.there x (by rw [z]; exact fun z => nomatch z))), fun x h => b.there x (a.there x h), fun x h u => (b.keep x (a.there x h) (a.unseen h u)).trans (a.keep x h u)⟩
mutual
theorem RW.monoT {G : GM} {K : PySem.W.Frag} {ρ ρ' : Rho} {H H' : Hp} (e : ExtT K ρ H ρ' H') : ∀ {w : W} {v : V}, RW G K ρ H w v → RW G K ρ' H' w v
  | _, _, .non => .non
  | _, _, .bl b => .bl b
  | _, _, .int i => .int i
  | _, _, .str cs => .str cs
  | _, _, .tup h r p => .tup (e.tup _ _ h) (RWs.monoT e r) (fun z => e.pt _ _ (p z))
  | _, _, .ob h => .ob (e.map _ _ h)
  | _, _, .cls h => .cls h
  | _, _, .fn h => .fn h
theorem RWs.monoT {G : GM} {K : PySem.W.Frag} {ρ ρ' : Rho} {H H' : Hp} (e : ExtT K ρ H ρ' H') : ∀ {ws : List W} {vs : List V}, RWs G K ρ H ws vs → RWs G K ρ' H' ws vs
  | _, _, .nil => .nil
  | _, _, .cons r rs => .cons (RW.monoT e r) (RWs.monoT e rs)
end
theorem RW.mono0 {G : GM} {K : PySem.W.Frag} {ρ ρ' : Rho} {H H' : Hp} (e : Ext0 K ρ H ρ' H') {w : W} {v : V} (r : RW G K ρ H w v) : RW G K ρ' H' w v := r.monoT e.toExtT
theorem RWs.mono0 {G : GM} {K : PySem.W.Frag} {ρ ρ' : Rho} {H H' : Hp} (e : Ext0 K ρ H ρ' H') {ws : List W} {vs : List V} (r : RWs G K ρ H ws vs) : RWs G K ρ' H' ws vs := r.monoT e.toExtT
theorem RW.mono {G : GM} {K : PySem.W.Frag} {ρ ρ' : Rho} {H H' : Hp} (e : Ext K ρ H ρ' H') {w : W} {v : V} (r : RW G K ρ H w v) : RW G K ρ' H' w v := r.mono0 e.toExt0
theorem RWs.mono {G : GM} {K : PySem.W.Frag} {ρ ρ' : Rho} {H H' : Hp} (e : Ext K ρ H ρ' H') {ws : List W} {vs : List V} (r : RWs G K ρ H ws vs) : RWs G K ρ' H' ws vs := r.mono0 e.toExt0
section
variable {G : GM} {K : PySem.W.Frag} {ρ ρ' : Rho} {H H' : Hp}
theorem RWs.length : ∀ {ws : List W} {vs : List V}, RWs G K ρ H ws vs → ws.length = vs.length
  | _, _, .nil => rfl
  | _, _, .cons _ rs => by simp [RWs.length rs]
theorem RWs.append : ∀ {ws us : List W} {vs xs : List V}, RWs G K ρ H ws vs → RWs G K ρ H us xs → RWs G K ρ H (ws ++ us) (vs ++ xs)
  | _, _, _, _, .nil, r => r
  | _, _, _, _, .cons a r, s => .cons a (RWs.append r s)
theorem RWs.reverse : ∀ {ws : List W} {vs : List V}, RWs G K ρ H ws vs → RWs G K ρ H ws.reverse vs.reverse
  | _, _, .nil => .nil
  | _, _, .cons a r => by
    rw [List.reverse_cons, List.reverse_cons]
    exact (RWs.reverse r).append (.cons a .nil)
theorem RWs.take : ∀ (n : Nat) {ws : List W} {vs : List V}, RWs G K ρ H ws vs → RWs G K ρ H (ws.take n) (vs.take n)
  | 0, _, _, _ => .nil
  | _ + 1, _, _, .nil => .nil
  | n + 1, _, _, .cons a r => .cons a (RWs.take n r)
theorem RWs.drop : ∀ (n : Nat) {ws : List W} {vs : List V}, RWs G K ρ H ws vs → RWs G K ρ H (ws.drop n) (vs.drop n)
  | 0, _, _, r => r
  | _ + 1, _, _, .nil => .nil
  | n + 1, _, _, .cons _ r => RWs.drop n r
theorem RWs.nth : ∀ {ws : List W} {vs : List V} {i : Nat} {w : W}, RWs G K ρ H ws vs → nthW ws i = some w → ∃ v, vs[i]? = some v ∧ RW G K ρ H w v
  | _, _, 0, _, .cons a _, h => by cases h; exact ⟨_, rfl, a⟩
  | _, _, i + 1, w, .cons _ r, h => by
    obtain ⟨v, e, q⟩ := RWs.nth (i := i) (w := w) r h
    exact ⟨v, by simpa using e, q⟩
theorem nthW_none {α : Type} : ∀ {ws : List α} {i : Nat}, nthW ws i = none → ws.length ≤ i
  | [], _, _ => Nat.zero_le _
  | _ :: _, 0, h => by cases h
  | _ :: ws, i + 1, h => by
    have := nthW_none (ws := ws) (i := i) h
    simp; omega
theorem RWs.set : ∀ {ws : List W} {vs : List V} {w : W} {v : V} (i : Nat), RW G K ρ H w v → RWs G K ρ H ws vs → RWs G K ρ H (setNth ws i w) (vs.set i v)
  | _, _, _, _, _, _, .nil => .nil
  | _, _, _, _, 0, r, .cons _ rs => .cons r rs
  | _, _, _, _, i + 1, r, .cons a rs => .cons a (RWs.set i r rs)
theorem RWs.split {ws us : List W} {vs : List V} (r : RWs G K ρ H (ws ++ us) vs) : ∃ v1 v2, vs = v1 ++ v2 ∧ RWs G K ρ H ws v1 ∧ RWs G K ρ H us v2 := by
  induction ws generalizing vs with
  | nil => exact ⟨[], vs, rfl, .nil, r⟩
  | cons w ws ih =>
    cases r with
    | cons a r =>
      obtain ⟨v1, v2, rfl, r1, r2⟩ := ih r
      exact ⟨_ :: v1, v2, rfl, .cons a r1, r2⟩
end

/-! ### fields, keys -/
inductive Fs (G : GM) (K : PySem.W.Frag) (ρ : Rho) (H : Hp) : List (Nat × W) → List (Str × V) → Prop
  | nil : Fs G K ρ H [] []
  | cons {f w v fs vs} : G.nf f = true → RW G K ρ H w v → Fs G K ρ H fs vs → Fs G K ρ H ((f, w) :: fs) ((G.fld f, v) :: vs)
inductive KeyR : W → Key → Prop
  | int (i) : KeyR (.int i) (.inl i)
  | str (cs) : KeyR (.str cs) (.inr (toS cs))
inductive Ks (G : GM) (K : PySem.W.Frag) (ρ : Rho) (H : Hp) : List (W × W) → List (Key × V) → Prop
  | nil : Ks G K ρ H [] []
  | cons {k w k' v ks vs} : KeyR k k' → RW G K ρ H w v → Ks G K ρ H ks vs → Ks G K ρ H ((k, w) :: ks) ((k', v) :: vs)
section
variable {G : GM} {K : PySem.W.Frag} {ρ ρ' : Rho} {H H' : Hp}
theorem Fs.monoT (e : ExtT K ρ H ρ' H') : ∀ {fs : List (Nat × W)} {vs : List (Str × V)}, Fs G K ρ H fs vs → Fs G K ρ' H' fs vs
  | _, _, .nil => .nil
  | _, _, .cons l r rs => .cons l (r.monoT e) (Fs.monoT e rs)
theorem Ks.monoT (e : ExtT K ρ H ρ' H') : ∀ {fs : List (W × W)} {vs : List (Key × V)}, Ks G K ρ H fs vs → Ks G K ρ' H' fs vs
  | _, _, .nil => .nil
  | _, _, .cons k r rs => .cons k (r.monoT e) (Ks.monoT e rs)
theorem Fs.mono0 (e : Ext0 K ρ H ρ' H') {fs : List (Nat × W)} {vs : List (Str × V)} (r : Fs G K ρ H fs vs) : Fs G K ρ' H' fs vs := r.monoT e.toExtT
theorem Ks.mono0 (e : Ext0 K ρ H ρ' H') {fs : List (W × W)} {vs : List (Key × V)} (r : Ks G K ρ H fs vs) : Ks G K ρ' H' fs vs := r.monoT e.toExtT
theorem Fs.mono (e : Ext K ρ H ρ' H') {fs : List (Nat × W)} {vs : List (Str × V)} (r : Fs G K ρ H fs vs) : Fs G K ρ' H' fs vs := r.mono0 e.toExt0
theorem Ks.mono (e : Ext K ρ H ρ' H') {fs : List (W × W)} {vs : List (Key × V)} (r : Ks G K ρ H fs vs) : Ks G K ρ' H' fs vs := r.mono0 e.toExt0
end
/-- what stands at an address -/
def ObjR (G : GM) (K : PySem.W.Frag) (ρ : Rho) (H : Hp) (a : Addr) : O → Prop
  | .lst ws => ∃ xs, H a = some (.lst xs) ∧ RWs G K ρ H ws xs
  | .dct kvs => ∃ ks, H a = some (.dK ks) ∧ Ks G K ρ H kvs ks
  | .ins c fs => ∃ C dx vs, (G.ic c = true ∧ G.ca c = some C) ∧ H a = some (.ins C dx vs) ∧ Fs G K ρ H fs vs
  | .exc _ _ => False
  | .urn t => ∃ u v c : Int, H a = some (.lst [.int u, .int v, .int c]) ∧ 0 ≤ c ∧ c ≤ (t : Int)
  | .cells => H a ≠ none ∧ ∃ xs : List Int, SqL K H a (xs.map V.int) ∧ xs.length ≤ 63
  | .lck kvs => ∃ ob ks, H a = some (.frz ob (.dK ks)) ∧ Ks G K ρ H kvs ks

/-! ### the heap -/
theorem T.get_nil (i : Nat) : T.get .nil i = none := rfl
theorem T.get_node (v : Option O) (l r : T) (i : Nat) : T.get (.node v l r) i = if i = 0 then v else if i % 2 = 1 then l.get (i / 2) else r.get (i / 2 - 1) := by
  show (@Bool.rec (fun _ => Option O) (@Bool.rec (fun _ => Option O) (r.get (Nat.pred (Nat.div i 2))) (l.get (Nat.div i 2)) (Nat.beq (Nat.mod i 2) 1)) v (Nat.beq i 0)) = _
  by_cases h : i = 0
  · subst h; rfl
  · have e : Nat.beq i 0 = false := by cases i with | zero => exact absurd rfl h | succ n => rfl
    rw [e, if_neg h]
    by_cases q : i % 2 = 1
    · have e2 : Nat.beq (Nat.mod i 2) 1 = true := by show Nat.beq (i % 2) 1 = true; rw [q]; rfl
      rw [e2, if_pos q]; rfl
    · have e2 : Nat.beq (Nat.mod i 2) 1 = false := by
        show Nat.beq (i % 2) 1 = false
        have : i % 2 = 0 := by omega
        rw [this]; rfl
      rw [e2, if_neg q]; rfl
theorem T.put_zero (o : O) (t : T) (i : Nat) : T.put o 0 t i = t := by cases t <;> rfl
theorem T.put_nil (o : O) (k i : Nat) : T.put o (k + 1) .nil i = if i = 0 then .node (some o) .nil .nil else if i % 2 = 1 then .node none (T.put o k .nil (i / 2)) .nil else .node none .nil (T.put o k .nil (i / 2 - 1)) := by
  rw [T.put]
  by_cases h : i = 0
  · subst h; rfl
  · have e : Nat.beq i 0 = false := by cases i with | zero => exact absurd rfl h | succ n => rfl
    rw [e, if_neg h]
    by_cases q : i % 2 = 1
    · have e2 : Nat.beq (Nat.mod i 2) 1 = true := by show Nat.beq (i % 2) 1 = true; rw [q]; rfl
      rw [e2, if_pos q]; rfl
    · have e2 : Nat.beq (Nat.mod i 2) 1 = false := by
        show Nat.beq (i % 2) 1 = false
        have : i % 2 = 0 := by omega
        rw [this]; rfl
      rw [e2, if_neg q]; rfl
theorem T.put_node (o : O) (k i : Nat) (v : Option O) (l r : T) : T.put o (k + 1) (.node v l r) i = if i = 0 then .node (some o) l r else if i % 2 = 1 then .node v (T.put o k l (i / 2)) r else .node v l (T.put o k r (i / 2 - 1)) := by
  rw [T.put]
  by_cases h : i = 0
  · subst h; rfl
  · have e : Nat.beq i 0 = false := by cases i with | zero => exact absurd rfl h | succ n => rfl
    rw [e, if_neg h]
    by_cases q : i % 2 = 1
    · have e2 : Nat.beq (Nat.mod i 2) 1 = true := by show Nat.beq (i % 2) 1 = true; rw [q]; rfl
      rw [e2, if_pos q]; rfl
    · have e2 : Nat.beq (Nat.mod i 2) 1 = false := by
        show Nat.beq (i % 2) 1 = false
        have : i % 2 = 0 := by omega
        rw [this]; rfl
      rw [e2, if_neg q]; rfl
theorem T.get_put (o : O) : ∀ (k : Nat) (t : T) (i j : Nat), i + 1 < 2 ^ k → T.get (T.put o k t i) j = if j = i then some o else T.get t j
  | 0, t, i, j, h => by simp at h
  | k + 1, t, i, j, h => by
    have hk : 2 ^ (k + 1) = 2 * 2 ^ k := by rw [Nat.pow_succ]; omega
    rw [hk] at h
    have ih := T.get_put o k
    generalize 2 ^ k = m at h ih hk
    have key : ∀ (v : Option O) (l r : T), (∀ j, T.get t j = T.get (.node v l r) j) → (T.put o (k + 1) t i = if i = 0 then .node (some o) l r else if i % 2 = 1 then .node v (T.put o k l (i / 2)) r else .node v l (T.put o k r (i / 2 - 1))) →
        T.get (T.put o (k + 1) t i) j = if j = i then some o else T.get t j := by
      intro v l r ht hp
      rw [hp, ht, T.get_node v l r j]
      by_cases h0 : i = 0
      · subst h0
        rw [if_pos rfl, T.get_node]
        by_cases hj : j = 0
        · simp [hj]
        · simp [hj]
      · rw [if_neg h0]
        by_cases q : i % 2 = 1
        · rw [if_pos q, T.get_node]
          by_cases hj : j = 0
          · rw [if_pos hj, if_neg (by omega), if_pos hj]
          · rw [if_neg hj, if_neg hj]
            by_cases qj : j % 2 = 1
            · have z := ih l (i / 2) (j / 2) (by omega)
              rw [if_pos qj, if_pos qj, z]
              by_cases e : j = i
              · subst e; simp
              · rw [if_neg (by omega), if_neg e]
            · rw [if_neg qj, if_neg qj, if_neg (by omega)]
        · rw [if_neg q, T.get_node]
          by_cases hj : j = 0
          · rw [if_pos hj, if_neg (by omega), if_pos hj]
          · rw [if_neg hj, if_neg hj]
            by_cases qj : j % 2 = 1
            · rw [if_pos qj, if_pos qj, if_neg (by omega)]
            · have z := ih r (i / 2 - 1) (j / 2 - 1) (by omega)
              rw [if_neg qj, if_neg qj, z]
              by_cases e : j = i
              · subst e; simp
              · rw [if_neg (by omega), if_neg e]
    cases t with
    | nil => exact key none .nil .nil (fun j => by rw [T.get_node]; split <;> (try split) <;> rfl) (T.put_nil o k i)
    | node v l r => exact key v l r (fun _ => rfl) (T.put_node o k i v l r)
theorem most_lt : MOST + 1 < 2 ^ 40 := by decide
theorem H.get_put {h : H} {n j : Nat} {o : O} (hn : n < MOST) : (h.put n o).get j = if j = n then some o else h.get j := by
  obtain ⟨m, t⟩ := h
  exact T.get_put o 40 t n j (by have := most_lt; omega)

/-- the evaluator's heap stands for the abstract heap -/
structure RH (G : GM) (K : PySem.W.Frag) (ρ : Rho) (h : FE.H) (H : Hp) : Prop where
  obj : ∀ n o, h.get n = some o → ∃ a, ρ n = some a ∧ ObjR G K ρ H a o
  inj : ∀ n m a, ρ n = some a → ρ m = some a → n = m
  top : ∀ n, h.n ≤ n → ρ n = none ∧ h.get n = none
  most : h.n ≤ MOST
  live : ∀ n a, ρ n = some a → H a ≠ none
/-- slots -/
structure RE (G : GM) (K : PySem.W.Frag) (ρ : Rho) (H : Hp) (e : FE.Env) (σ : L2.St) : Prop where
  len : e.length = σ.length
  val : ∀ i w, eget e i = some w → ∃ v, σ[i]? = some (some v) ∧ RW G K ρ H w v
end FE
end
section
set_option Elab.async false
set_option linter.all false
set_option maxRecDepth 100000
/-! FeZip2: zip of any two sequences, walked and made a list. -/
namespace FE
open PySem PySem.Spec PyProof.Rows L2
open PySem.SeqAt RZ
/-- a list, or a tuple, of xs -/
def SqF (K : PySem.W.Frag) (H : Hp) (f : Bool) (a : Addr) (xs : List V) : Prop := match f with
  | true => SqL K H a xs
  | false => SqT K H a xs
section
variable {X : Cx} {pins : List (Addr × Obj)} {σ : L2.St} {H : Hp} {s : Shared}
theorem sqF_at (I : Inv X pins σ H s) {f : Bool} {a : Addr} {xs : List V} (q : SqF X.K H f a xs) : ∃ its : List Value, Vals xs its ∧ SqAt f a its.toArray s.heap ∧ xs.length ≤ sizeLine ∧ a < s.heap.objs.size := by
  cases f with
  | false =>
    obtain ⟨its, r, p, z⟩ := I.tuple (show SqT X.K H a xs from q)
    have p1 : s.heap.IsTuple a its.toArray := p
    obtain ⟨o, e, _⟩ := p1
    exact ⟨its, r, p, z, Heap.lt_size e⟩
  | true =>
    obtain ⟨its, r, p, z⟩ := I.list (show SqL X.K H a xs from q)
    exact ⟨its, r, p.isList, z, p.lt⟩
theorem sqF_inj (I : Inv X pins σ H s) {f : Bool} {a : Addr} {xs ys : List V} (q : SqF X.K H f a xs) (r : SqF X.K H f a ys) : xs = ys := by
  cases f with
  | false => exact I.tuple_inj (show SqT X.K H a xs from q) r
  | true => exact I.list_inj (show SqL X.K H a xs from q) r
end
/-- zip over what stands at a and b -/
def ItzB (K : PySem.W.Frag) (f g : Bool) (a b : Addr) : It :=
  ⟨fun i H => ∃ (xs ys : List V) (x y : V), SqF K H f a xs ∧ SqF K H g b ys ∧ xs[i]? = some x ∧ ys[i]? = some y,
    fun i H v H' => ∃ T x y, v = .ref T ∧ H T = none ∧ (∃ ob : Obj, ob.dict = none ∧ H' = upd H T (.frz ob (.tup [x, y]))) ∧ (∀ xs, SqF K H f a xs → xs[i]? = some x) ∧ ∀ ys, SqF K H g b ys → ys[i]? = some y,
    fun i H => ∃ xs ys : List V, SqF K H f a xs ∧ SqF K H g b ys ∧ (xs.length ≤ i ∨ ys.length ≤ i)⟩
/-- the pieces of a zip -/
theorem five {z ti tu p q c : Addr} (m : c ∈ [z, ti, tu, p, q]) : c = z ∨ c = ti ∨ c = tu ∨ c = p ∨ c = q := by simpa using m
theorem notfive {z ti tu p q c : Addr} (m : c ∉ [z, ti, tu, p, q]) : c ≠ z ∧ c ≠ ti ∧ c ≠ tu ∧ c ≠ p ∧ c ≠ q := by simpa using m
theorem pn_item {prog : Program} {w : World} {A : Around} {E : Value → Shared → Prop} {s : Shared} {f g : Bool} {z ti tu p q l m : Addr} {i : Nat} {us vs : Array Value} {x y a b : Value} {Q : Option Value → Shared → Prop} (D : ZipApart z ti tu p q l m)
    (mz : IsZip s.heap z ti tu .none) (mi : IsPair s.heap ti (.ref p) (.ref q)) (mo : IsPair s.heap tu a b) (mp : ItAt f p l i s.heap) (mq : ItAt g q m i s.heap) (ml : SqAt f l us s.heap) (mm : SqAt g m vs s.heap) (ex : us[i]? = some x) (ey : vs[i]? = some y)
    (k : ∀ h', IsZip h' z ti tu (rawInt s.heap.objs.size) → IsPair h' tu x y → ItAt f p l (i + 1) h' → ItAt g q m (i + 1) h' → IsPair h' s.heap.objs.size x y → h'.objs.size = s.heap.objs.size + 1 →
      (∀ c o, c ≠ z → c ≠ tu → c ≠ p → c ≠ q → s.heap.get? c = some o → h'.get? c = some o) → Q (some (.ref s.heap.objs.size)) { s with heap := h' }) : wpAny (model prog w) A (pyNext (.ref z)) Q E s := by
  have hT : s.TypeIs (.ref z) "zip" := ⟨_, mz, rfl⟩
  unfold pyNext
  exact wpAny_bind (wpAny_attempt (wpAny_callSpecial?_slot (name := Str.ofString "__next__") hT F.slot_zip_next (wpAny_call_entry F.slot_zip_next hT F.entry_zip_next
    (zs_item D mz mi mo mp mq ml mm ex ey fun h' c1 c2 c3 c4 c5 c6 c7 => wpAny_pure (k h' c1 c2 c3 c4 c5 c6 c7)) (F.args_zip_next_1 _))))
theorem pn_end {prog : Program} {w : World} {A : Around} {E : Value → Shared → Prop} {s : Shared} {f g : Bool} {z ti tu p q l m : Addr} {i : Nat} {us vs : Array Value} {a b : Value} {Q : Option Value → Shared → Prop} (hh : A.handled = none) (D : ZipApart z ti tu p q l m)
    (mz : IsZip s.heap z ti tu .none) (mi : IsPair s.heap ti (.ref p) (.ref q)) (mo : IsPair s.heap tu a b) (mp : ItAt f p l i s.heap) (mq : ItAt g q m i s.heap) (ml : SqAt f l us s.heap) (mm : SqAt g m vs s.heap) (en : us[i]? = none ∨ vs[i]? = none)
    (k : ∀ h', (∀ c o, c ≠ z → c ≠ tu → c ≠ p → c ≠ q → s.heap.get? c = some o → h'.get? c = some o) → Q none { s with heap := h' }) : wpAny (model prog w) A (pyNext (.ref z)) Q E s := by
  have hT : s.TypeIs (.ref z) "zip" := ⟨_, mz, rfl⟩
  unfold pyNext
  refine wpAny_bind (wpAny_attempt (wpAny_callSpecial?_slot (name := Str.ofString "__next__") hT F.slot_zip_next (wpAny_call_entry F.slot_zip_next hT F.entry_zip_next
    (zs_end hh D mz mi mo mp mq ml mm en fun h' e kp ⟨o, ho, hc⟩ => ?_) (F.args_zip_next_1 _))))
  exact wpAny_bind (wpAny_isInstance (T := "StopIteration") (b := true) ⟨o, ho, hc⟩ isSubtype_stop (wpAny_pure (k h' kp)))
theorem turn_zb {P : Program} {w : World} {K : PySem.W.Frag} {elts : List Expr} {kk : Nat} {tpos : Pos} {f g : Bool} {a b z ti tu p q : Addr} (D : ZipApart z ti tu p q a b) :
    Turn P w K (.Tuple elts kk tpos) (ItzB K f g a b) [z, ti, tu, p, q] z (fun i h => IsZip h z ti tu .none ∧ IsPair h ti (.ref p) (.ref q) ∧ (∃ x y, IsPair h tu x y) ∧ ItAt f p a i h ∧ ItAt g q b i h) where
  mem := by simp
  obj := fun i h ⟨t1, t2, ⟨x, y, t3⟩, t4, t5⟩ c hc => by
    have of : ∀ {f : Bool} {p l : Addr}, ItAt f p l i h → ∃ o, h.get? p = some o ∧ ∀ v, o.data ≠ .cell v := fun {f p l} t => by
      cases f
      · obtain ⟨o, e, _, d⟩ := (show h.IsTupleIter p l i from t)
        exact ⟨o, e, fun v z => by rw [d] at z; cases z⟩
      · obtain ⟨o, e, _, d⟩ := (show h.IsListIter p l i from t)
        exact ⟨o, e, fun v z => by rw [d] at z; cases z⟩
    rcases five hc with e | e | e | e | e
    · rw [e]; exact ⟨_, t1, fun v z => nomatch z⟩
    · rw [e]; exact ⟨_, t2, fun v z => nomatch z⟩
    · rw [e]; exact ⟨_, t3, fun v z => nomatch z⟩
    · rw [e]; exact of t4
    · rw [e]; exact of t5
  keep := fun i h h' ⟨t1, t2, ⟨x, y, t3⟩, t4, t5⟩ k =>
    ⟨k z (by simp) _ t1, k ti (by simp) _ t2, ⟨x, y, k tu (by simp) _ t3⟩, t4.by fun o e => k p (by simp) o e, t5.by fun o e => k q (by simp) o e⟩
  item := by
    intro X hP hw hK hc i pins s σ H E I hf ⟨t1, t2, ⟨x0, y0, t3⟩, t4, t5⟩ ⟨xs, ys, x, y, qx, qy, ex, ey⟩
    subst hP hw hK
    obtain ⟨its, rv, pa, _⟩ := sqF_at I qx
    obtain ⟨its2, rv2, pb, _⟩ := sqF_at I qy
    obtain ⟨u, hu, ru⟩ := rv.get ex
    obtain ⟨u2, hu2, ru2⟩ := rv2.get ey
    have zl : z < s.heap.objs.size := Heap.lt_size t1
    refine pn_item D t1 t2 t3 t4 t5 pa pb (x := u) (y := u2) (by simpa using hu) (by simpa using hu2) fun h' z' tu' p' q' T' n' k' => ?_
    refine ⟨_, rfl, wpAny_letOwnedTupleGo_zip (s := { s with heap := h' }) z' fun h2 z2 sb => ?_⟩
    have T2 : h2.get? s.heap.objs.size = some { cls := .type "tuple", data := .seq #[u, u2] } := (sb.2 _ (Nat.ne_of_gt zl)).trans T'
    have new : ObjOk X.prog X.w (upd H s.heap.objs.size (.frz { cls := .type "tuple", data := .seq #[u, u2] } (.tup [x, y]))) h2 s.heap.objs.size (.frz { cls := .type "tuple", data := .seq #[u, u2] } (.tup [x, y])) := ⟨T2, by show 2 ≤ sizeLine; decide, [u, u2], .cons ru (.cons ru2 .nil), ⟨_, T2, rfl, _, rfl⟩⟩
    have I1 : Inv X pins σ (upd H s.heap.objs.size (.frz { cls := .type "tuple", data := .seq #[u, u2] } (.tup [x, y]))) { s with heap := h2 } := I.turnedNew (t' := s.toks) (ch := [z, ti, tu, p, q]) (fun c o n e => (sb.2 c (notfive n).1).trans (k' c o (notfive n).1 (notfive n).2.2.1 (notfive n).2.2.2.1 (notfive n).2.2.2.2 e)) hf (Nat.le_refl _) new
    refine ⟨.ref s.heap.objs.size, _, I1, rfl, ⟨_, x, y, rfl, I.hok.fresh (Nat.le_refl _), ⟨_, rfl, rfl⟩, fun l hl => by rw [sqF_inj I hl qx]; exact ex, fun l hl => by rw [sqF_inj I hl qy]; exact ey⟩, ⟨z2, ?_, ⟨u, u2, ?_⟩, ?_, ?_⟩, fun c hcm => ?_⟩
    · exact (sb.2 _ D.TIz).trans (k' _ _ D.TIz D.TITO D.TIi1 D.TIi2 t2)
    · exact (sb.2 _ D.TOz).trans tu'
    · exact p'.by fun o e => (sb.2 _ D.i1z).trans e
    · exact q'.by fun o e => (sb.2 _ D.i2z).trans e
    · have lt : c < s.heap.objs.size := by
        rcases five hcm with e | e | e | e | e
        · rw [e]; exact zl
        · rw [e]; exact Heap.lt_size t2
        · rw [e]; exact Heap.lt_size t3
        · rw [e]; exact t4.lt
        · rw [e]; exact t5.lt
      rw [upd_ne (Nat.ne_of_lt lt)]
      exact (hf c hcm).1
  done := by
    intro X hP hw hK hc i pins s σ H E I hf ⟨t1, t2, ⟨x0, y0, t3⟩, t4, t5⟩ ⟨xs, ys, qx, qy, hend⟩
    subst hP hw hK
    obtain ⟨its, rv, pa, _⟩ := sqF_at I qx
    obtain ⟨its2, rv2, pb, _⟩ := sqF_at I qy
    have l1 := rv.length
    have l2 := rv2.length
    have en : its.toArray[i]? = none ∨ its2.toArray[i]? = none := by
      rcases hend with e | e
      · exact .inl (by simp; omega)
      · exact .inr (by simp; omega)
    exact pn_end (I.ok.hd hc) D t1 t2 t3 t4 t5 pa pb en fun h' k' => ⟨rfl, I.turnedL (t' := s.toks) (ch := [z, ti, tu, p, q]) (fun c o n e => k' c o (notfive n).1 (notfive n).2.2.1 (notfive n).2.2.2.1 (notfive n).2.2.2.2 e) hf⟩
  self := fun A i s Q E st h => wpAny_pyIter_zip st.1 h
def iZb (K : PySem.W.Frag) (ta : TA) : TI := fun σ H R => ta σ H fun vs H1 => ∃ f g a b xs ys, vs = [.ref a, .ref b] ∧ SqF K H1 f a xs ∧ SqF K H1 g b ys ∧ R (ItzB K f g a b) H1
theorem five_ge {n c : Addr} (m : c ∈ [n + 4, n + 2, n + 3, n, n + 1]) : n ≤ c := by
  rcases five m with e | e | e | e | e <;> rw [e] <;> first | exact Nat.le_refl _ | exact Nat.le_add_right _ _
theorem pi_zb {X : Cx} {e e2 : Expr} {ta : TA} {p pos tpos : Pos} {elts : List Expr} {kk : Nat} (hg : Gl X "zip") (hm : X.mg "zip" = none) (ha : PA X [e, e2] ta)
    (hs : starEach [e, e2] X.env = (false, eval e X.env) :: starEach [e2] X.env := by rfl) (hpl : (backTo pos (starEach [e2] X.env)).any (·.1) = false := by rfl) :
    PI X (.Tuple elts kk tpos) (.Call (.Name "zip" p) [e, e2] [] pos) (iZb X.K ta) := by
  refine ⟨fun pins s σ H R I h => ?_⟩
  have run := ha.run pos pins s σ H _ I (show ta σ H fun vs H1 => ∃ f g a b xs ys, vs = [.ref a, .ref b] ∧ SqF X.K H1 f a xs ∧ SqF X.K H1 g b ys ∧ R (ItzB X.K f g a b) H1 from h)
  refine Call_ (ld_blt I hg hm PyProof.Rows.boot_zip (PyProof.Rows.callWith_type1 (thn run ?_) hs hpl))
  intro us s1 z
  obtain ⟨vs, H1, I1, r1, f, g, a, b, xs, ys, ex, qx, qy, q1⟩ := z
  subst ex
  match us, r1 with
  | [_, _], .cons r (.cons r' .nil) =>
    cases r
    cases r'
    obtain ⟨its, rv, pa, _, la⟩ := sqF_at I1 qx
    obtain ⟨its2, rv2, pb, _, lb⟩ := sqF_at I1 qy
    refine call_zb pa pb fun h' c1 c2 c3 c4 c5 c6 c7 => wpAny_pyIter_zip c1 ?_
    have I2 : Inv X pins σ H1 { s1 with heap := h' } := I1.kept (t' := s1.toks) c7
    exact ⟨s1.heap.objs.size + 4, [s1.heap.objs.size + 4, s1.heap.objs.size + 2, s1.heap.objs.size + 3, s1.heap.objs.size, s1.heap.objs.size + 1], _, _, H1, rfl, I2, turn_zb (PySem.W.ktu_apart s1.heap.objs.size a b la lb), ⟨c1, c2, ⟨_, _, c3⟩, c4, c5⟩,
      fun c hcm => I1.fpOk (five_ge hcm) (I1.hok.fresh (five_ge hcm)), q1⟩
/-! ### list(zip(..)) -/
/-- new pairs seen -/
def lay2 (f : Addr → List V → HO) : Hp → List Addr → List V → List V → Hp
  | H, a :: as, x :: xs, y :: ys => lay2 f (upd H a (f a [x, y])) as xs ys
  | H, _, _, _ => H
theorem lay2_off {f : Addr → List V → HO} {c : Addr} : ∀ {as : List Addr} {xs ys : List V} {H : Hp}, c ∉ as → lay2 f H as xs ys c = H c
  | [], _, _, _, _ => rfl
  | _ :: _, [], _, _, _ => rfl
  | _ :: _, _ :: _, [], _, _ => rfl
  | a :: as, x :: xs, y :: ys, H, n => by
    show lay2 f (upd H a (f a [x, y])) as xs ys c = H c
    rw [lay2_off fun z => n (List.mem_cons_of_mem _ z), upd_ne fun z => n (by rw [z]; exact List.mem_cons_self)]
theorem lay2_at {f : Addr → List V → HO} : ∀ {as : List Addr} {xs ys : List V} {H : Hp} {j : Nat} {t : Addr} {x y : V}, as.Pairwise (· < ·) → as[j]? = some t → xs[j]? = some x → ys[j]? = some y → lay2 f H as xs ys t = some (f t [x, y])
  | [], _, _, _, _, _, _, _, _, e, _, _ => by simp at e
  | _ :: _, [], _, _, _, _, _, _, _, _, e, _ => by simp at e
  | _ :: _, _ :: _, [], _, _, _, _, _, _, _, _, e => by simp at e
  | a :: as, x :: xs, y :: ys, H, 0, t, _, _, r, e1, e2, e3 => by
    cases e1; cases e2; cases e3
    have n : a ∉ as := fun z => Nat.lt_irrefl _ ((List.pairwise_cons.mp r).1 a z)
    show lay2 f (upd H a (f a [x, y])) as xs ys a = _
    rw [lay2_off n, upd_same]
  | a :: as, x :: xs, y :: ys, H, j + 1, t, _, _, r, e1, e2, e3 => lay2_at (H := upd H a (f a [x, y])) (List.pairwise_cons.mp r).2 (by simpa using e1) (by simpa using e2) (by simpa using e3)
/-- the pair's own object -/
def lf (h : Heap) (a : Addr) (xs : List V) : HO := .frz ((h.get? a).getD { cls := .none, data := .fields #[] }) (.tup xs)
theorem lf_at {h : Heap} {a : Addr} {x y : Value} (e : IsPair h a x y) : h.get? a = some ((h.get? a).getD { cls := .none, data := .fields #[] }) := by
  have e : h.get? a = some _ := e
  rw [e]; rfl
theorem lf_dict {h : Heap} {a : Addr} {x y : Value} (e : IsPair h a x y) : ((h.get? a).getD { cls := .none, data := .fields #[] }).dict = none := by
  have e : h.get? a = some _ := e
  rw [e]; rfl
theorem vals_refs2 : ∀ as : List Addr, Vals (as.map V.ref) (as.map Value.ref)
  | [] => .nil
  | _ :: as => .cons rfl (vals_refs2 as)
theorem vals_back : ∀ {xs : List V} {us : List Value}, Vals xs us → ∀ {i : Nat} {u : Value}, us[i]? = some u → ∃ x, xs[i]? = some x ∧ RelV x u
  | _, _, .nil, i, u, h => by simp at h
  | _, _, .cons r t, 0, u, h => by cases h; exact ⟨_, rfl, r⟩
  | _, _, .cons r t, i + 1, u, h => vals_back t (by simpa using h)
/-- what list(zip(..)) gives -/
def tLz (K : PySem.W.Frag) (ta : TA) : TE := fun σ H Q => ta σ H fun vs H1 => ∃ f g a b xs ys, vs = [.ref a, .ref b] ∧ SqF K H1 f a xs ∧ SqF K H1 g b ys ∧
  ∀ (H' : Hp) (r : Addr) (ts : List Addr), (∀ c, H1 c ≠ none → H' c = H1 c) → H1 r = none → H' r = some (.lst (ts.map V.ref)) → ts.length = min xs.length ys.length → (∀ (j : Nat) t x y, ts[j]? = some t → xs[j]? = some x → ys[j]? = some y → PTu H' t [x, y]) → Q (.ref r) H'
section
variable {X : Cx} {e e2 : Expr} {ta : TA} {p p2 q pos : Pos}
theorem offs {n a b m : Nat} (la : a < n) (lb : b < n) (e : m = n + 5) : n + 4 ≠ m ∧ n + 2 ≠ m ∧ n + 3 ≠ m ∧ n ≠ m ∧ n + 1 ≠ m ∧ a ≠ m ∧ b ≠ m := by omega
theorem lts {n m : Nat} (e : m = n + 5) : n + 3 < m ∧ n < m ∧ n + 1 < m := by omega
theorem nes {d n : Nat} (h : d < n) : d ≠ n + 4 ∧ d ≠ n + 3 ∧ d ≠ n ∧ d ≠ n + 1 := by omega
theorem zip_laid {pins : List (Addr × Obj)} {σ : L2.St} {H : Hp} {s : Shared} {h' : Heap} {tk : Nat} {xs ys : List V} {us vs : List Value} {acc : Array Value} {c : Nat} {as : List Addr} {S : Addr} (I : Inv X pins σ H s) (hS0 : s.heap.objs.size ≤ S) (hz : xs.length ≤ sizeLine) (vx : Vals xs us) (vy : Vals ys vs)
    (hk : ∀ b o, s.heap.get? b = some o → h'.get? b = some o) (hS : h'.get? S = some { cls := .type "list", data := .seq acc c }) (hl : as.length = min us.length vs.length) (G : ZG us.toArray vs.toArray S h' as) (ha : acc.toList = as.map Value.ref) :
    ∃ H' : Hp, (∀ c, H c ≠ none → H' c = H c) ∧ H S = none ∧ H' S = some (.lst (as.map V.ref)) ∧ as.length = min xs.length ys.length ∧ (∀ (j : Nat) t x y, as[j]? = some t → xs[j]? = some x → ys[j]? = some y → PTu H' t [x, y]) ∧ Inv X pins σ H' { s with heap := h', toks := tk } := by
  have lx := vx.length
  have ly := vy.length
  have hlen : as.length ≤ sizeLine := by omega
  have Sn : S ∉ as := fun z => Nat.lt_irrefl _ (G.up _ z)
  have nw : ∀ t ∈ as, H t = none := fun t ht => I.hok.fresh (Nat.le_of_lt (Nat.lt_of_le_of_lt hS0 (G.up t ht)))
  have nS : H S = none := I.hok.fresh hS0
  have eS : lay2 (lf h') (upd H S (.lst (as.map V.ref))) as xs ys S = some (.lst (as.map V.ref)) := by rw [lay2_off Sn, upd_same]
  have off : ∀ b, b ∉ as → b ≠ S → lay2 (lf h') (upd H S (.lst (as.map V.ref))) as xs ys b = H b := fun b h1 h2 => by rw [lay2_off h1, upd_ne h2]
  have kp : ∀ c, H c ≠ none → lay2 (lf h') (upd H S (.lst (as.map V.ref))) as xs ys c = H c := fun c hc => off c (fun z => hc (nw c z)) fun z => hc (by rw [z]; exact nS)
  have kp2 : ∀ b o, H b = some o → lay2 (lf h') (upd H S (.lst (as.map V.ref))) as xs ys b = some o := fun b o e => (kp b (by rw [e]; exact fun z => nomatch z)).trans e
  have low : ∀ b o, s.heap.get? b = some o → b ∉ as ∧ b ≠ S := fun b o e =>
    ⟨fun z => Nat.lt_irrefl b (Nat.lt_of_lt_of_le (Heap.lt_size e) (Nat.le_trans hS0 (Nat.le_of_lt (G.up b z)))), Nat.ne_of_lt (Nat.lt_of_lt_of_le (Heap.lt_size e) hS0)⟩
  have tup : ∀ t ∈ as, ∃ x y u v, lay2 (lf h') (upd H S (.lst (as.map V.ref))) as xs ys t = some (lf h' t [x, y]) ∧ RelV x u ∧ RelV y v ∧ IsPair h' t u v := fun t ht => by
    obtain ⟨j, ej⟩ := List.mem_iff_getElem?.mp ht
    obtain ⟨u, v, e1, e2, e3⟩ := G.at_ j t ej
    obtain ⟨x, f1, r1⟩ := vals_back vx (by simpa using e1)
    obtain ⟨y, f2, r2⟩ := vals_back vy (by simpa using e2)
    exact ⟨x, y, u, v, lay2_at G.rise ej f1 f2, r1, r2, e3⟩
  refine ⟨lay2 (lf h') (upd H S (.lst (as.map V.ref))) as xs ys, kp, nS, eS, by omega, fun j t x y e1 e2 e3 => ?_, ?_⟩
  · obtain ⟨u, v, _, _, e⟩ := G.at_ j t e1
    exact ⟨_, lf_dict e, lay2_at G.rise e1 e2 e3⟩
  refine I.call' (ch := []) rfl ⟨fun b o e _ _ _ => hk b o e, fun b o e _ _ _ => ⟨o.slots, hk b o e⟩, fun b o e n _ => ?_, fun b o e _ => ⟨o, hk b o e⟩, fun b xs e => kp2 b _ e, fun b o u e => kp2 b _ e, fun b ps e => ⟨#[], by rw [kp2 b _ e]; simp⟩⟩ (fun b u e => ?_) I.bare fun b z => by simp at z
  · obtain ⟨z1, z2⟩ := low b o e
    rw [off b z1 z2]
    exact n
  · by_cases c1 : b ∈ as
    · obtain ⟨x, y, u', v', f1, r1, r2, f2⟩ := tup b c1
      rw [f1] at e
      cases e
      exact ⟨lf_at f2, by show 2 ≤ sizeLine; decide, [u', v'], .cons r1 (.cons r2 .nil), ⟨_, f2, rfl, _, rfl⟩⟩
    · by_cases c2 : b = S
      · rw [c2] at e ⊢
        rw [eS] at e
        cases e
        refine ⟨by rw [List.length_map]; exact hlen, acc.toList, c, by rw [ha]; exact vals_refs2 as, ?_⟩
        rw [Array.toArray_toList]
        exact hS
      · rw [off b c1 c2] at e
        exact (I.hok b u e).stay (fun d v _ y => hk d v y) (fun d y => kp2 d _ y) fun d xs y => kp2 d _ y
theorem pe_listZip (hc : X.calm = true) (hg : Gl X "list") (hm : X.mg "list" = none) (hg2 : Gl X "zip") (hm2 : X.mg "zip" = none) (ha : PA X [e, e2] ta)
    (hs : starEach [.Call (.Name "zip" p2) [e, e2] [] q] X.env = (false, eval (.Call (.Name "zip" p2) [e, e2] [] q) X.env) :: starEach [] X.env := by rfl)
    (hs2 : starEach [e, e2] X.env = (false, eval e X.env) :: starEach [e2] X.env := by rfl) (hpl : (backTo q (starEach [e2] X.env)).any (·.1) = false := by rfl) :
    PE X (.Call (.Name "list" p) [.Call (.Name "zip" p2) [e, e2] [] q] [] pos) (tLz X.K ta) := by
  refine ⟨fun pins s σ H Q I h => ?_⟩
  refine Call_ (ld_blt I hg hm boot_list (PyProof.Rows.callWith_type1 ?_ hs rfl))
  rw [hs]
  show wpAny _ _ (spliced ((false, eval (.Call (.Name "zip" p2) [e, e2] [] q) X.env) :: backTo pos (starEach [] X.env))) _ _ s
  refine Calls.spliced_cons ?_
  have run := ha.run q pins s σ H _ I (show ta σ H _ from h)
  refine Call_ (ld_blt I hg2 hm2 PyProof.Rows.boot_zip (PyProof.Rows.callWith_type1 (thn run ?_) hs2 hpl))
  intro ws s1 z
  obtain ⟨vs, H1, I1, r1, f, g, a, b, xs, ys, ex, qx, qy, q1⟩ := z
  subst ex
  match ws, r1 with
  | [_, _], .cons r (.cons r' .nil) =>
    cases r
    cases r'
    obtain ⟨its, rv, pa, zx, la⟩ := sqF_at I1 qx
    obtain ⟨its2, rv2, pb, _, lb⟩ := sqF_at I1 qy
    refine call_zb pa pb fun h' c1 c2 c3 c4 c5 c6 c7 => Calls.spliced_nil ?_
    have lx := rv.length
    have D := PySem.W.ktu_apart s1.heap.objs.size a b la lb
    have Z : ZSt f g h'.objs.size (s1.heap.objs.size + 4) (s1.heap.objs.size + 2) (s1.heap.objs.size + 3) s1.heap.objs.size (s1.heap.objs.size + 1) a b its.toArray its2.toArray 0 h' :=
      ⟨D, c2, ⟨_, _, c3⟩, c4, c5, pa.by fun o x => c7 a o x, pb.by fun o x => c7 b o x, .inl c1, offs la lb c6⟩
    refine zl_call (s := { s1 with heap := h' }) (I1.ok.hd hc) c1 (by rw [List.size_toArray, List.size_toArray]; omega) (lts c6) Z fun h2 tk acc c as kp hS hl G hac => ?_
    obtain ⟨H', k1, k2, k3, k4, k5, J⟩ := zip_laid (tk := tk) I1 (Nat.le_of_lt (lts c6).2.1) zx rv rv2 (fun d o x => kp d o (nes (Heap.lt_size x)).1 (nes (Heap.lt_size x)).2.1 (nes (Heap.lt_size x)).2.2.1 (nes (Heap.lt_size x)).2.2.2 (c7 d o x)) hS (by simpa using hl) G hac
    exact ⟨.ref _, H', J, rfl, q1 H' _ as k1 k2 k3 k4 k5⟩
end
end FE
end
section
set_option Elab.async false
set_option linter.all false
set_option maxRecDepth 100000
/-! FeEq: == and < of what stands for the evaluator's values, stopping at the first difference. -/
namespace FE
open PySem PySem.Spec PyProof.Rows L2
open PySem.SeqAt PySem.MeetsSeq3 PySem.SeqRoads2

/-- item by item, to the first difference -/
inductive Eqs (A : Around) (s : Shared) : List Value → List Value → Bool → Prop
  | nil : Eqs A s [] [] true
  | short {y ys} : Eqs A s [] (y :: ys) false
  | long {x xs} : Eqs A s (x :: xs) [] false
  | same {x y xs ys b} : EqAt A s x y true → Eqs A s xs ys b → Eqs A s (x :: xs) (y :: ys) b
  | other {x y xs ys} : EqAt A s x y false → Eqs A s (x :: xs) (y :: ys) false
theorem Eqs.len {A : Around} {s : Shared} : ∀ {xs ys : List Value}, Eqs A s xs ys true → xs.length = ys.length
  | _, _, .nil => rfl
  | _, _, .same _ r => by simp [r.len]
/-- the tuples' own == -/
theorem tup_eqs (l m : Addr) (xs ys : Array Value) (i j : Nat) (d1 d2 : Option Addr) (s1 s2 : Array (Option Value)) (b : Bool) :
    Meets (Builtin.«tuple.__eq__» ⟨[.ref l, .ref m], []⟩) (fun A R s => s.heap.get? l = some { cls := .type "tuple", dict := d1, data := .seq xs i, slots := s1 } ∧
      s.heap.get? m = some { cls := .type "tuple", dict := d2, data := .seq ys j, slots := s2 } ∧ Eqs A.in1 s xs.toList ys.toList b ∧ R (.ok (.ret (.bool b))) s) :=
  .of_wp fun prog w A R st hyp => by
    obtain ⟨hp, gs, dr, tk, os⟩ := st
    obtain ⟨e1, e2, eqs, fin⟩ := hyp
    have sub := AutoSeq1.sub_tuple_tuple
    wp_walk using wpAny_loadPart' e1, wpAny_loadPart' e2, wpAny_forIn_list _ (fun rest acc st' => acc.1 = none ∧ st' = ⟨hp, gs, dr, tk, os⟩ ∧
      ∃ us vs, rest = us.zip vs ∧ Eqs A.in1 ⟨hp, gs, dr, tk, os⟩ us vs b ∧ (us.length == vs.length) = (xs.size == ys.size)) _
    case turn =>
      rintro ⟨y, x⟩ rest acc st' ⟨none_, rfl, us, vs, zip, eqs', sz⟩
      cases eqs' with
      | nil => cases zip
      | short => cases zip
      | long => cases zip
      | same h r =>
        rw [List.zip_cons_cons] at zip
        injection zip with z1 z2
        cases z1
        refine wpAny_bind (h prog w _ _ ?_)
        wp_walk
        exact ⟨rfl, rfl, _, _, z2, r, by simpa using sz⟩
      | other h =>
        rw [List.zip_cons_cons] at zip
        injection zip with z1 z2
        cases z1
        refine wpAny_bind (h prog w _ _ ?_)
        wp_walk
        exact ⟨_, rfl, fin⟩
    case fin =>
      rintro ⟨a1, a2⟩ st' ⟨none_, rfl, us, vs, zip, eqs', sz⟩
      simp only at none_
      subst none_
      wp_walk
      refine ⟨_, rfl, ?_⟩
      have key : (xs.size == ys.size) = b := by
        rw [← sz]
        cases eqs' with
        | nil => rfl
        | short => rfl
        | long => rfl
        | same h r => cases zip
        | other h => cases zip
      simpa [Builtin.Tuple.tupleCompareSizes, key] using fin
    case h => exact ⟨rfl, rfl, xs.toList, ys.toList, rfl, eqs, by simp⟩
theorem rc_tups {A : Around} {s : Shared} {l m : Addr} {xs ys : Array Value} {b : Bool} (hl : s.heap.IsTuple l xs) (hm : s.heap.IsTuple m ys) (room : A.units < cLine) (h : Eqs A.in1 s xs.toList ys.toList b) :
    RcAt A s (.ref l) (.ref m) b := fun prog w E Q q => by
  obtain ⟨⟨c1, d1, t1, s1⟩, o1, k1, n1, u1⟩ := id hl
  obtain ⟨⟨c2, d2, t2, s2⟩, o2, k2, n2, u2⟩ := id hm
  simp only at k1 k2 u1 u2
  subst k1 k2 u1 u2
  exact richCompare_meets_room (op := .Eq) ⟨_, o1, rfl⟩ ⟨_, o2, rfl⟩ F.slot_tuple_eq F.entry_tuple_eq (F.args_tuple_eq_2 _ _) (tup_eqs l m xs ys n1 n2 d1 d2 s1 s2 b)
    ⟨o1, o2, h, ⟨(fun x => nomatch x), q⟩⟩ room
/-- the lists' own loop -/
theorem lst_eqs_go (l m : Addr) (xs ys : Array Value) (i j : Nat) (d1 d2 : Option Addr) (s1 s2 : Array (Option Value)) (b : Bool) (sz : xs.size = ys.size) (k : Nat) :
    ∀ at_ : Nat, xs.size - at_ = k → Meets (Builtin.«list.__eq__.loop» ⟨[.ref l, .ref m, rawInt at_, rawInt 2], []⟩) (fun A R s => s.heap.get? l = some { cls := .type "list", dict := d1, data := .seq xs i, slots := s1 } ∧
      s.heap.get? m = some { cls := .type "list", dict := d2, data := .seq ys j, slots := s2 } ∧ Eqs A.in1 s (xs.toList.drop at_) (ys.toList.drop at_) b ∧ R (.ok (.ret (.bool b))) s) := by
  induction k with
  | zero =>
    intro at_ hk prog w A R st hyp
    obtain ⟨hp, gs, dr, tk, os⟩ := st
    obtain ⟨e1, e2, eqs, fin⟩ := hyp
    wp_walk using wpAny_loadPart' e1, wpAny_loadPart' e2
    have g1 : xs[((at_ : Nat) : Int).toNat]? = none := by simp; omega
    have g2 : ys[((at_ : Nat) : Int).toNat]? = none := by simp; omega
    have hb : b = true := by
      rw [List.drop_of_length_le (by simp; omega), List.drop_of_length_le (by simp; omega)] at eqs
      cases eqs; rfl
    rw [g1, g2]
    wp_walk using wpAny_loadPart' e1, wpAny_loadPart' e2
    show R (.ok (.ret (.bool (xs.size == ys.size)))) _
    rw [sz]
    subst hb
    simpa using fin
  | succ k ih =>
    intro at_ hk prog w A R st hyp
    obtain ⟨hp, gs, dr, tk, os⟩ := st
    obtain ⟨e1, e2, eqs, fin⟩ := hyp
    wp_walk using wpAny_loadPart' e1, wpAny_loadPart' e2
    have l1 : at_ < xs.size := by omega
    have l2 : at_ < ys.size := by omega
    have g1 : xs[((at_ : Nat) : Int).toNat]? = some xs[at_] := by simp [l1]
    have g2 : ys[((at_ : Nat) : Int).toNat]? = some ys[at_] := by simp [l2]
    have dx : xs.toList.drop at_ = xs[at_] :: xs.toList.drop (at_ + 1) := by rw [List.drop_eq_getElem_cons (by simpa using l1)]; simp
    have dy : ys.toList.drop at_ = ys[at_] :: ys.toList.drop (at_ + 1) := by rw [List.drop_eq_getElem_cons (by simpa using l2)]; simp
    have cast : ((at_ : Int) + 1) = ((at_ + 1 : Nat) : Int) := by push_cast; rfl
    rw [dx, dy] at eqs
    rw [g1, g2]
    cases eqs with
    | same h r =>
      refine wpAny_bind (h prog w _ _ ?_)
      wp_walk
      rw [cast]
      refine ⟨plainId_quiet plain_eq_loop _, codeAny_builtin entry_eq_loop ?_⟩
      rw [Around.under_plainId plain_eq_loop _]
      exact ih (at_ + 1) (by omega) prog w A R _ ⟨e1, e2, r, fin⟩
    | other h =>
      refine wpAny_bind (h prog w _ _ ?_)
      wp_walk using wpAny_loadPart' e1, wpAny_loadPart' e2
      rw [g1, g2]
      wp_walk
      exact fin
theorem lst_eqs (l m : Addr) (xs ys : Array Value) (i j : Nat) (d1 d2 : Option Addr) (s1 s2 : Array (Option Value)) (b : Bool) (sz : xs.size = ys.size) :
    Meets (Builtin.«list.__eq__» ⟨[.ref l, .ref m], []⟩) (fun A R s => s.heap.get? l = some { cls := .type "list", dict := d1, data := .seq xs i, slots := s1 } ∧
      s.heap.get? m = some { cls := .type "list", dict := d2, data := .seq ys j, slots := s2 } ∧ Eqs A.in1 s xs.toList ys.toList b ∧ R (.ok (.ret (.bool b))) s) := by
  intro prog w A R st hyp
  obtain ⟨hp, gs, dr, tk, os⟩ := st
  obtain ⟨e1, e2, eqs, fin⟩ := hyp
  have sub := AutoSeq1.sub_list_list
  have ne : ¬ (xs.size != ys.size) = true := by simp [sz]
  wp_walk using wpAny_loadPart' e1, wpAny_loadPart' e2
  refine ⟨plainId_quiet plain_eq_loop _, codeAny_builtin entry_eq_loop ?_⟩
  rw [Around.under_plainId plain_eq_loop _]
  exact lst_eqs_go l m xs ys i j d1 d2 s1 s2 b sz _ 0 rfl prog w A R _ ⟨e1, e2, eqs, fin⟩
theorem Eqs.false_of {A : Around} {s : Shared} : ∀ {xs ys : List Value} {b : Bool}, Eqs A s xs ys b → xs.length ≠ ys.length → b = false
  | _, _, _, .nil, h => absurd rfl h
  | _, _, _, .short, _ => rfl
  | _, _, _, .long, _ => rfl
  | _, _, _, .same _ r, h => r.false_of fun e => h (by simp [e])
  | _, _, _, .other _, _ => rfl
theorem rc_lsts {A : Around} {s : Shared} {l m : Addr} {xs ys : Array Value} {b : Bool} (hl : s.heap.IsList l xs) (hm : s.heap.IsList m ys) (room : A.units < cLine) (h : Eqs A.in1 s xs.toList ys.toList b) :
    RcAt A s (.ref l) (.ref m) b := by
  by_cases sz : xs.size = ys.size
  · intro prog w E Q q
    obtain ⟨⟨c1, d1, t1, s1⟩, o1, k1, n1, u1⟩ := id hl
    obtain ⟨⟨c2, d2, t2, s2⟩, o2, k2, n2, u2⟩ := id hm
    simp only at k1 k2 u1 u2
    subst k1 k2 u1 u2
    exact richCompare_meets_room (op := .Eq) ⟨_, o1, rfl⟩ ⟨_, o2, rfl⟩ F.slot_list_eq F.entry_list_eq (F.args_list_eq_2 _ _) (lst_eqs l m xs ys n1 n2 d1 d2 s1 s2 b sz)
      ⟨o1, o2, h, ⟨(fun x => nomatch x), q⟩⟩ room
  · have hb := h.false_of (by simpa using sz)
    subst hb
    exact RcAt.lists_lengths hl hm (by simpa using sz) room
end FE
end
section
set_option Elab.async false
set_option linter.all false
set_option maxRecDepth 100000
/-! FeOps: == and < of the evaluator hold of the model. -/
namespace FE
open PySem PySem.Spec PyProof.Rows L2
open PySem.SeqAt

theorem eqZ_eq (a b : Int) : eqZ a b = (a == b) := by
  rcases a with a | a <;> rcases b with b | b
  · show Nat.beq a b = _
    rw [Bool.beq_eq_decide_eq]
    by_cases h : a = b
    · subst h; simp
    · have : Nat.beq a b = false := by cases q : Nat.beq a b with | true => exact absurd (Nat.eq_of_beq_eq_true q) h | false => rfl
      rw [this]; symm; apply decide_eq_false; simp only [Int.ofNat_eq_natCast]; omega
  · rfl
  · rfl
  · show Nat.beq a b = _
    rw [Bool.beq_eq_decide_eq]
    by_cases h : a = b
    · subst h; simp
    · have : Nat.beq a b = false := by cases q : Nat.beq a b with | true => exact absurd (Nat.eq_of_beq_eq_true q) h | false => rfl
      rw [this]; symm; apply decide_eq_false; omega
theorem ltZ_eq (a b : Int) : ltZ a b = decide (a < b) := by
  rcases a with a | a <;> rcases b with b | b
  · show Nat.blt a b = _
    by_cases h : a < b
    · simp [Nat.blt_eq.mpr h, h]
    · have : Nat.blt a b = false := by cases q : Nat.blt a b with | true => exact absurd (Nat.blt_eq.mp q) h | false => rfl
      rw [this]; simp only [Int.ofNat_eq_natCast, Int.ofNat_lt, h, decide_false]
  · show false = _
    symm; apply decide_eq_false; simp only [Int.ofNat_eq_natCast]; omega
  · show true = _
    symm; apply decide_eq_true; simp only [Int.ofNat_eq_natCast]; omega
  · show Nat.blt b a = _
    by_cases h : b < a
    · rw [Nat.blt_eq.mpr h]; symm; apply decide_eq_true; omega
    · have : Nat.blt b a = false := by cases q : Nat.blt b a with | true => exact absurd (Nat.blt_eq.mp q) h | false => rfl
      rw [this]; symm; apply decide_eq_false; omega
theorem addZ_eq (a b : Int) : addZ a b = a + b := by
  cases a <;> cases b <;> simp [addZ]
theorem eqS_eq : ∀ (a b : List Nat), eqS a b = decide (a = b)
  | [], [] => by simp [eqS]
  | a :: as, b :: bs => by
    have ih := eqS_eq as bs
    by_cases h : a = b
    · subst h; simp [eqS, ih]
    · have : Nat.beq a b = false := by cases q : Nat.beq a b with | true => exact absurd (Nat.eq_of_beq_eq_true q) h | false => rfl
      simp [eqS, this, h]
  | [], _ :: _ => by simp [eqS]
  | _ :: _, [] => by simp [eqS]
theorem toS_inj {a b : List Nat} : (toS a = toS b) ↔ a = b := by
  constructor
  · intro h; have h := congrArg Str.cps h; simpa [toS] using h
  · rintro rfl; rfl
theorem eqS_str (a b : List Nat) : eqS a b = (toS a == toS b) := by
  rw [eqS_eq, Bool.beq_eq_decide_eq]; exact decide_eq_decide.mpr toS_inj.symm

section
variable {X : Cx} {G : GM} {pins : List (Addr × Obj)} {σ : L2.St} {H : Hp} {s : Shared} {ρ : Rho} {h : FE.H}
/-- a list stands there -/
theorem lst_at (R : RH G X.K ρ h H) {n : Nat} {a : Addr} {ws : List FE.W} (e : h.get n = some (.lst ws)) (r : ρ n = some a) : ∃ xs, H a = some (.lst xs) ∧ RWs G X.K ρ H ws xs := by
  obtain ⟨b, e', o⟩ := R.obj n _ e
  rw [r] at e'; cases e'
  exact o
theorem isLst_of {j : Nat} {r : Bool} (e : isLst h j = some r) : r = false ∧ ∃ ws, h.get j = some (.lst ws) := by
  unfold isLst at e
  split at e
  · next ws q => cases e; exact ⟨rfl, ws, q⟩
  · cases e
theorem no_both (I : Inv X pins σ H s) {a : Addr} {xs ys : List V} (h1 : SqL X.K H a xs) (h2 : SqT X.K H a ys) : False := by
  obtain ⟨i1, _, ⟨o, n, e, c, _⟩, _⟩ := I.list h1
  obtain ⟨i2, _, ⟨o', e', c', _⟩, _⟩ := I.tuple h2
  rw [e] at e'; cases e'
  rw [c] at c'; exact absurd c' (by decide)
theorem str_of {b : FE.W} {z : Str} (r : RW G X.K ρ H b (.str z)) : ∃ ds, b = .str ds ∧ z = toS ds := by
  generalize q : V.str z = v at r
  cases r with
  | str cs => injection q with q; exact ⟨cs, rfl, q⟩
  | non => cases q
  | bl c => cases q
  | int i => cases q
  | tup _ _ => cases q
  | ob _ => cases q
  | cls _ => cases q
  | fn _ => cases q
mutual
/-- what stands for one value is equal to itself -/
theorem eq_same (I : Inv X pins σ H s) (R : RH G X.K ρ h H) : ∀ (n : Nat) {a b : FE.W} {x : V} {r : Bool}, RW G X.K ρ H a x → RW G X.K ρ H b x → eqW h n a b = some r → r = true
  | 0, _, _, _, _, _, _, e => by cases e
  | n + 1, a, b, x, r, ra, rb, e => by
    have e : eqStep h (eqW h n) a b = some r := e
    cases ra with
    | non => cases rb; cases e; rfl
    | bl c => cases rb; injection e with e; simpa using e.symm
    | int i => cases rb; injection e with e; rw [← e, eqZ_eq]; simp
    | str cs => 
      obtain ⟨ds, rfl, q⟩ := str_of rb
      have := toS_inj.mp q
      subst this
      injection e with e; rw [← e, eqS_str]; simp
    | tup q t =>
      cases rb with
      | tup q' t' =>
        have := I.tuple_inj q q'
        subst this
        exact eqs_same I R n t t' e
      | ob q' =>
        obtain ⟨_, ws, z⟩ := isLst_of (show isLst h _ = some r from e)
        obtain ⟨ys, k, _⟩ := lst_at R z q'
        exact (no_both I (.of k) q).elim
      | cls q' => cases e
      | fn q' => cases e
    | @ob i a q =>
      cases rb with
      | tup q' t' =>
        obtain ⟨_, ws, z⟩ := isLst_of (show isLst h i = some r from e)
        obtain ⟨ys, k, _⟩ := lst_at R z q
        exact (no_both I (.of k) q').elim
      | @ob j _ q' =>
        have := R.inj _ _ _ q q'
        subst this
        have e : eqOb h (eqW h n) i (.ob i) = some r := e
        unfold eqOb at e
        simp only [Nat.beq_refl] at e
        injection e with e; exact e.symm
      | cls q' => cases e
      | fn q' => cases e
    | cls q => cases e
    | fn q => cases e
theorem eqs_same (I : Inv X pins σ H s) (R : RH G X.K ρ h H) : ∀ (n : Nat) {as bs : List FE.W} {xs : List V} {r : Bool}, RWs G X.K ρ H as xs → RWs G X.K ρ H bs xs → eqWs (eqW h n) as bs = some r → r = true
  | n, as, bs, xs, r, ra, rb, e => by
    cases ra with
    | nil => cases rb; injection e with e; exact e.symm
    | cons a ra =>
      cases rb with
      | cons b rb =>
        unfold eqWs at e
        split at e
        · exact eqs_same I R n ra rb e
        · next q => exact absurd (eq_same I R n a b q) (by decide)
        · cases e
end
theorem eqs_of {A : Around} {f : FE.W → FE.W → Option Bool} (ih : ∀ {a b : FE.W} {r : Bool} {x y : V} {u v : Value}, f a b = some r → RW G X.K ρ H a x → RW G X.K ρ H b y → RelV x u → RelV y v → EqAt A s u v r) :
    ∀ {as bs : List FE.W} {xs ys : List V} {us vs : List Value} {r : Bool}, eqWs f as bs = some r → RWs G X.K ρ H as xs → RWs G X.K ρ H bs ys → Vals xs us → Vals ys vs → Eqs A s us vs r
  | as, bs, xs, ys, us, vs, r, e, ra, rb, va, vb => by
    cases ra with
    | nil =>
      cases va
      cases rb with
      | nil => cases vb; cases e; exact .nil
      | cons b rb => cases vb; cases e; exact .short
    | cons a ra =>
      cases va with
      | cons ua va =>
        cases rb with
        | nil => cases vb; cases e; exact .long
        | cons b rb =>
          cases vb with
          | cons ub vb =>
            unfold eqWs at e
            split at e
            · next q => exact .same (ih q a b ua ub) (eqs_of ih e ra rb va vb)
            · next q => cases e; exact .other (ih q a b ua ub)
            · cases e
theorem IsTup.tuple {h : Heap} {a : Addr} {its : Array Value} (x : IsTup h a its) : h.IsTuple a its := x
theorem tup_vals (I : Inv X pins σ H s) {a : Addr} {xs : List V} (q : SqT X.K H a xs) : ∃ its : List Value, Vals xs its ∧ s.heap.IsTuple a its.toArray := let ⟨its, v, t, _⟩ := I.tuple q; ⟨its, v, IsTup.tuple t⟩
theorem lst_vals (I : Inv X pins σ H s) (R : RH G X.K ρ h H) {n : Nat} {a : Addr} {ws : List FE.W} (e : h.get n = some (.lst ws)) (r : ρ n = some a) : ∃ xs its, RWs G X.K ρ H ws xs ∧ Vals xs its ∧ s.heap.IsList a its.toArray :=
  let ⟨xs, k, q⟩ := lst_at R e r
  let ⟨its, v, p, _⟩ := I.list (.of k)
  ⟨xs, its, q, v, p.isList⟩
theorem lst_lst {i j : Nat} {f : FE.W → FE.W → Option Bool} {r : Bool} (ne : i ≠ j) (e : eqOb h f i (.ob j) = some r) : ∃ as bs, h.get i = some (.lst as) ∧ h.get j = some (.lst bs) ∧ eqWs f as bs = some r := by
  unfold eqOb at e
  have q : Nat.beq i j = false := by cases z : Nat.beq i j with | true => exact absurd (Nat.eq_of_beq_eq_true z) ne | false => rfl
  simp only [q] at e
  split at e
  · next as z =>
    split at e
    · next bs z2 => exact ⟨as, bs, z, z2, e⟩
    · cases e
  · cases e
theorem eq_at (I : Inv X pins σ H s) (R : RH G X.K ρ h H) : ∀ (n : Nat) {A : Around} {a b : FE.W} {r : Bool} {x y : V} {u v : Value}, eqW h n a b = some r → RW G X.K ρ H a x → RW G X.K ρ H b y → RelV x u → RelV y v → A.units + n < cLine → EqAt A s u v r
  | 0, _, _, _, _, _, _, _, _, e, _, _, _, _, _ => by cases e
  | n + 1, A, a, b, r, x, y, u, v, e, ra, rb, rx, ry, hu => by
    have e : eqStep h (eqW h n) a b = some r := e
    have hu0 : A.units < cLine := by omega
    have ih : ∀ {a b : FE.W} {r : Bool} {x y : V} {u v : Value}, eqW h n a b = some r → RW G X.K ρ H a x → RW G X.K ρ H b y → RelV x u → RelV y v → EqAt A.in1 s u v r := fun e a b c d => eq_at I R n e a b c d (by have := A.in1_units; omega)
    cases ra with
    | non =>
      have qrx : _ = _ := rx; subst qrx
      cases rb with
      | non =>
        have qry : _ = _ := ry; subst qry
        have e : some true = some r := e
        injection e with e
        rw [← e]
        exact EqAt.same _
      | bl c2 =>
        have qry : _ = _ := ry; subst qry
        have e : some false = some r := e
        injection e with e
        rw [← e]
        exact EqAt.none_bool _
      | int i2 =>
        obtain ⟨ky, rfl⟩ := ry
        have e : some false = some r := e
        injection e with e
        rw [← e]
        exact EqAt.none_int _ _
      | str cs2 =>
        obtain ⟨ky, rfl⟩ := ry
        have e : some false = some r := e
        injection e with e
        rw [← e]
        exact EqAt.none_str _ _
      | tup q t =>
        have qy : _ = _ := ry
        subst qy
        obtain ⟨its, _, tt⟩ := tup_vals I q
        have e : some false = some r := e
        injection e with e
        rw [← e]
        exact EqAt.none_tuple tt hu0
      | ob q =>
        have qy : _ = _ := ry
        subst qy
        obtain ⟨e, ws, z⟩ := isLst_of (show isLst h _ = some r from e)
        obtain ⟨xs, its, _, _, l⟩ := lst_vals I R z q
        rw [e]
        exact EqAt.none_list l hu0
      | cls q => cases e
      | fn q => cases e
    | bl c =>
      have qrx : _ = _ := rx; subst qrx
      cases rb with
      | non =>
        have qry : _ = _ := ry; subst qry
        have e : some false = some r := e
        injection e with e
        rw [← e]
        exact EqAt.bool_none _
      | bl c2 =>
        have qry : _ = _ := ry; subst qry
        have e : some (c == c2) = some r := e
        injection e with e
        rw [← e]
        exact EqAt.bool_bool c c2
      | int i2 =>
        obtain ⟨ky, rfl⟩ := ry
        have z := EqAt.bool_int (A := A) (s := s) c i2 ky
        cases c <;> (injection e with e; rw [← e, eqZ_eq]; exact z)
      | str cs2 =>
        obtain ⟨ky, rfl⟩ := ry
        have e : some false = some r := e
        injection e with e
        rw [← e]
        exact EqAt.bool_str _ _ _
      | tup q t =>
        have qy : _ = _ := ry
        subst qy
        obtain ⟨its, _, tt⟩ := tup_vals I q
        have e : some false = some r := e
        injection e with e
        rw [← e]
        exact EqAt.bool_tuple _ tt hu0
      | ob q =>
        have qy : _ = _ := ry
        subst qy
        obtain ⟨e, ws, z⟩ := isLst_of (show isLst h _ = some r from e)
        obtain ⟨xs, its, _, _, l⟩ := lst_vals I R z q
        rw [e]
        exact EqAt.bool_list _ l hu0
      | cls q => cases e
      | fn q => cases e
    | int i =>
      obtain ⟨kx, rfl⟩ := rx
      cases rb with
      | non =>
        have qry : _ = _ := ry; subst qry
        have e : some false = some r := e
        injection e with e
        rw [← e]
        exact EqAt.int_none _ _
      | bl c2 =>
        have qry : _ = _ := ry; subst qry
        have z := EqAt.int_bool (A := A) (s := s) i kx c2
        cases c2 <;> (injection e with e; rw [← e, eqZ_eq]; exact z)
      | int i2 =>
        obtain ⟨ky, rfl⟩ := ry
        have e : some (eqZ i i2) = some r := e
        injection e with e
        rw [← e, eqZ_eq]
        exact EqAt.int_int i _ i2 _
      | str cs2 =>
        obtain ⟨ky, rfl⟩ := ry
        have e : some false = some r := e
        injection e with e
        rw [← e]
        exact EqAt.int_str _ _ _ _
      | tup q t =>
        have qy : _ = _ := ry
        subst qy
        obtain ⟨its, _, tt⟩ := tup_vals I q
        have e : some false = some r := e
        injection e with e
        rw [← e]
        exact EqAt.int_tuple _ _ tt hu0
      | ob q =>
        have qy : _ = _ := ry
        subst qy
        obtain ⟨e, ws, z⟩ := isLst_of (show isLst h _ = some r from e)
        obtain ⟨xs, its, _, _, l⟩ := lst_vals I R z q
        rw [e]
        exact EqAt.int_list _ _ l hu0
      | cls q => cases e
      | fn q => cases e
    | str cs =>
      obtain ⟨kx, rfl⟩ := rx
      cases rb with
      | non =>
        have qry : _ = _ := ry; subst qry
        have e : some false = some r := e
        injection e with e
        rw [← e]
        exact EqAt.str_none _ _
      | bl c2 =>
        have qry : _ = _ := ry; subst qry
        have e : some false = some r := e
        injection e with e
        rw [← e]
        exact EqAt.str_bool _ _ _
      | int i2 =>
        obtain ⟨ky, rfl⟩ := ry
        have e : some false = some r := e
        injection e with e
        rw [← e]
        exact EqAt.str_int _ _ _ _
      | str cs2 =>
        obtain ⟨ky, rfl⟩ := ry
        have e : some (eqS cs cs2) = some r := e
        injection e with e
        rw [← e, eqS_str]
        exact EqAt.str_str _ _ _ _
      | tup q t =>
        have qy : _ = _ := ry
        subst qy
        obtain ⟨its, _, tt⟩ := tup_vals I q
        have e : some false = some r := e
        injection e with e
        rw [← e]
        exact EqAt.str_tuple _ _ tt hu0
      | ob q =>
        have qy : _ = _ := ry
        subst qy
        obtain ⟨e, ws, z⟩ := isLst_of (show isLst h _ = some r from e)
        obtain ⟨xs, its, _, _, l⟩ := lst_vals I R z q
        rw [e]
        exact EqAt.str_list _ _ l hu0
      | cls q => cases e
      | fn q => cases e
    | @tup _ l _ p t =>
      have qx : _ = _ := rx
      subst qx
      cases rb with
      | non =>
        have qry : _ = _ := ry; subst qry
        obtain ⟨its, _, tt⟩ := tup_vals I p
        have e : some false = some r := e
        injection e with e
        rw [← e]
        exact EqAt.tuple_none tt hu0
      | bl c2 =>
        have qry : _ = _ := ry; subst qry
        obtain ⟨its, _, tt⟩ := tup_vals I p
        have e : some false = some r := e
        injection e with e
        rw [← e]
        exact EqAt.tuple_bool _ tt hu0
      | int i2 =>
        obtain ⟨ky, rfl⟩ := ry
        obtain ⟨its, _, tt⟩ := tup_vals I p
        have e : some false = some r := e
        injection e with e
        rw [← e]
        exact EqAt.tuple_int _ _ tt hu0
      | str cs2 =>
        obtain ⟨ky, rfl⟩ := ry
        obtain ⟨its, _, tt⟩ := tup_vals I p
        have e : some false = some r := e
        injection e with e
        rw [← e]
        exact EqAt.tuple_str _ _ tt hu0
      | @tup _ m _ q t2 k2 =>
        have qy : _ = _ := ry
        subst qy
        by_cases ne : l = m
        · subst ne
          rw [eq_same I R (n + 1) (.tup p t ‹_›) (.tup q t2 k2) e]
          exact EqAt.same _
        · obtain ⟨its, w, tt⟩ := tup_vals I p
          obtain ⟨its2, w2, tt2⟩ := tup_vals I q
          exact EqAt.of_refs ne (rc_tups tt tt2 hu0 (eqs_of ih (show eqWs (eqW h n) _ _ = some r from e) t t2 w w2))
      | ob q =>
        have qy : _ = _ := ry
        subst qy
        obtain ⟨its, _, tt⟩ := tup_vals I p
        obtain ⟨e, ws, z⟩ := isLst_of (show isLst h _ = some r from e)
        obtain ⟨xs, its, _, _, l⟩ := lst_vals I R z q
        rw [e]
        exact EqAt.tuple_list tt l hu0
      | cls q => cases e
      | fn q => cases e
    | @ob i a p =>
      have qx : _ = _ := rx
      subst qx
      cases rb with
      | non =>
        have qry : _ = _ := ry; subst qry
        obtain ⟨e, ws, z⟩ := isLst_of (show isLst h _ = some r from e)
        obtain ⟨xs, its, _, _, l⟩ := lst_vals I R z p
        rw [e]
        exact EqAt.list_none l hu0
      | bl c2 =>
        have qry : _ = _ := ry; subst qry
        obtain ⟨e, ws, z⟩ := isLst_of (show isLst h _ = some r from e)
        obtain ⟨xs, its, _, _, l⟩ := lst_vals I R z p
        rw [e]
        exact EqAt.list_bool _ l hu0
      | int i2 =>
        obtain ⟨ky, rfl⟩ := ry
        obtain ⟨e, ws, z⟩ := isLst_of (show isLst h _ = some r from e)
        obtain ⟨xs, its, _, _, l⟩ := lst_vals I R z p
        rw [e]
        exact EqAt.list_int _ _ l hu0
      | str cs2 =>
        obtain ⟨ky, rfl⟩ := ry
        obtain ⟨e, ws, z⟩ := isLst_of (show isLst h _ = some r from e)
        obtain ⟨xs, its, _, _, l⟩ := lst_vals I R z p
        rw [e]
        exact EqAt.list_str _ _ l hu0
      | tup q t2 =>
        have qy : _ = _ := ry
        subst qy
        obtain ⟨its, _, tt⟩ := tup_vals I q
        obtain ⟨e, ws, z⟩ := isLst_of (show isLst h _ = some r from e)
        obtain ⟨xs, its, _, _, l⟩ := lst_vals I R z p
        rw [e]
        exact EqAt.list_tuple l tt hu0
      | @ob j b q =>
        have qy : _ = _ := ry
        subst qy
        by_cases ne : a = b
        · subst ne
          rw [eq_same I R (n + 1) (.ob p) (.ob q) e]
          exact EqAt.same _
        · have nij : i ≠ j := fun z => ne (by subst z; rw [p] at q; exact Option.some.inj q)
          obtain ⟨as, bs, g1, g2, e⟩ := lst_lst nij (show eqOb h (eqW h n) i (.ob j) = some r from e)
          obtain ⟨xs, its, r1, w1, l1⟩ := lst_vals I R g1 p
          obtain ⟨ys, its2, r2, w2, l2⟩ := lst_vals I R g2 q
          exact EqAt.of_refs ne (rc_lsts l1 l2 hu0 (eqs_of ih e r1 r2 w1 w2))
      | cls q => cases e
      | fn q => cases e
    | cls q => cases e
    | fn q => cases e
end
end FE
end
section
set_option Elab.async false
set_option linter.all false
set_option maxRecDepth 100000
/-! FeLt: < of ints, texts, tuples of such. -/
namespace FE
open PySem PySem.Spec PyProof.Rows L2
open PySem.SeqAt PySem.MeetsSeq3 PySem.SeqRoads2
abbrev LtAt (A : Around) (s : Shared) (u v : Value) (b : Bool) : Prop := Ob.RcOp .Lt A s u v b
inductive Lts (A : Around) (s : Shared) : List Value → List Value → Bool → Prop
  | end_ {xs} : Lts A s xs [] false
  | short {y ys} : Lts A s [] (y :: ys) true
  | same {x y xs ys b} : EqAt A s x y true → Lts A s xs ys b → Lts A s (x :: xs) (y :: ys) b
  | other {x y xs ys b} : EqAt A s x y false → LtAt A s x y b → Lts A s (x :: xs) (y :: ys) b
theorem tup_lts (l m : Addr) (xs ys : Array Value) (i j : Nat) (d1 d2 : Option Addr) (s1 s2 : Array (Option Value)) (b : Bool) :
    Meets (Builtin.«tuple.__lt__» ⟨[.ref l, .ref m], []⟩) (fun A R s => s.heap.get? l = some { cls := .type "tuple", dict := d1, data := .seq xs i, slots := s1 } ∧
      s.heap.get? m = some { cls := .type "tuple", dict := d2, data := .seq ys j, slots := s2 } ∧ Lts A.in1 s xs.toList ys.toList b ∧ R (.ok (.ret (.bool b))) s) :=
  .of_wp fun prog w A R st hyp => by
    obtain ⟨hp, gs, dr, tk, os⟩ := st
    obtain ⟨e1, e2, lts, fin⟩ := hyp
    have sub := AutoSeq1.sub_tuple_tuple
    wp_walk using wpAny_loadPart' e1, wpAny_loadPart' e2, wpAny_forIn_list _ (fun rest acc st' => acc.1 = none ∧ st' = ⟨hp, gs, dr, tk, os⟩ ∧
      ∃ us vs, rest = us.zip vs ∧ Lts A.in1 ⟨hp, gs, dr, tk, os⟩ us vs b ∧ (decide (us.length < vs.length)) = decide (xs.size < ys.size)) _
    case turn =>
      rintro ⟨y, x⟩ rest acc st' ⟨none_, rfl, us, vs, zip, lts', sz⟩
      cases lts' with
      | end_ => simp at zip
      | short => cases zip
      | same h r =>
        rw [List.zip_cons_cons] at zip
        injection zip with z1 z2
        cases z1
        refine wpAny_bind (h prog w _ _ ?_)
        wp_walk
        exact ⟨rfl, rfl, _, _, z2, r, by simpa using sz⟩
      | other h l =>
        rw [List.zip_cons_cons] at zip
        injection zip with z1 z2
        cases z1
        refine wpAny_bind (h prog w _ _ ?_)
        have l' := l prog w
        wp_walk using l'
        exact ⟨_, rfl, by simpa using fin⟩
    case fin =>
      rintro ⟨a1, a2⟩ st' ⟨none_, rfl, us, vs, zip, lts', sz⟩
      simp only at none_
      subst none_
      wp_walk
      refine ⟨_, rfl, ?_⟩
      have key : decide (xs.size < ys.size) = b := by
        rw [← sz]
        cases lts' with
        | end_ => simp
        | short => simp
        | same h r => cases zip
        | other h l => cases zip
      simpa [Builtin.Tuple.tupleCompareSizes, key] using fin
    case h => exact ⟨rfl, rfl, xs.toList, ys.toList, rfl, lts, by simp⟩
theorem lt_tups {A : Around} {s : Shared} {l m : Addr} {xs ys : Array Value} {b : Bool} (hl : s.heap.IsTuple l xs) (hm : s.heap.IsTuple m ys) (room : A.units < cLine) (h : Lts A.in1 s xs.toList ys.toList b) :
    LtAt A s (.ref l) (.ref m) b := fun prog w E Q q => by
  obtain ⟨⟨c1, d1, t1, s1⟩, o1, k1, n1, u1⟩ := id hl
  obtain ⟨⟨c2, d2, t2, s2⟩, o2, k2, n2, u2⟩ := id hm
  simp only at k1 k2 u1 u2
  subst k1 k2 u1 u2
  exact richCompare_meets_room (op := .Lt) ⟨_, o1, rfl⟩ ⟨_, o2, rfl⟩ F.slot_tuple_lt F.entry_tuple_lt (F.args_tuple_lt_2 _ _) (tup_lts l m xs ys n1 n2 d1 d2 s1 s2 b)
    ⟨o1, o2, h, ⟨(fun x => nomatch x), q⟩⟩ room
theorem ltS_eq : ∀ (a b : List Nat), ltS a b = decide (a < b)
  | [], [] => by simp [ltS]
  | _ :: _, [] => by simp [ltS]
  | [], _ :: _ => by simp [ltS]
  | a :: as, b :: bs => by
    have ih := ltS_eq as bs
    unfold ltS
    by_cases h : a < b
    · rw [Nat.blt_eq.mpr h]
      symm
      simp [List.cons_lt_cons_iff, h]
    · have e1 : Nat.blt a b = false := by cases q : Nat.blt a b with | true => exact absurd (Nat.blt_eq.mp q) h | false => rfl
      rw [e1]
      by_cases e : a = b
      · subst e
        simp only [Nat.beq_refl]
        rw [ih]
        simp [List.cons_lt_cons_iff]
      · have e2 : Nat.beq a b = false := by cases q : Nat.beq a b with | true => exact absurd (Nat.eq_of_beq_eq_true q) e | false => rfl
        rw [e2]
        symm
        simp [List.cons_lt_cons_iff, h, e]
section
variable {X : Cx} {G : GM} {pins : List (Addr × Obj)} {σ : L2.St} {H : Hp} {s : Shared} {ρ : Rho} {h : FE.H}
theorem lts_of {A : Around} {f g : FE.W → FE.W → Option Bool} (ih : ∀ {a b : FE.W} {r : Bool} {x y : V} {u v : Value}, f a b = some r → RW G X.K ρ H a x → RW G X.K ρ H b y → RelV x u → RelV y v → EqAt A s u v r)
    (ih2 : ∀ {a b : FE.W} {r : Bool} {x y : V} {u v : Value}, g a b = some r → RW G X.K ρ H a x → RW G X.K ρ H b y → RelV x u → RelV y v → LtAt A s u v r) :
    ∀ {as bs : List FE.W} {xs ys : List V} {us vs : List Value} {r : Bool}, ltWs f g as bs = some r → RWs G X.K ρ H as xs → RWs G X.K ρ H bs ys → Vals xs us → Vals ys vs → Lts A s us vs r
  | as, bs, xs, ys, us, vs, r, e, ra, rb, va, vb => by
    cases rb with
    | nil =>
      cases vb
      have e : some false = some r := by cases as <;> exact e
      cases e
      exact .end_
    | cons b rb =>
      cases vb with
      | cons ub vb =>
        cases ra with
        | nil => cases va; cases e; exact .short
        | cons a ra =>
          cases va with
          | cons ua va =>
            unfold ltWs at e
            split at e
            · next q => exact .same (ih q a b ua ub) (lts_of ih ih2 e ra rb va vb)
            · next q => exact .other (ih q a b ua ub) (ih2 e a b ua ub)
            · cases e
theorem lt_at (I : Inv X pins σ H s) (R : RH G X.K ρ h H) : ∀ (n : Nat) {A : Around} {a b : FE.W} {r : Bool} {x y : V} {u v : Value}, ltW h n a b = some r → RW G X.K ρ H a x → RW G X.K ρ H b y → RelV x u → RelV y v → A.units + n < cLine → LtAt A s u v r
  | 0, _, _, _, _, _, _, _, _, e, _, _, _, _, _ => by cases e
  | n + 1, A, a, b, r, x, y, u, v, e, ra, rb, rx, ry, hu => by
    have e : ltStep (eqW h n) (ltW h n) a b = some r := e
    have hu0 : A.units < cLine := by omega
    have hu1 : A.in1.units + n < cLine := by have := A.in1_units; omega
    cases ra with
    | int i =>
      obtain ⟨kx, rfl⟩ := rx
      cases rb with
      | int j =>
        obtain ⟨ky, rfl⟩ := ry
        have e : some (ltZ i j) = some r := e
        injection e with e
        rw [← e, ltZ_eq]
        exact Ob.RcOp.lt_int i j _ _
      | non => cases e
      | bl c => cases e
      | str cs => cases e
      | tup _ _ => cases e
      | ob _ => cases e
      | cls _ => cases e
      | fn _ => cases e
    | str cs =>
      obtain ⟨kx, rfl⟩ := rx
      cases rb with
      | str ds =>
        obtain ⟨ky, rfl⟩ := ry
        have e : some (ltS cs ds) = some r := e
        injection e with e
        rw [← e, ltS_eq]
        exact fun prog w E Q q => PyProof.Rows.lt_str (by simpa [toS] using q)
      | non => cases e
      | bl c => cases e
      | int i => cases e
      | tup _ _ => cases e
      | ob _ => cases e
      | cls _ => cases e
      | fn _ => cases e
    | tup p t =>
      have qx : _ = _ := rx
      subst qx
      cases rb with
      | tup q t2 =>
        have qy : _ = _ := ry
        subst qy
        obtain ⟨its, w, tt⟩ := tup_vals I p
        obtain ⟨its2, w2, tt2⟩ := tup_vals I q
        exact lt_tups tt tt2 hu0 (lts_of (fun e a b c d => eq_at I R n e a b c d hu1) (fun e a b c d => lt_at I R n e a b c d hu1) (show ltWs (eqW h n) (ltW h n) _ _ = some r from e) t t2 w w2)
      | non => cases e
      | bl c => cases e
      | int i => cases e
      | str cs => cases e
      | ob _ => cases e
      | cls _ => cases e
      | fn _ => cases e
    | non => cases e
    | bl c => cases e
    | ob _ => cases e
    | cls _ => cases e
    | fn _ => cases e
end
end FE
end
section
set_option Elab.async false
set_option linter.all false
set_option maxRecDepth 100000
/-! FeNe: == and != by value, at the top. -/
namespace FE
open PySem PySem.Spec PyProof.Rows L2
open PySem.SeqAt PySem.MeetsSeq3 PySem.SeqRoads2
/-- the tuples' own != -/
theorem tup_nes (l m : Addr) (xs ys : Array Value) (i j : Nat) (d1 d2 : Option Addr) (s1 s2 : Array (Option Value)) (b : Bool) :
    Meets (Builtin.«tuple.__ne__» ⟨[.ref l, .ref m], []⟩) (fun A R s => s.heap.get? l = some { cls := .type "tuple", dict := d1, data := .seq xs i, slots := s1 } ∧
      s.heap.get? m = some { cls := .type "tuple", dict := d2, data := .seq ys j, slots := s2 } ∧ Eqs A.in1 s xs.toList ys.toList b ∧ R (.ok (.ret (.bool (!b)))) s) :=
  .of_wp fun prog w A R st hyp => by
    obtain ⟨hp, gs, dr, tk, os⟩ := st
    obtain ⟨e1, e2, eqs, fin⟩ := hyp
    have sub := AutoSeq1.sub_tuple_tuple
    wp_walk using wpAny_loadPart' e1, wpAny_loadPart' e2, wpAny_forIn_list _ (fun rest acc st' => acc.1 = none ∧ st' = ⟨hp, gs, dr, tk, os⟩ ∧
      ∃ us vs, rest = us.zip vs ∧ Eqs A.in1 ⟨hp, gs, dr, tk, os⟩ us vs b ∧ (us.length == vs.length) = (xs.size == ys.size)) _
    case turn =>
      rintro ⟨y, x⟩ rest acc st' ⟨none_, rfl, us, vs, zip, eqs', sz⟩
      cases eqs' with
      | nil => cases zip
      | short => cases zip
      | long => cases zip
      | same h r =>
        rw [List.zip_cons_cons] at zip
        injection zip with z1 z2
        cases z1
        refine wpAny_bind (h prog w _ _ ?_)
        wp_walk
        exact ⟨rfl, rfl, _, _, z2, r, by simpa using sz⟩
      | other h =>
        rw [List.zip_cons_cons] at zip
        injection zip with z1 z2
        cases z1
        refine wpAny_bind (h prog w _ _ ?_)
        wp_walk
        exact ⟨_, rfl, by simpa using fin⟩
    case fin =>
      rintro ⟨a1, a2⟩ st' ⟨none_, rfl, us, vs, zip, eqs', sz⟩
      simp only at none_
      subst none_
      wp_walk
      refine ⟨_, rfl, ?_⟩
      have key : (xs.size == ys.size) = b := by
        rw [← sz]
        cases eqs' with
        | nil => rfl
        | short => rfl
        | long => rfl
        | same h r => cases zip
        | other h => cases zip
      have key2 : (xs.size != ys.size) = !b := by rw [bne, key]
      simpa [Builtin.Tuple.tupleCompareSizes, key2] using fin
    case h => exact ⟨rfl, rfl, xs.toList, ys.toList, rfl, eqs, by simp⟩
theorem ne_tups {A : Around} {s : Shared} {l m : Addr} {xs ys : Array Value} {b : Bool} (hl : s.heap.IsTuple l xs) (hm : s.heap.IsTuple m ys) (room : A.units < cLine) (h : Eqs A.in1 s xs.toList ys.toList b) :
    RcNeAt A s (.ref l) (.ref m) (!b) := fun prog w E Q q => by
  obtain ⟨⟨c1, d1, t1, s1⟩, o1, k1, n1, u1⟩ := id hl
  obtain ⟨⟨c2, d2, t2, s2⟩, o2, k2, n2, u2⟩ := id hm
  simp only at k1 k2 u1 u2
  subst k1 k2 u1 u2
  exact richCompare_meets_room (op := .NotEq) ⟨_, o1, rfl⟩ ⟨_, o2, rfl⟩ F.slot_tuple_ne F.entry_tuple_ne (F.args_tuple_ne_2 _ _) (tup_nes l m xs ys n1 n2 d1 d2 s1 s2 b)
    ⟨o1, o2, h, ⟨(fun x => nomatch x), q⟩⟩ room
/-- the lists' own loop -/
theorem lst_nes_go (l m : Addr) (xs ys : Array Value) (i j : Nat) (d1 d2 : Option Addr) (s1 s2 : Array (Option Value)) (b : Bool) (sz : xs.size = ys.size) (k : Nat) :
    ∀ at_ : Nat, xs.size - at_ = k → Meets (Builtin.«list.__eq__.loop» ⟨[.ref l, .ref m, rawInt at_, rawInt 3], []⟩) (fun A R s => s.heap.get? l = some { cls := .type "list", dict := d1, data := .seq xs i, slots := s1 } ∧
      s.heap.get? m = some { cls := .type "list", dict := d2, data := .seq ys j, slots := s2 } ∧ Eqs A.in1 s (xs.toList.drop at_) (ys.toList.drop at_) b ∧ R (.ok (.ret (.bool (!b)))) s) := by
  induction k with
  | zero =>
    intro at_ hk prog w A R st hyp
    obtain ⟨hp, gs, dr, tk, os⟩ := st
    obtain ⟨e1, e2, eqs, fin⟩ := hyp
    wp_walk using wpAny_loadPart' e1, wpAny_loadPart' e2
    have g1 : xs[((at_ : Nat) : Int).toNat]? = none := by simp; omega
    have g2 : ys[((at_ : Nat) : Int).toNat]? = none := by simp; omega
    have hb : b = true := by
      rw [List.drop_of_length_le (by simp; omega), List.drop_of_length_le (by simp; omega)] at eqs
      cases eqs; rfl
    rw [g1, g2]
    wp_walk using wpAny_loadPart' e1, wpAny_loadPart' e2
    show R (.ok (.ret (.bool (xs.size != ys.size)))) _
    rw [sz]
    subst hb
    simpa using fin
  | succ k ih =>
    intro at_ hk prog w A R st hyp
    obtain ⟨hp, gs, dr, tk, os⟩ := st
    obtain ⟨e1, e2, eqs, fin⟩ := hyp
    wp_walk using wpAny_loadPart' e1, wpAny_loadPart' e2
    have l1 : at_ < xs.size := by omega
    have l2 : at_ < ys.size := by omega
    have g1 : xs[((at_ : Nat) : Int).toNat]? = some xs[at_] := by simp [l1]
    have g2 : ys[((at_ : Nat) : Int).toNat]? = some ys[at_] := by simp [l2]
    have dx : xs.toList.drop at_ = xs[at_] :: xs.toList.drop (at_ + 1) := by rw [List.drop_eq_getElem_cons (by simpa using l1)]; simp
    have dy : ys.toList.drop at_ = ys[at_] :: ys.toList.drop (at_ + 1) := by rw [List.drop_eq_getElem_cons (by simpa using l2)]; simp
    have cast : ((at_ : Int) + 1) = ((at_ + 1 : Nat) : Int) := by push_cast; rfl
    rw [dx, dy] at eqs
    rw [g1, g2]
    cases eqs with
    | same h r =>
      refine wpAny_bind (h prog w _ _ ?_)
      wp_walk
      rw [cast]
      refine ⟨plainId_quiet plain_eq_loop _, codeAny_builtin entry_eq_loop ?_⟩
      rw [Around.under_plainId plain_eq_loop _]
      exact ih (at_ + 1) (by omega) prog w A R _ ⟨e1, e2, r, fin⟩
    | other h =>
      refine wpAny_bind (h prog w _ _ ?_)
      wp_walk using wpAny_loadPart' e1, wpAny_loadPart' e2
      rw [g1, g2]
      wp_walk
      exact fin
theorem lst_nes (l m : Addr) (xs ys : Array Value) (i j : Nat) (d1 d2 : Option Addr) (s1 s2 : Array (Option Value)) (b : Bool) (sz : xs.size = ys.size) :
    Meets (Builtin.«list.__ne__» ⟨[.ref l, .ref m], []⟩) (fun A R s => s.heap.get? l = some { cls := .type "list", dict := d1, data := .seq xs i, slots := s1 } ∧
      s.heap.get? m = some { cls := .type "list", dict := d2, data := .seq ys j, slots := s2 } ∧ Eqs A.in1 s xs.toList ys.toList b ∧ R (.ok (.ret (.bool (!b)))) s) := by
  intro prog w A R st hyp
  obtain ⟨hp, gs, dr, tk, os⟩ := st
  obtain ⟨e1, e2, eqs, fin⟩ := hyp
  have sub := AutoSeq1.sub_list_list
  have ne : ¬ (xs.size != ys.size) = true := by simp [sz]
  wp_walk using wpAny_loadPart' e1, wpAny_loadPart' e2
  refine ⟨plainId_quiet plain_eq_loop _, codeAny_builtin entry_eq_loop ?_⟩
  rw [Around.under_plainId plain_eq_loop _]
  exact lst_nes_go l m xs ys i j d1 d2 s1 s2 b sz _ 0 rfl prog w A R _ ⟨e1, e2, eqs, fin⟩
theorem ne_lsts {A : Around} {s : Shared} {l m : Addr} {xs ys : Array Value} {b : Bool} (hl : s.heap.IsList l xs) (hm : s.heap.IsList m ys) (room : A.units < cLine) (h : Eqs A.in1 s xs.toList ys.toList b) :
    RcNeAt A s (.ref l) (.ref m) (!b) := by
  by_cases sz : xs.size = ys.size
  · intro prog w E Q q
    obtain ⟨⟨c1, d1, t1, s1⟩, o1, k1, n1, u1⟩ := id hl
    obtain ⟨⟨c2, d2, t2, s2⟩, o2, k2, n2, u2⟩ := id hm
    simp only at k1 k2 u1 u2
    subst k1 k2 u1 u2
    exact richCompare_meets_room (op := .NotEq) ⟨_, o1, rfl⟩ ⟨_, o2, rfl⟩ F.slot_list_ne F.entry_list_ne (F.args_list_ne_2 _ _) (lst_nes l m xs ys n1 n2 d1 d2 s1 s2 b sz)
      ⟨o1, o2, h, ⟨(fun x => nomatch x), q⟩⟩ room
  · have hb := h.false_of (by simpa using sz)
    subst hb
    exact RcNeAt.lists_lengths hl hm (by simpa using sz) room
theorem Eqs.refl_ {A : Around} {s : Shared} : ∀ xs : List Value, Eqs A s xs xs true
  | [] => .nil
  | x :: xs => .same (EqAt.same x) (Eqs.refl_ xs)
section
variable {X : Cx} {G : GM} {pins : List (Addr × Obj)} {σ : L2.St} {H : Hp} {s : Shared} {ρ : Rho} {h : FE.H}
theorem rc_at (I : Inv X pins σ H s) (R : RH G X.K ρ h H) (n : Nat) {A : Around} {a b : FE.W} {r : Bool} {x y : V} {u v : Value} (e : eqW h (n + 1) a b = some r) (pl : plainOb h a = true) (ra : RW G X.K ρ H a x) (rb : RW G X.K ρ H b y) (rx : RelV x u) (ry : RelV y v) (hu : A.units + n + 1 < cLine) : RcAt A s u v r := by
    have e : eqStep h (eqW h n) a b = some r := e
    have hu0 : A.units < cLine := by omega
    have ih : ∀ {a b : FE.W} {r : Bool} {x y : V} {u v : Value}, eqW h n a b = some r → RW G X.K ρ H a x → RW G X.K ρ H b y → RelV x u → RelV y v → EqAt A.in1 s u v r := fun e a b c d => eq_at I R n e a b c d (by have := A.in1_units; omega)
    cases ra with
    | non =>
      have qrx : _ = _ := rx
      subst qrx
      cases rb with
      | non =>
        have qry : _ = _ := ry
        subst qry
        have e : some true = some r := e
        injection e with e
        rw [← e]
        exact RcAt.none_none
      | bl c2 =>
        have qry : _ = _ := ry
        subst qry
        have e : some false = some r := e
        injection e with e
        rw [← e]
        exact RcAt.none_bool _
      | int i2 =>
        obtain ⟨kry, rfl⟩ := ry
        have e : some false = some r := e
        injection e with e
        rw [← e]
        exact RcAt.none_int _ _
      | str cs2 =>
        obtain ⟨kry, rfl⟩ := ry
        have e : some false = some r := e
        injection e with e
        rw [← e]
        exact RcAt.none_str _ _
      | tup q t =>
        have qy : _ = _ := ry
        subst qy
        obtain ⟨its, _, tt⟩ := tup_vals I q
        have e : some false = some r := e
        injection e with e
        rw [← e]
        exact RcAt.none_tuple tt hu0
      | ob q =>
        have qy : _ = _ := ry
        subst qy
        obtain ⟨e, ws, z⟩ := isLst_of (show isLst h _ = some r from e)
        obtain ⟨xs, its, _, _, l⟩ := lst_vals I R z q
        rw [e]
        exact RcAt.none_list l hu0
      | cls q => cases e
      | fn q => cases e
    | bl c =>
      have qrx : _ = _ := rx
      subst qrx
      cases rb with
      | non =>
        have qry : _ = _ := ry
        subst qry
        have e : some false = some r := e
        injection e with e
        rw [← e]
        exact RcAt.bool_none _
      | bl c2 =>
        have qry : _ = _ := ry
        subst qry
        have e : some (c == c2) = some r := e
        injection e with e
        rw [← e]
        exact RcAt.bool_bool c c2
      | int i2 =>
        obtain ⟨kry, rfl⟩ := ry
        have z := RcAt.bool_int (A := A) (s := s) c i2 kry
        cases c <;> (injection e with e; rw [← e, eqZ_eq]; exact z)
      | str cs2 =>
        obtain ⟨kry, rfl⟩ := ry
        have e : some false = some r := e
        injection e with e
        rw [← e]
        exact RcAt.bool_str _ _ _
      | tup q t =>
        have qy : _ = _ := ry
        subst qy
        obtain ⟨its, _, tt⟩ := tup_vals I q
        have e : some false = some r := e
        injection e with e
        rw [← e]
        exact RcAt.bool_tuple _ tt hu0
      | ob q =>
        have qy : _ = _ := ry
        subst qy
        obtain ⟨e, ws, z⟩ := isLst_of (show isLst h _ = some r from e)
        obtain ⟨xs, its, _, _, l⟩ := lst_vals I R z q
        rw [e]
        exact RcAt.bool_list _ l hu0
      | cls q => cases e
      | fn q => cases e
    | int i =>
      obtain ⟨krx, rfl⟩ := rx
      cases rb with
      | non =>
        have qry : _ = _ := ry
        subst qry
        have e : some false = some r := e
        injection e with e
        rw [← e]
        exact RcAt.int_none _ _
      | bl c2 =>
        have qry : _ = _ := ry
        subst qry
        have z := RcAt.int_bool (A := A) (s := s) i krx c2
        cases c2 <;> (injection e with e; rw [← e, eqZ_eq]; exact z)
      | int i2 =>
        obtain ⟨kry, rfl⟩ := ry
        have e : some (eqZ i i2) = some r := e
        injection e with e
        rw [← e, eqZ_eq]
        exact RcAt.int_int i _ i2 _
      | str cs2 =>
        obtain ⟨kry, rfl⟩ := ry
        have e : some false = some r := e
        injection e with e
        rw [← e]
        exact RcAt.int_str _ _ _ _
      | tup q t =>
        have qy : _ = _ := ry
        subst qy
        obtain ⟨its, _, tt⟩ := tup_vals I q
        have e : some false = some r := e
        injection e with e
        rw [← e]
        exact RcAt.int_tuple _ _ tt hu0
      | ob q =>
        have qy : _ = _ := ry
        subst qy
        obtain ⟨e, ws, z⟩ := isLst_of (show isLst h _ = some r from e)
        obtain ⟨xs, its, _, _, l⟩ := lst_vals I R z q
        rw [e]
        exact RcAt.int_list _ _ l hu0
      | cls q => cases e
      | fn q => cases e
    | str cs =>
      obtain ⟨krx, rfl⟩ := rx
      cases rb with
      | non =>
        have qry : _ = _ := ry
        subst qry
        have e : some false = some r := e
        injection e with e
        rw [← e]
        exact RcAt.str_none _ _
      | bl c2 =>
        have qry : _ = _ := ry
        subst qry
        have e : some false = some r := e
        injection e with e
        rw [← e]
        exact RcAt.str_bool _ _ _
      | int i2 =>
        obtain ⟨kry, rfl⟩ := ry
        have e : some false = some r := e
        injection e with e
        rw [← e]
        exact RcAt.str_int _ _ _ _
      | str cs2 =>
        obtain ⟨kry, rfl⟩ := ry
        have e : some (eqS cs cs2) = some r := e
        injection e with e
        rw [← e, eqS_str]
        exact RcAt.str_str _ _ _ _
      | tup q t =>
        have qy : _ = _ := ry
        subst qy
        obtain ⟨its, _, tt⟩ := tup_vals I q
        have e : some false = some r := e
        injection e with e
        rw [← e]
        exact RcAt.str_tuple _ _ tt hu0
      | ob q =>
        have qy : _ = _ := ry
        subst qy
        obtain ⟨e, ws, z⟩ := isLst_of (show isLst h _ = some r from e)
        obtain ⟨xs, its, _, _, l⟩ := lst_vals I R z q
        rw [e]
        exact RcAt.str_list _ _ l hu0
      | cls q => cases e
      | fn q => cases e
    | @tup _ l _ p t =>
      have qx : _ = _ := rx
      subst qx
      cases rb with
      | non =>
        have qry : _ = _ := ry
        subst qry
        obtain ⟨its, _, tt⟩ := tup_vals I p
        have e : some false = some r := e
        injection e with e
        rw [← e]
        exact RcAt.tuple_none tt hu0
      | bl c2 =>
        have qry : _ = _ := ry
        subst qry
        obtain ⟨its, _, tt⟩ := tup_vals I p
        have e : some false = some r := e
        injection e with e
        rw [← e]
        exact RcAt.tuple_bool _ tt hu0
      | int i2 =>
        obtain ⟨kry, rfl⟩ := ry
        obtain ⟨its, _, tt⟩ := tup_vals I p
        have e : some false = some r := e
        injection e with e
        rw [← e]
        exact RcAt.tuple_int _ _ tt hu0
      | str cs2 =>
        obtain ⟨kry, rfl⟩ := ry
        obtain ⟨its, _, tt⟩ := tup_vals I p
        have e : some false = some r := e
        injection e with e
        rw [← e]
        exact RcAt.tuple_str _ _ tt hu0
      | @tup _ m _ q t2 =>
        have qy : _ = _ := ry
        subst qy
        obtain ⟨its, w, tt⟩ := tup_vals I p
        obtain ⟨its2, w2, tt2⟩ := tup_vals I q
        exact rc_tups tt tt2 hu0 (eqs_of ih (show eqWs (eqW h n) _ _ = some r from e) t t2 w w2)
      | ob q =>
        have qy : _ = _ := ry
        subst qy
        obtain ⟨its, _, tt⟩ := tup_vals I p
        obtain ⟨e, ws, z⟩ := isLst_of (show isLst h _ = some r from e)
        obtain ⟨xs, its, _, _, l⟩ := lst_vals I R z q
        rw [e]
        exact RcAt.tuple_list tt l hu0
      | cls q => cases e
      | fn q => cases e
    | @ob i a p =>
      have qx : _ = _ := rx
      subst qx
      cases rb with
      | non =>
        have qry : _ = _ := ry
        subst qry
        obtain ⟨e, ws, z⟩ := isLst_of (show isLst h _ = some r from e)
        obtain ⟨xs, its, _, _, l⟩ := lst_vals I R z p
        rw [e]
        exact RcAt.list_none l hu0
      | bl c2 =>
        have qry : _ = _ := ry
        subst qry
        obtain ⟨e, ws, z⟩ := isLst_of (show isLst h _ = some r from e)
        obtain ⟨xs, its, _, _, l⟩ := lst_vals I R z p
        rw [e]
        exact RcAt.list_bool _ l hu0
      | int i2 =>
        obtain ⟨kry, rfl⟩ := ry
        obtain ⟨e, ws, z⟩ := isLst_of (show isLst h _ = some r from e)
        obtain ⟨xs, its, _, _, l⟩ := lst_vals I R z p
        rw [e]
        exact RcAt.list_int _ _ l hu0
      | str cs2 =>
        obtain ⟨kry, rfl⟩ := ry
        obtain ⟨e, ws, z⟩ := isLst_of (show isLst h _ = some r from e)
        obtain ⟨xs, its, _, _, l⟩ := lst_vals I R z p
        rw [e]
        exact RcAt.list_str _ _ l hu0
      | tup q t2 =>
        have qy : _ = _ := ry
        subst qy
        obtain ⟨its, _, tt⟩ := tup_vals I q
        obtain ⟨e, ws, z⟩ := isLst_of (show isLst h _ = some r from e)
        obtain ⟨xs, its, _, _, l⟩ := lst_vals I R z p
        rw [e]
        exact RcAt.list_tuple l tt hu0
      | @ob j b q =>
        have qy : _ = _ := ry
        subst qy
        by_cases nij : i = j
        · subst nij
          have qab : a = b := by rw [p] at q; exact Option.some.inj q
          subst qab
          rw [eq_same I R (n + 1) (.ob p) (.ob q) e]
          have pl : (match h.get i with | some (.lst _) => true | _ => false) = true := pl
          split at pl
          · next ws g1 =>
            obtain ⟨xs, its, r1, w1, l1⟩ := lst_vals I R g1 p
            exact rc_lsts l1 l1 hu0 (Eqs.refl_ _)
          · cases pl
        · obtain ⟨as, bs, g1, g2, e⟩ := lst_lst nij (show eqOb h (eqW h n) i (.ob j) = some r from e)
          obtain ⟨xs, its, r1, w1, l1⟩ := lst_vals I R g1 p
          obtain ⟨ys, its2, r2, w2, l2⟩ := lst_vals I R g2 q
          exact rc_lsts l1 l2 hu0 (eqs_of ih e r1 r2 w1 w2)
      | cls q => cases e
      | fn q => cases e
    | cls q => cases e
    | fn q => cases e
theorem ne_at (I : Inv X pins σ H s) (R : RH G X.K ρ h H) (n : Nat) {A : Around} {a b : FE.W} {r : Bool} {x y : V} {u v : Value} (e : eqW h (n + 1) a b = some r) (pl : plainOb h a = true) (ra : RW G X.K ρ H a x) (rb : RW G X.K ρ H b y) (rx : RelV x u) (ry : RelV y v) (hu : A.units + n + 1 < cLine) : RcNeAt A s u v (!r) := by
    have e : eqStep h (eqW h n) a b = some r := e
    have hu0 : A.units < cLine := by omega
    have ih : ∀ {a b : FE.W} {r : Bool} {x y : V} {u v : Value}, eqW h n a b = some r → RW G X.K ρ H a x → RW G X.K ρ H b y → RelV x u → RelV y v → EqAt A.in1 s u v r := fun e a b c d => eq_at I R n e a b c d (by have := A.in1_units; omega)
    cases ra with
    | non =>
      have qrx : _ = _ := rx
      subst qrx
      cases rb with
      | non =>
        have qry : _ = _ := ry
        subst qry
        have e : some true = some r := e
        injection e with e
        rw [← e]
        exact RcNeAt.none_none
      | bl c2 =>
        have qry : _ = _ := ry
        subst qry
        have e : some false = some r := e
        injection e with e
        rw [← e]
        exact RcNeAt.none_bool _
      | int i2 =>
        obtain ⟨kry, rfl⟩ := ry
        have e : some false = some r := e
        injection e with e
        rw [← e]
        exact RcNeAt.none_int _ _
      | str cs2 =>
        obtain ⟨kry, rfl⟩ := ry
        have e : some false = some r := e
        injection e with e
        rw [← e]
        exact RcNeAt.none_str _ _
      | tup q t =>
        have qy : _ = _ := ry
        subst qy
        obtain ⟨its, _, tt⟩ := tup_vals I q
        have e : some false = some r := e
        injection e with e
        rw [← e]
        exact RcNeAt.none_tuple tt hu0
      | ob q =>
        have qy : _ = _ := ry
        subst qy
        obtain ⟨e, ws, z⟩ := isLst_of (show isLst h _ = some r from e)
        obtain ⟨xs, its, _, _, l⟩ := lst_vals I R z q
        rw [e]
        exact RcNeAt.none_list l hu0
      | cls q => cases e
      | fn q => cases e
    | bl c =>
      have qrx : _ = _ := rx
      subst qrx
      cases rb with
      | non =>
        have qry : _ = _ := ry
        subst qry
        have e : some false = some r := e
        injection e with e
        rw [← e]
        exact RcNeAt.bool_none _
      | bl c2 =>
        have qry : _ = _ := ry
        subst qry
        have e : some (c == c2) = some r := e
        injection e with e
        rw [← e]
        exact RcNeAt.bool_bool c c2
      | int i2 =>
        obtain ⟨kry, rfl⟩ := ry
        have z := RcNeAt.bool_int (A := A) (s := s) c i2 kry
        cases c <;> (injection e with e; rw [← e, eqZ_eq]; exact z)
      | str cs2 =>
        obtain ⟨kry, rfl⟩ := ry
        have e : some false = some r := e
        injection e with e
        rw [← e]
        exact RcNeAt.bool_str _ _ _
      | tup q t =>
        have qy : _ = _ := ry
        subst qy
        obtain ⟨its, _, tt⟩ := tup_vals I q
        have e : some false = some r := e
        injection e with e
        rw [← e]
        exact RcNeAt.bool_tuple _ tt hu0
      | ob q =>
        have qy : _ = _ := ry
        subst qy
        obtain ⟨e, ws, z⟩ := isLst_of (show isLst h _ = some r from e)
        obtain ⟨xs, its, _, _, l⟩ := lst_vals I R z q
        rw [e]
        exact RcNeAt.bool_list _ l hu0
      | cls q => cases e
      | fn q => cases e
    | int i =>
      obtain ⟨krx, rfl⟩ := rx
      cases rb with
      | non =>
        have qry : _ = _ := ry
        subst qry
        have e : some false = some r := e
        injection e with e
        rw [← e]
        exact RcNeAt.int_none _ _
      | bl c2 =>
        have qry : _ = _ := ry
        subst qry
        have z := RcNeAt.int_bool (A := A) (s := s) i krx c2
        cases c2 <;> (injection e with e; rw [← e, eqZ_eq]; exact z)
      | int i2 =>
        obtain ⟨kry, rfl⟩ := ry
        have e : some (eqZ i i2) = some r := e
        injection e with e
        rw [← e, eqZ_eq]
        exact RcNeAt.int_int i _ i2 _
      | str cs2 =>
        obtain ⟨kry, rfl⟩ := ry
        have e : some false = some r := e
        injection e with e
        rw [← e]
        exact RcNeAt.int_str _ _ _ _
      | tup q t =>
        have qy : _ = _ := ry
        subst qy
        obtain ⟨its, _, tt⟩ := tup_vals I q
        have e : some false = some r := e
        injection e with e
        rw [← e]
        exact RcNeAt.int_tuple _ _ tt hu0
      | ob q =>
        have qy : _ = _ := ry
        subst qy
        obtain ⟨e, ws, z⟩ := isLst_of (show isLst h _ = some r from e)
        obtain ⟨xs, its, _, _, l⟩ := lst_vals I R z q
        rw [e]
        exact RcNeAt.int_list _ _ l hu0
      | cls q => cases e
      | fn q => cases e
    | str cs =>
      obtain ⟨krx, rfl⟩ := rx
      cases rb with
      | non =>
        have qry : _ = _ := ry
        subst qry
        have e : some false = some r := e
        injection e with e
        rw [← e]
        exact RcNeAt.str_none _ _
      | bl c2 =>
        have qry : _ = _ := ry
        subst qry
        have e : some false = some r := e
        injection e with e
        rw [← e]
        exact RcNeAt.str_bool _ _ _
      | int i2 =>
        obtain ⟨kry, rfl⟩ := ry
        have e : some false = some r := e
        injection e with e
        rw [← e]
        exact RcNeAt.str_int _ _ _ _
      | str cs2 =>
        obtain ⟨kry, rfl⟩ := ry
        have e : some (eqS cs cs2) = some r := e
        injection e with e
        rw [← e, eqS_str]
        exact RcNeAt.str_str _ _ _ _
      | tup q t =>
        have qy : _ = _ := ry
        subst qy
        obtain ⟨its, _, tt⟩ := tup_vals I q
        have e : some false = some r := e
        injection e with e
        rw [← e]
        exact RcNeAt.str_tuple _ _ tt hu0
      | ob q =>
        have qy : _ = _ := ry
        subst qy
        obtain ⟨e, ws, z⟩ := isLst_of (show isLst h _ = some r from e)
        obtain ⟨xs, its, _, _, l⟩ := lst_vals I R z q
        rw [e]
        exact RcNeAt.str_list _ _ l hu0
      | cls q => cases e
      | fn q => cases e
    | @tup _ l _ p t =>
      have qx : _ = _ := rx
      subst qx
      cases rb with
      | non =>
        have qry : _ = _ := ry
        subst qry
        obtain ⟨its, _, tt⟩ := tup_vals I p
        have e : some false = some r := e
        injection e with e
        rw [← e]
        exact RcNeAt.tuple_none tt hu0
      | bl c2 =>
        have qry : _ = _ := ry
        subst qry
        obtain ⟨its, _, tt⟩ := tup_vals I p
        have e : some false = some r := e
        injection e with e
        rw [← e]
        exact RcNeAt.tuple_bool _ tt hu0
      | int i2 =>
        obtain ⟨kry, rfl⟩ := ry
        obtain ⟨its, _, tt⟩ := tup_vals I p
        have e : some false = some r := e
        injection e with e
        rw [← e]
        exact RcNeAt.tuple_int _ _ tt hu0
      | str cs2 =>
        obtain ⟨kry, rfl⟩ := ry
        obtain ⟨its, _, tt⟩ := tup_vals I p
        have e : some false = some r := e
        injection e with e
        rw [← e]
        exact RcNeAt.tuple_str _ _ tt hu0
      | @tup _ m _ q t2 =>
        have qy : _ = _ := ry
        subst qy
        obtain ⟨its, w, tt⟩ := tup_vals I p
        obtain ⟨its2, w2, tt2⟩ := tup_vals I q
        exact ne_tups tt tt2 hu0 (eqs_of ih (show eqWs (eqW h n) _ _ = some r from e) t t2 w w2)
      | ob q =>
        have qy : _ = _ := ry
        subst qy
        obtain ⟨its, _, tt⟩ := tup_vals I p
        obtain ⟨e, ws, z⟩ := isLst_of (show isLst h _ = some r from e)
        obtain ⟨xs, its, _, _, l⟩ := lst_vals I R z q
        rw [e]
        exact RcNeAt.tuple_list tt l hu0
      | cls q => cases e
      | fn q => cases e
    | @ob i a p =>
      have qx : _ = _ := rx
      subst qx
      cases rb with
      | non =>
        have qry : _ = _ := ry
        subst qry
        obtain ⟨e, ws, z⟩ := isLst_of (show isLst h _ = some r from e)
        obtain ⟨xs, its, _, _, l⟩ := lst_vals I R z p
        rw [e]
        exact RcNeAt.list_none l hu0
      | bl c2 =>
        have qry : _ = _ := ry
        subst qry
        obtain ⟨e, ws, z⟩ := isLst_of (show isLst h _ = some r from e)
        obtain ⟨xs, its, _, _, l⟩ := lst_vals I R z p
        rw [e]
        exact RcNeAt.list_bool _ l hu0
      | int i2 =>
        obtain ⟨kry, rfl⟩ := ry
        obtain ⟨e, ws, z⟩ := isLst_of (show isLst h _ = some r from e)
        obtain ⟨xs, its, _, _, l⟩ := lst_vals I R z p
        rw [e]
        exact RcNeAt.list_int _ _ l hu0
      | str cs2 =>
        obtain ⟨kry, rfl⟩ := ry
        obtain ⟨e, ws, z⟩ := isLst_of (show isLst h _ = some r from e)
        obtain ⟨xs, its, _, _, l⟩ := lst_vals I R z p
        rw [e]
        exact RcNeAt.list_str _ _ l hu0
      | tup q t2 =>
        have qy : _ = _ := ry
        subst qy
        obtain ⟨its, _, tt⟩ := tup_vals I q
        obtain ⟨e, ws, z⟩ := isLst_of (show isLst h _ = some r from e)
        obtain ⟨xs, its, _, _, l⟩ := lst_vals I R z p
        rw [e]
        exact RcNeAt.list_tuple l tt hu0
      | @ob j b q =>
        have qy : _ = _ := ry
        subst qy
        by_cases nij : i = j
        · subst nij
          have qab : a = b := by rw [p] at q; exact Option.some.inj q
          subst qab
          rw [eq_same I R (n + 1) (.ob p) (.ob q) e]
          have pl : (match h.get i with | some (.lst _) => true | _ => false) = true := pl
          split at pl
          · next ws g1 =>
            obtain ⟨xs, its, r1, w1, l1⟩ := lst_vals I R g1 p
            exact ne_lsts l1 l1 hu0 (Eqs.refl_ _)
          · cases pl
        · obtain ⟨as, bs, g1, g2, e⟩ := lst_lst nij (show eqOb h (eqW h n) i (.ob j) = some r from e)
          obtain ⟨xs, its, r1, w1, l1⟩ := lst_vals I R g1 p
          obtain ⟨ys, its2, r2, w2, l2⟩ := lst_vals I R g2 q
          exact ne_lsts l1 l2 hu0 (eqs_of ih e r1 r2 w1 w2)
      | cls q => cases e
      | fn q => cases e
    | cls q => cases e
    | fn q => cases e
end
end FE
end
section
/-! FeCo2: the run. -/
set_option autoImplicit false
set_option linter.unusedVariables false
namespace FE
/-! ### the run: with what follows -/
abbrev B := Bool
def stop (k : Nat) : B := false
def isTrueW (w : W) : B := match w with
  | .bl b => b
  | _ => stop 1
def belowAll (f : Nat → B) : Nat → B
  | 0 => true
  | n + 1 => match f n with
    | true => belowAll f n
    | false => false
abbrev KX := Nat → List W → H → B
abbrev KW := W → H → B
abbrev KE := Env → H → B
abbrev Sem := Env → H → KX → KW → B
abbrev Sit := Env → H → KX → (Wk → H → B) → B
abbrev Slt := Env → H → KX → (List W → H → B) → B
abbrev Stg := W → Env → H → KX → KE → B
abbrev Stm := Env → H → KE → KW → KE → KE → KX → B
abbrev CallT := Nat → List W → H → KX → KW → B
def opt {α : Type} (n : Nat) (o : Option α) (f : α → B) : B := match o with
  | some a => f a
  | none => stop n

noncomputable section
def LINE : Nat := 16777216
def small {α : Type} (xs : List α) : Bool := Nat.ble xs.length LINE
def okO (o : O) : Bool := match o with
  | .lst xs => small xs
  | .dct kvs => small kvs
  | _ => true
/-- an object of a stand written -/
def putK (h : H) (n : Nat) (o : O) (r : H → B) : B := match okO o with
  | true => r (h.put n o)
  | false => stop 4
def tupK (xs : List W) (h : H) (k : KW) : B := match small xs with
  | true => k (.tup xs) h
  | false => stop 6
def strK (xs : List Nat) (h : H) (k : KW) : B := match small xs with
  | true => k (.str xs) h
  | false => stop 6
def newK (h : H) (o : O) (k : KW) : B := match okO o with
  | true => match h with
    | ⟨m, t⟩ => match Nat.blt m MOST with
      | true => k (.ob m) ⟨Nat.succ m, T.put o 40 t m⟩
      | false => stop 3
  | false => stop 4
def binII (op : Op) (x y : Int) : Option Int := match op with
  | .add => some (addZ x y)
  | .sub => some (x - y)
  | .mul => match ltZ (-18446744073709551616) x with
    | true => match ltZ x 18446744073709551616 with
      | true => some (x * y)
      | false => none
    | false => none
  | .fdiv => match ltZ 0 y with
    | true => match ltZ y 1073741824 with
      | true => some (x / y)
      | false => none
    | false => none
  | .mod => match ltZ 0 y with | true => some (x % y) | false => none
  | .pow => match ltZ y 0 with
    | true => none
    | false => match ltZ 1000000 y with
      | true => none
      | false => match Nat.blt x.natAbs 18446744073709551616 with
        | true => some (x ^ y.toNat)
        | false => none
def rep {α : Type} (y : Int) (x : List α) : List α := match y with
  | .ofNat n => (List.replicate n x).flatten
  | .negSucc _ => []
def repT (y : Int) (x : List W) (h : H) (k : KW) : B := match x with
  | [] => stop 7
  | a :: x => match Nat.ble (List.length (a :: x)) 1000 with
    | true => match y with
      | .ofNat 0 => k (.tup []) h
      | .ofNat 1 => k (.tup (a :: x)) h
      | .ofNat n => match Nat.ble n 1000 with
        | true => k (.tup (rep (.ofNat n) (a :: x))) h
        | false => stop 7
      | .negSucc _ => stop 7
    | false => stop 7
def isAdd (op : Op) : Bool := match op with | .add => true | _ => false
def isMul (op : Op) : Bool := match op with | .mul => true | _ => false
def binLst (op : Op) (x : List W) (b : W) (h : H) (k : KW) : B := match b with
  | .ob j => match h.get j with
    | some (.lst y) => match isAdd op with | true => newK h (.lst (x ++ y)) k | false => stop 14
    | _ => stop 15
  | .int y => match isMul op with
    | true => match ltZ y 9223372036854775808 with
      | true => match ltZ y (-9223372036854775808) with
        | true => stop 16
        | false => newK h (.lst (rep y x)) k
      | false => stop 16
    | false => stop 16
  | _ => stop 17
def binW (op : Op) (a b : W) (h : H) (k : KW) : B := match a with
  | .int x => match b with
    | .int y => opt 1 (binII op x y) fun z => k (.int z) h
    | _ => stop 5
  | .str x => match b with
    | .str y => match isAdd op with | true => strK (x ++ y) h k | false => stop 9
    | _ => stop 10
  | .tup x => match b with
    | .tup y => match isAdd op with | true => tupK (x ++ y) h k | false => stop 11
    | .int y => match isMul op with | true => repT y x h k | false => stop 12
    | _ => stop 13
  | .ob i => match h.get i with
    | some (.lst x) => binLst op x b h k
    | _ => stop 18
  | _ => stop 19
def okB (n : Nat) (o : Option Bool) (h : H) (k : KW) : B := opt n o fun b => k (.bl b) h
def noB (n : Nat) (o : Option Bool) (h : H) (k : KW) : B := opt n o fun b => k (.bl (!b)) h
def isW (a b : W) : Option Bool := match b with
  | .non => match a with | .non => some true | .cls _ => none | .fn _ => none | _ => some false
  | .bl y => match a with | .bl x => some (x == y) | _ => none
  | _ => none
def dhas (h : H) (kvs : List (W × W)) (a : W) : Option Bool := match isKey a with
  | true => match dget (eqW h DEEP) a kvs with
    | some (some _) => some true
    | some none => some false
    | none => none
  | false => none
def inB (h : H) (a b : W) : Option Bool := match b with
  | .str s => match a with
    | .str p => match p with
      | [c] => some (s.any (Nat.beq c))
      | _ => none
    | _ => none
  | .tup xs => inW (eqW h DEEP) a xs
  | .ob n => match h.get n with
    | some (.lst xs) => inW (eqW h DEEP) a xs
    | some (.dct kvs) => dhas h kvs a
    | _ => none
  | _ => none
def ltI (a b : W) : Option Bool := match a with
  | .int x => match b with
    | .int y => some (ltZ x y)
    | _ => none
  | _ => none
def okC (n : Nat) (o : Option Bool) (k : Bool → B) : B := opt n o k
def noC (n : Nat) (o : Option Bool) (k : Bool → B) : B := opt n o fun b => k (!b)
def cmpB (op : Cm) (a b : W) (h : H) (k : Bool → B) : B := match op with
  | .eq => match plainOb h a with
    | true => okC 20 (eqW h DEEP a b) k
    | false => stop 20
  | .ne => match plainOb h a with
    | true => noC 21 (eqW h DEEP a b) k
    | false => stop 21
  | .lt => okC 22 (ltW h DEEP a b) k
  | .gt => okC 23 (ltI b a) k
  | .le => noC 24 (ltI b a) k
  | .ge => noC 25 (ltI a b) k
  | .is => okC 26 (isW a b) k
  | .isnt => noC 27 (isW a b) k
  | .inn => okC 28 (inB h a b) k
  | .notin => noC 29 (inB h a b) k
def b2z (b : Bool) : Int := match b with | true => 1 | false => 0
structure Cl where
  exc : Bool
  bases : List Nat   -- codes of builtin base classes
  init : Option Nat
  ms : List (Nat × Nat)
  fs : List Nat      -- an exception's fields (its __init__ stores its arguments)
structure Fn where
  ps : Nat          -- parameters
  n : Nat           -- slots
  dfl : List W      -- defaults of the last parameters
  body : CallT → Stm
structure Prog where
  fns : Nat → Option Fn
  cls : Nat → Option Cl

/-! expressions -/
def cVar (i : Nat) : Sem := fun σ h _ k => opt 200 (eget σ i) fun w => k w h
def cCon (w : W) : Sem := fun _ h _ k => k w h
def cAll (it : Sit) : Slt := fun σ h kx k => it σ h kx fun w h => opt 59 (wkAll h w) fun xs => k xs h
def lenW (w : W) (h : H) (k : KW) : B := match w with
  | .tup xs => k (.int (.ofNat xs.length)) h
  | .str xs => match small xs with
    | true => k (.int (.ofNat xs.length)) h
    | false => stop 59
  | .ob n => match h.get n with
    | some (.lst xs) => k (.int (.ofNat xs.length)) h
    | some (.dct xs) => k (.int (.ofNat xs.length)) h
    | _ => stop 59
  | _ => stop 59
def cLen (e : Sem) : Sem := fun σ h kx k => e σ h kx fun w h => lenW w h k
def cTwo (a b : Sem) : Slt := fun σ h kx k => a σ h kx fun x h => b σ h kx fun y h => k [x, y] h
def aNil : Slt := fun _ h _ k => k [] h
def aOne (e : Sem) (r : Slt) : Slt := fun σ h kx k => e σ h kx fun w h => r σ h kx fun ws h => k (w :: ws) h
def aStar (e : Slt) (r : Slt) : Slt := fun σ h kx k => e σ h kx fun xs h => r σ h kx fun ws h => k (xs ++ ws) h
def cTup (es : Slt) : Sem := fun σ h kx k => es σ h kx fun ws h => tupK ws h k
def cLst (es : Slt) : Sem := fun σ h kx k => es σ h kx fun ws h => newK h (.lst ws) k
def cBin (op : Op) (a b : Sem) : Sem := fun σ h kx k => a σ h kx fun x h => b σ h kx fun y h => binW op x y h k
def negW (x : W) (h : H) (k : KW) : B := match x with
  | .int i => k (.int (-i)) h
  | _ => stop 201
def cNeg (a : Sem) : Sem := fun σ h kx k => a σ h kx fun x h => negW x h k
abbrev Tst := Env → H → KX → (Bool → H → B) → B
/-- a value as a test -/
def tVal (a : Sem) : Tst := fun σ h kx k => a σ h kx fun x h => opt 71 (truthy h x) fun b => k b h
def tNot (a : Tst) : Tst := fun σ h kx k => a σ h kx fun b h => k (!b) h
def tAnd (a b : Tst) : Tst := fun σ h kx k => a σ h kx fun x h => match x with
  | true => b σ h kx k
  | false => k false h
def tOr (a b : Tst) : Tst := fun σ h kx k => a σ h kx fun x h => match x with
  | true => k true h
  | false => b σ h kx k
def tIte (c a b : Tst) : Tst := fun σ h kx k => c σ h kx fun x h => match x with
  | true => a σ h kx k
  | false => b σ h kx k
def cNot (a : Sem) : Sem := fun σ h kx k => a σ h kx fun x h => opt 71 (truthy h x) fun b => k (.bl (!b)) h
def cAnd (a b : Sem) : Sem := fun σ h kx k => a σ h kx fun x h => opt 74 (truthy h x) fun t => match t with
  | true => b σ h kx k
  | false => k x h
def cOr (a b : Sem) : Sem := fun σ h kx k => a σ h kx fun x h => opt 74 (truthy h x) fun t => match t with
  | true => k x h
  | false => b σ h kx k
def cIte (c : Tst) (a b : Sem) : Sem := fun σ h kx k => c σ h kx fun t h => match t with
  | true => a σ h kx k
  | false => b σ h kx k
def cCmp (op : Cm) (a b : Sem) : Sem := fun σ h kx k => a σ h kx fun x h => b σ h kx fun y h => cmpB op x y h fun b => k (.bl b) h
def tCmp (op : Cm) (a b : Sem) : Tst := fun σ h kx k => a σ h kx fun x h => b σ h kx fun y h => cmpB op x y h fun b => k b h
def cCmp2 (op op' : Cm) (a b c : Sem) : Sem := fun σ h kx k => a σ h kx fun x h => b σ h kx fun y h => cmpB op x y h fun t => match t with
  | true => c σ h kx fun z h => cmpB op' y z h fun b => k (.bl b) h
  | false => k (.bl false) h
def tCmp2 (op op' : Cm) (a b c : Sem) : Tst := fun σ h kx k => a σ h kx fun x h => b σ h kx fun y h => cmpB op x y h fun t => match t with
  | true => c σ h kx fun z h => cmpB op' y z h fun b => k b h
  | false => k false h
def idxSeq (xs : List W) (k : W) (h : H) (kr : KW) : B := match k with
  | .int j => opt 151 (ix xs.length j) fun j => opt 150 (nthW xs j) fun w => kr w h
  | _ => stop 153
def dgetH (h : H) (k : W) (kvs : List (W × W)) : Option (Option W) := match isKey k with
  | true => dget (eqW h DEEP) k kvs
  | false => none
def dputH (h : H) (k w : W) (acc : List (W × W)) : Option (List (W × W)) := match isKey k with
  | true => dput (eqW h DEEP) k w acc
  | false => none
def idxW (o k : W) (h : H) (kr : KW) : B := match o with
  | .tup xs => idxSeq xs k h kr
  | .str xs => match k with
    | .int j => match small xs with
      | true => opt 154 (ix xs.length j) fun j => opt 155 (nthW xs j) fun c => kr (.str [c]) h
      | false => stop 156
    | _ => stop 156
  | .ob n => match h.get n with
    | some (.lst xs) => idxSeq xs k h kr
    | some (.dct kvs) => opt 160 (dgetH h k kvs) fun r => opt 161 r fun w => kr w h
    | _ => stop 163
  | _ => stop 164
def cIdx (a i : Sem) : Sem := fun σ h kx k => a σ h kx fun x h => i σ h kx fun y h => idxW x y h k
def optInt (w : W) : Option (Option Int) := match w with
  | .int i => some (some i)
  | .non => some none
  | _ => none
def intK (w : W) (h : H) (k : KW) : B := match w with
  | .int i => k (.int i) h
  | _ => stop 166
/-- a part that is an int -/
def cIntO (a : Sem) : Sem := fun σ h kx k => a σ h kx fun w h => intK w h k
def slcW (x : W) (l u : Option Int) (h : H) (k : KW) : B := match x with
  | .tup xs => k (.tup (sliceL xs l u)) h
  | .str xs => match small xs with
    | true => k (.str (sliceL xs l u)) h
    | false => stop 203
  | .ob n => match h.get n with
    | some (.lst xs) => newK h (.lst (sliceL xs l u)) k
    | _ => stop 202
  | _ => stop 203
def cSlc (a lo hi : Sem) : Sem := fun σ h kx k => a σ h kx fun x h => lo σ h kx fun l h => opt 165 (optInt l) fun l => hi σ h kx fun u h => opt 165 (optInt u) fun u => slcW x l u h k
def revW (x : W) (h : H) (k : KW) : B := match x with
  | .tup xs => k (.tup xs.reverse) h
  | .ob n => match h.get n with
    | some (.lst xs) => newK h (.lst xs.reverse) k
    | _ => stop 204
  | _ => stop 205
def cRev (a : Sem) : Sem := fun σ h kx k => a σ h kx fun x h => revW x h k
/-- the items of a list; of a list or a tuple -/
def lstW (w : W) (h : H) (k : List W → H → B) : B := match w with
  | .ob n => match h.get n with
    | some (.lst xs) => k xs h
    | _ => stop 58
  | _ => stop 58
def seqW (w : W) (h : H) (k : List W → H → B) : B := match w with
  | .tup xs => k xs h
  | w => lstW w h k
def cLstOf (e : Sem) : Slt := fun σ h kx k => e σ h kx fun w h => lstW w h k
def cSeqOf (e : Sem) : Slt := fun σ h kx k => e σ h kx fun w h => seqW w h k
/-- list(zip(a, b)) -/
def cLz (a b : Sem) : Sem := fun σ h kx k => a σ h kx fun x h => b σ h kx fun y h => seqW x h fun xs h => seqW y h fun ys h => newK h (.lst (zipL xs ys)) k
/-- a list backwards -/
def cRevL (a : Sem) : Sem := fun σ h kx k => a σ h kx fun x h => lstW x h fun xs h => newK h (.lst xs.reverse) k
def revA (w : W) (h : H) (k : KW) : B := match w with
  | .tup xs => k (.tup xs.reverse) h
  | w => lstW w h fun xs h => newK h (.lst xs.reverse) k
def cRevA (a : Sem) : Sem := fun σ h kx k => a σ h kx fun x h => revA x h k
def attW (x : W) (f : Nat) (h : H) (k : KW) : B := match x with
  | .ob n => match h.get n with
    | some (.ins _ fs) => opt 206 (fget fs f) fun w => k w h
    | _ => stop 207
  | _ => stop 208
def cAtt (a : Sem) (f : Nat) : Sem := fun σ h kx k => a σ h kx fun x h => attW x f h k
/-! iterables -/
def iVal (e : Sem) : Sit := fun σ h kx k => e σ h kx fun w h => opt 50 (wkOf h w) fun q => k q h
/-- a list, a tuple or a text -/
def wkSeq (w : W) (h : H) (k : Wk → H → B) : B := match w with
  | .tup xs => k (.rest xs) h
  | .str cs => k (.rest (cs.map fun c => .str [c])) h
  | .ob n => match h.get n with
    | some (.lst _) => k (.lst n 0) h
    | _ => stop 50
  | _ => stop 50
def iSeq (e : Sem) : Sit := fun σ h kx k => e σ h kx fun w h => wkSeq w h k
def smallZ (i : Int) : Bool := match ltZ i 4611686018427387904 with
  | true => match ltZ i (-4611686018427387904) with
    | true => false
    | false => true
  | false => false
def rng1 (w : W) (h : H) (k : Wk → H → B) : B := match w with
  | .int i => match smallZ i with
    | true => match i with
      | .ofNat n => k (.rng (.ofNat 0) n) h
      | .negSucc _ => k (.rng (.ofNat 0) 0) h
    | false => stop 51
  | _ => stop 51
def rng2 (a b : W) (h : H) (k : Wk → H → B) : B := match a with
  | .int i => match b with
    | .int j => match (smallZ i && smallZ j) with
      | true => k (.rng i (j - i).toNat) h
      | false => stop 52
    | _ => stop 52
  | _ => stop 52
def iRng1 (e : Sem) : Sit := fun σ h kx k => e σ h kx fun w h => rng1 w h k
def iRng2 (a b : Sem) : Sit := fun σ h kx k => a σ h kx fun x h => b σ h kx fun y h => rng2 x y h k
def enumK (w : W) (h : H) (k : Wk → H → B) : B := match w with
  | .tup xs => k (.enum 0 (.rest xs)) h
  | .ob n => match h.get n with
    | some (.lst _) => k (.enum 0 (.lst n 0)) h
    | _ => stop 53
  | _ => stop 53
def iEnum (e : Sem) : Sit := fun σ h kx k => e σ h kx fun w h => enumK w h k
/-- what a zip takes from -/
def halfK (w : W) (h : H) (k : Wk → B) : B := match w with
  | .tup xs => k (.rest xs)
  | .ob n => match h.get n with
    | some (.lst _) => k (.lst n 0)
    | _ => stop 54
  | _ => stop 54
def zipK (x y : W) (h : H) (k : Wk → H → B) : B := halfK x h fun p => halfK y h fun q => k (.zip p q) h
def iZip (a b : Sem) : Sit := fun σ h kx k => a σ h kx fun x h => b σ h kx fun y h => zipK x y h k
def dctK (w : W) (h : H) (k : Nat → B) : B := match w with
  | .ob n => match h.get n with
    | some (.lck _) => k n
    | _ => stop 56
  | _ => stop 57
def iItems (e : Sem) : Sit := fun σ h kx k => e σ h kx fun w h => dctK w h fun n => k (.items n 0) h
def iValues (e : Sem) : Sit := fun σ h kx k => e σ h kx fun w h => dctK w h fun n => k (.values n 0) h
/-! stores -/
def tgSub (o i w : W) (σ : Env) (h : H) (k : KE) : B := match o with
  | .ob m => match h.get m with
    | some (.lst xs) => match i with
      | .int j => opt 63 (ix xs.length j) fun j => k σ (h.put m (.lst (setNth xs j w)))
      | _ => stop 64
    | some (.dct kvs) => opt 65 (dputH h i w kvs) fun kvs => putK h m (.dct kvs) fun h => k σ h
    | _ => stop 67
  | _ => stop 68
def tgAtt (o : W) (f : Nat) (w : W) (σ : Env) (h : H) (k : KE) : B := match o with
  | .ob m => match h.get m with
    | some (.ins c fs) => match Nat.blt fs.length 1000 with
      | true => k σ (h.put m (.ins c (fput fs f w)))
      | false => stop 69
    | _ => stop 69
  | _ => stop 70
def unpk (w : W) (h : H) : Option (List W) := match w with
  | .tup xs => some xs
  | .ob k => match h.get k with
    | some (.lst xs) => some xs
    | _ => none
  | _ => none
def gSlot (i : Nat) : Stg := fun w σ h _ k => k (eset σ i (some w)) h
abbrev Sts := List W → Env → H → KX → KE → B
def gNil : Sts := fun ws σ h _ k => match ws with
  | [] => k σ h
  | _ :: _ => stop 60
def gCons (t : Stg) (r : Sts) : Sts := fun ws σ h kx k => match ws with
  | [] => stop 60
  | w :: ws => t w σ h kx fun σ h => r ws σ h kx k
def gTup (ts : Sts) : Stg := fun w σ h kx k => opt 62 (unpk w h) fun ws => ts ws σ h kx k
/-- (a, b, ..) = a tuple of n -/
def gTupN (n : Nat) (ts : Sts) : Stg := fun w σ h kx k => match w with
  | .tup ws => match Nat.beq ws.length n with
    | true => ts ws σ h kx k
    | false => stop 62
  | _ => stop 62
def setL (o i w : W) (h : H) (k : H → B) : B := match o with
  | .ob m => match h.get m with
    | some (.lst xs) => match i with
      | .int j => opt 63 (ix xs.length j) fun j => k (h.put m (.lst (setNth xs j w)))
      | _ => stop 64
    | _ => stop 67
  | _ => stop 67
def gSubL (e i : Sem) : Stg := fun w σ h kx k => e σ h kx fun o h => i σ h kx fun j h => setL o j w h fun h => k σ h
def setD (o i w : W) (h : H) (k : H → B) : B := match o with
  | .ob m => match h.get m with
    | some (.dct kvs) => match Nat.blt kvs.length LINE with
      | true => opt 65 (dputH h i w kvs) fun l => k (h.put m (.dct l))
      | false => stop 67
    | _ => stop 67
  | _ => stop 67
def isDct (o : W) (h : H) : Bool := match o with
  | .ob m => match h.get m with
    | some (.dct _) => true
    | _ => false
  | _ => false
def setA (o i w : W) (h : H) (k : H → B) : B := match isDct o h with
  | true => setD o i w h k
  | false => setL o i w h k
/-- a list's or a dict's item stored -/
def gSub (e i : Sem) : Stg := fun w σ h kx k => e σ h kx fun o h => i σ h kx fun j h => setA o j w h fun h => k σ h
def gAtt (e : Sem) (f : Nat) : Stg := fun w σ h kx k => e σ h kx fun o h => tgAtt o f w σ h k
/-! comprehensions: the turns bounded; the items made so far backwards -/
abbrev Gen (α : Type) := Env → List α → H → KX → (List α → H → B) → B
def wkGo (o : Option (Option (W × Wk))) (end_ : Unit → B) (go : W → Wk → B) (no : Nat) : B := match o with
  | some (some (x, q)) => go x q
  | some none => end_ ()
  | none => stop no
def walkG {α : Type} (t : Stg) (c : Tst) (inner : Gen α) (σ : Env) (kx : KX) (k : List α → H → B) : Nat → Wk → List α → H → B
  | 0 => fun _ _ _ => stop 82
  | n + 1 => fun q acc h => wkGo (wkNext h q) (fun _ => k acc h) (fun x q => t x σ h kx fun σ' h => c σ' h kx fun b h => match b with
      | true => inner σ' acc h kx fun acc h => walkG t c inner σ kx k n q acc h
      | false => walkG t c inner σ kx k n q acc h) 83
def TURNS : Nat := 100000
def tYes : Tst := fun _ h _ k => k true h
def qLast {α : Type} (fin : Env → H → KX → (α → H → B) → B) : Gen α := fun σ acc h kx k => fin σ h kx fun a h => k (a :: acc) h
def qGen {α : Type} (t : Stg) (it : Sit) (c : Tst) (inner : Gen α) : Gen α := fun σ acc h kx k => it σ h kx fun q h => walkG t c inner σ kx k TURNS q acc h
/-- slots forgotten -/
def ewipe (σ : Env) : List Nat → Env
  | [] => σ
  | i :: is => eset (ewipe σ is) i none
/-- no exception -/
def noX : KX := fun _ _ _ => stop 99
def walkL (t : Stg) (c : Tst) (e : Sem) (σ : Env) (k : List W → H → B) : Nat → Wk → List W → H → B
  | 0 => fun _ _ _ => stop 82
  | n + 1 => fun q acc h => wkGo (wkNext h q) (fun _ => k acc h) (fun x q => t x σ h noX fun σ' h => c σ' h noX fun b h => match b with
      | true => e σ' h noX fun w h => walkL t c e σ k n q (w :: acc) h
      | false => walkL t c e σ k n q acc h) 83
/-- [e for t in it if c], a new list's items -/
def sLc (vs : List Nat) (t : Stg) (it : Sit) (c : Tst) (e : Sem) : Slt := fun σ h kx k => it σ h kx fun q h => walkL t c e (ewipe σ vs) (fun acc h => k acc.reverse h) TURNS q [] h
def walkL2 (t : Stg) (c : Tst) (it1 : Sit) (vs1 : List Nat) (t1 : Stg) (c1 : Tst) (e : Sem) (σ : Env) (k : List W → H → B) : Nat → Wk → List W → H → B
  | 0 => fun _ _ _ => stop 82
  | n + 1 => fun q acc h => wkGo (wkNext h q) (fun _ => k acc h) (fun x q => t x σ h noX fun σ' h => c σ' h noX fun b h => match b with
      | true => it1 σ' h noX fun q1 h => match Nat.ble acc.length TURNS with
        | true => walkL t1 c1 e (ewipe σ' vs1) (fun acc h => walkL2 t c it1 vs1 t1 c1 e σ k n q acc h) TURNS q1 acc h
        | false => stop 84
      | false => walkL2 t c it1 vs1 t1 c1 e σ k n q acc h) 83
/-- [e for t in it if c for t1 in it1 if c1] -/
def sLc2 (vs : List Nat) (t : Stg) (it : Sit) (c : Tst) (vs1 : List Nat) (t1 : Stg) (it1 : Sit) (c1 : Tst) (e : Sem) : Slt := fun σ h kx k => it σ h kx fun q h => walkL2 t c it1 vs1 t1 c1 e (ewipe σ vs) (fun acc h => k acc.reverse h) TURNS q [] h
def walkD (t : Stg) (c : Tst) (ek ev : Sem) (σ : Env) (k : List (W × W) → H → B) : Nat → Wk → List (W × W) → H → B
  | 0 => fun _ _ _ => stop 82
  | n + 1 => fun q acc h => wkGo (wkNext h q) (fun _ => k acc h) (fun x q => t x σ h noX fun σ' h => c σ' h noX fun b h => match b with
      | true => ek σ' h noX fun x h => ev σ' h noX fun y h => opt 77 (dputH h x y acc) fun acc => walkD t c ek ev σ k n q acc h
      | false => walkD t c ek ev σ k n q acc h) 83
/-- {ek: ev for t in it if c} -/
def sDc (vs : List Nat) (t : Stg) (it : Sit) (c : Tst) (ek ev : Sem) : Sem := fun σ h kx k => it σ h kx fun q h => walkD t c ek ev (ewipe σ vs) (fun acc h => newK h (.dct acc) k) TURNS q [] h
def cLc (g : Gen W) : Sem := fun σ h kx k => g σ [] h kx fun ws h => newK h (.lst ws.reverse) k
/-- a comprehension whose list is taken at once -/
def cLcL (g : Gen W) : Slt := fun σ h kx k => g σ [] h kx fun ws h => k ws.reverse h
def kvW (a b : Sem) : Env → H → KX → (W × W → H → B) → B := fun σ h kx k => a σ h kx fun x h => b σ h kx fun y h => k (x, y) h
def dputsH (h : H) : List (W × W) → List (W × W) → Option (List (W × W))
  | acc, [] => some acc
  | acc, (k, v) :: r => match dputH h k v acc with
    | some acc' => dputsH h acc' r
    | none => none
def cDc (g : Gen (W × W)) : Sem := fun σ h kx k => g σ [] h kx fun ps h => opt 224 (dputsH h [] ps.reverse) fun kvs => newK h (.dct kvs) k
/-! dict displays -/
abbrev Dds := Env → List (W × W) → H → KX → (List (W × W) → H → B) → B
def dNil : Dds := fun _ acc h _ k => k acc h
def dPut (a b : Sem) (r : Dds) : Dds := fun σ acc h kx k => a σ h kx fun x h => b σ h kx fun y h => opt 77 (dputH h x y acc) fun acc => r σ acc h kx k
def ddStar (w : W) (acc : List (W × W)) (h : H) : Option (List (W × W)) := match w with
  | .ob n => match h.get n with
    | some (.dct kvs) => dputs (eqW h DEEP) acc kvs
    | _ => none
  | _ => none
def dStar (a : Sem) (r : Dds) : Dds := fun σ acc h kx k => a σ h kx fun x h => opt 79 (ddStar x acc h) fun acc => r σ acc h kx k
def cDd (d : Dds) : Sem := fun σ h kx k => d σ [] h kx fun kvs h => newK h (.dct kvs) k
/-! built-in functions -/
def pairsOf : List W → Option (List (W × W))
  | [] => some []
  | .tup [a, b] :: r => match pairsOf r with
    | some l => some ((a, b) :: l)
    | none => none
  | _ => none
def dupl : List W → List (W × W)
  | [] => []
  | x :: xs => (x, x) :: dupl xs
def seconds : List (W × W) → List W
  | [] => []
  | x :: xs => x.2 :: seconds xs
def lens (h : H) : List W → Option (List (W × W))
  | [] => some []
  | x :: xs => match seqOf h x with
    | some l => match lens h xs with
      | some r => some ((.int (.ofNat l.length), x) :: r)
      | none => none
    | none => none
def mostW (max : Bool) (h : H) (xs : List W) : Option W := match xs with
  | [] => none
  | x :: xs => match max with
    | true => maxW (ltW h DEEP) x xs
    | false => minW (ltW h DEEP) x xs
def boolsW : List W → Option (List Bool)
  | [] => some []
  | .bl b :: r => match boolsW r with
    | some l => some (b :: l)
    | none => none
  | _ => none
def anyB : List Bool → Bool
  | [] => false
  | b :: r => match b with | true => true | false => anyB r
def allB : List Bool → Bool
  | [] => true
  | b :: r => match b with | true => allB r | false => false
def intsW : List W → Option (List Int)
  | [] => some []
  | .int i :: r => match intsW r with
    | some l => some (i :: l)
    | none => none
  | _ => none
def sumZ : List Int → Int
  | [] => 0
  | i :: r => addZ i (sumZ r)
def maxZ : Int → List Int → Int
  | m, [] => m
  | m, i :: r => match ltZ m i with | true => maxZ i r | false => maxZ m r
def minZ : Int → List Int → Int
  | m, [] => m
  | m, i :: r => match ltZ i m with | true => minZ i r | false => minZ m r
def mostZ (max : Bool) (l : List Int) (h : H) (k : KW) : B := match l with
  | [] => stop 97
  | i :: r => match max with
    | true => k (.int (maxZ i r)) h
    | false => k (.int (minZ i r)) h
/-- a list made into something else -/
def bfW (f : Bf) (h : H) (xs : List W) (k : KW) : B := match f with
  | .len => k (.int (.ofNat xs.length)) h
  | .any => opt 90 (boolsW xs) fun l => k (.bl (anyB l)) h
  | .all => opt 91 (boolsW xs) fun l => k (.bl (allB l)) h
  | .sum => opt 92 (intsW xs) fun l => k (.int (sumZ l)) h
  | .sorted => opt 93 (sortL (ltW h DEEP) xs) fun ys => newK h (.lst ys) k
  | .sortedLen => opt 94 (lens h xs) fun ps => opt 95 (sortW (ltW h DEEP) [] ps) fun ps => newK h (.lst (seconds ps)) k
  | .tuple => tupK xs h k
  | .list => newK h (.lst xs) k
  | .max => opt 96 (intsW xs) fun l => mostZ true l h k
  | .min => opt 97 (intsW xs) fun l => mostZ false l h k
  | .dict => opt 100 (pairsOf xs) fun ps => opt 101 (dputsH h [] ps) fun kvs => newK h (.dct kvs) k
def cBf (f : Bf) (es : Slt) : Sem := fun σ h kx k => es σ h kx fun xs h => bfW f h xs k
def b1W (f : B1) (w : W) (h : H) (k : KW) : B := match f with
  | .abs => match w with
    | .int i => k (.int (.ofNat i.natAbs)) h
    | _ => stop 103
  | .int => match w with
    | .int i => k (.int i) h
    | .bl b => k (.int (b2z b)) h
    | _ => stop 104
  | .str => match w with
    | .int i => k (.str (strInt i)) h
    | .str s => k (.str s) h
    | _ => stop 105
/-- the less, the greater of two ints -/
def mm2 (f : Bf) (x y : W) (h : H) (k : KW) : B := match x with
  | .int i => match y with
    | .int j => match f with
      | .max => match ltZ i j with
        | true => k (.int j) h
        | false => k (.int i) h
      | .min => match ltZ j i with
        | true => k (.int j) h
        | false => k (.int i) h
      | _ => stop 98
    | _ => stop 98
  | _ => stop 98
def cMm (f : Bf) (a b : Sem) : Sem := fun σ h kx k => a σ h kx fun x h => b σ h kx fun y h => mm2 f x y h k
def cB1 (f : B1) (e : Sem) : Sem := fun σ h kx k => e σ h kx fun w h => b1W f w h k
def maxDW (xs : List W) (d : W) (h : H) (k : KW) : B := match xs with
  | [] => k d h
  | x :: xs => opt 97 (maxW (ltW h DEEP) x xs) fun m => k m h
def cMaxD (a d : Sem) : Sem := fun σ h kx k => a σ h kx fun x h => d σ h kx fun d h => opt 217 (seqOf h x) fun xs => maxDW xs d h k
/-- ints ascending, each once -/
def insI (i : Int) : List Int → List Int
  | [] => [i]
  | j :: r => match ltZ i j with
    | true => i :: j :: r
    | false => match eqZ i j with
      | true => j :: r
      | false => j :: insI i r
def setI : List Int → List Int
  | [] => []
  | i :: r => insI i (setI r)
def intsL : List Int → List W
  | [] => []
  | i :: r => .int i :: intsL r
def few {α : Type} (l : List α) : Bool := Nat.blt l.length 64
def ssetI (xs : List W) (h : H) (k : List Int → B) : B := opt 219 (intsW xs) fun l => match few l with
  | true => k (setI l)
  | false => stop 219
/-- texts ascending, each once -/
def insT (i : List Nat) : List (List Nat) → List (List Nat)
  | [] => [i]
  | j :: r => match ltS i j with
    | true => i :: j :: r
    | false => match eqS i j with
      | true => j :: r
      | false => j :: insT i r
def setT : List (List Nat) → List (List Nat)
  | [] => []
  | i :: r => insT i (setT r)
def strsL : List (List Nat) → List W
  | [] => []
  | i :: r => .str i :: strsL r
def strsW : List W → Option (List (List Nat))
  | [] => some []
  | x :: xs => match x with
    | .str i => match strsW xs with
      | some l => some (i :: l)
      | none => none
    | _ => none
def ssetS (xs : List W) (h : H) (k : List (List Nat) → B) : B := opt 219 (strsW xs) fun l => match few l with
  | true => k (setT l)
  | false => stop 219
def ssetK (xs : List W) (h : H) (k : KW) : B := match xs with
  | [] => ssetI [] h fun l => newK h (.lst (intsL l)) k
  | x :: r => match x with
    | .str _ => ssetS (x :: r) h fun l => newK h (.lst (strsL l)) k
    | _ => ssetI (x :: r) h fun l => newK h (.lst (intsL l)) k
def cSset (es : Slt) : Sem := fun σ h kx k => es σ h kx fun xs h => ssetK xs h k
/-- sorted(x), x a list or a dict of ints -/
def keysI : List (W × W) → Option (List Int)
  | [] => some []
  | p :: r => match p.1 with
    | .int i => match keysI r with
      | some l => some (i :: l)
      | none => none
    | _ => none
def insD (i : Int) : List Int → List Int
  | [] => [i]
  | j :: r => match ltZ j i with
    | true => j :: insD i r
    | false => i :: j :: r
def srtD : List Int → List Int
  | [] => []
  | i :: r => insD i (srtD r)
def srtW (w : W) (h : H) (k : KW) : B := match w with
  | .ob n => match h.get n with
    | some (.lst xs) => opt 93 (sortL (ltW h DEEP) xs) fun ys => newK h (.lst ys) k
    | some (.dct kvs) => opt 93 (keysI kvs) fun l => match few l with
      | true => newK h (.lst (intsL (srtD l))) k
      | false => stop 93
    | _ => stop 93
  | _ => stop 93
def cSrt (e : Sem) : Sem := fun σ h kx k => e σ h kx fun w h => srtW w h k
/-- list(d.values()) -/
def secs : List (W × W) → List W
  | [] => []
  | p :: r => p.2 :: secs r
def dvlW (w : W) (h : H) (k : KW) : B := match w with
  | .ob n => match h.get n with
    | some (.dct kvs) => newK h (.lst (secs kvs)) k
    | _ => stop 95
  | _ => stop 95
def cDvl (e : Sem) : Sem := fun σ h kx k => e σ h kx fun w h => dvlW w h k
def cLset (es : Slt) : Sem := fun σ h kx k => es σ h kx fun xs h => ssetI xs h fun l => k (.int (.ofNat l.length)) h
/-! methods of built-in types -/
def joinS (sep : List Nat) : List W → Option (List Nat)
  | [] => some []
  | [.str s] => some s
  | .str s :: x :: r => match joinS sep (x :: r) with
    | some t => some (s ++ (sep ++ t))
    | none => none
  | _ => none
def unsnoc : List W → Option (List W × W)
  | [] => none
  | x :: xs => match unsnoc xs with
    | none => some ([], x)
    | some (r, l) => some (x :: r, l)
def bmLst (m : Bm) (n : Nat) (xs : List W) (ws : List W) (h : H) (k : KW) : B := match m with
  | .append => match ws with
    | [w] => putK h n (.lst (xs ++ [w])) fun h => k .non h
    | _ => stop 110
  | .extend => match ws with
    | [w] => lstW w h fun ys h => putK h n (.lst (xs ++ ys)) fun h => k .non h
    | _ => stop 112
  | .pop => match ws with
    | [] => opt 113 (unsnoc xs) fun p => k p.2 (h.put n (.lst p.1))
    | [.int i] => opt 114 (ix xs.length i) fun j => opt 115 (nthW xs j) fun x => k x (h.put n (.lst (xs.take j ++ xs.drop (Nat.succ j))))
    | _ => stop 116
  | .remove => match ws with
    | [w] => opt 117 (remW (eqW h DEEP) w xs) fun ys => k .non (h.put n (.lst ys))
    | _ => stop 118
  | .count => match ws with
    | [w] => opt 119 (cntW (eqW h DEEP) w xs) fun c => k (.int (.ofNat c)) h
    | _ => stop 120
  | _ => stop 121
def popD (r : Option W) (d key : W) (n : Nat) (kvs : List (W × W)) (h : H) (k : KW) : B := match r with
  | some w => opt 128 (ddel (eqW h DEEP) key kvs) fun kvs => k w (h.put n (.dct kvs))
  | none => k d h
def setDef (r : Option W) (d key : W) (n : Nat) (kvs : List (W × W)) (h : H) (k : KW) : B := match r with
  | some w => k w h
  | none => putK h n (.dct (kvs ++ [(key, d)])) fun h => k d h
def bmDct (m : Bm) (n : Nat) (kvs : List (W × W)) (ws : List W) (h : H) (k : KW) : B := match m with
  | .get => match ws with
    | [key] => opt 122 (dgetH h key kvs) fun r => k (r.getD .non) h
    | [key, d] => opt 123 (dgetH h key kvs) fun r => k (r.getD d) h
    | _ => stop 124
  | .setdefault => match ws with
    | [key, d] => opt 125 (dgetH h key kvs) fun r => setDef r d key n kvs h k
    | _ => stop 126
  | .pop => match ws with
    | [key, d] => opt 127 (dgetH h key kvs) fun r => popD r d key n kvs h k
    | _ => stop 129
  | _ => stop 130
def bmW (m : Bm) (o : W) (ws : List W) (h : H) (k : KW) : B := match o with
  | .ob n => match h.get n with
    | some (.lst xs) => bmLst m n xs ws h k
    | some (.dct kvs) => bmDct m n kvs ws h k
    | _ => stop 131
  | .tup xs => match m with
    | .count => match ws with
      | [w] => opt 132 (cntW (eqW h DEEP) w xs) fun c => k (.int (.ofNat c)) h
      | _ => stop 133
    | _ => stop 134
  | .str s => match m with
    | .join => match ws with
      | [w] => opt 135 (seqOf h w) fun xs => opt 136 (joinS s xs) fun t => k (.str t) h
      | _ => stop 137
    | _ => stop 138
  | _ => stop 139
/-- a list stands there -/
def lstHere (w : W) (h : H) (r : B) : B := match w with
  | .ob n => match h.get n with
    | some (.lst _) => r
    | _ => stop 131
  | _ => stop 131
def lmW (m : Bm) (w : W) (ws : List W) (h : H) (k : KW) : B := match w with
  | .ob n => match h.get n with
    | some (.lst xs) => bmLst m n xs ws h k
    | _ => stop 131
  | _ => stop 131
def cLm (m : Bm) (o : Sem) (es : Slt) : Sem := fun σ h kx k => o σ h kx fun x h => lstHere x h (es σ h kx fun ws h => lmW m x ws h k)
def dctHere (w : W) (h : H) (r : B) : B := match w with
  | .ob n => match h.get n with
    | some (.dct _) => r
    | _ => stop 131
  | _ => stop 131
def dmW (m : Bm) (w : W) (ws : List W) (h : H) (k : KW) : B := match w with
  | .ob n => match h.get n with
    | some (.dct xs) => bmDct m n xs ws h k
    | _ => stop 131
  | _ => stop 131
def cDm (m : Bm) (o : Sem) (es : Slt) : Sem := fun σ h kx k => o σ h kx fun x h => dctHere x h (es σ h kx fun ws h => dmW m x ws h k)
def cBm (m : Bm) (o : Sem) (es : Slt) : Sem := fun σ h kx k => o σ h kx fun x h => es σ h kx fun ws h => bmW m x ws h k
/-! calls -/
abbrev Sks := Env → H → KX → (List (Nat × W) → H → B) → B
def kNil : Sks := fun _ h _ k => k [] h
def kCons (i : Nat) (e : Sem) (r : Sks) : Sks := fun σ h kx k => e σ h kx fun w h => r σ h kx fun ks h => k ((i, w) :: ks) h
/-- arguments put in their places -/
def argAt (n : Nat) (ps : List W) (ks : List (Nat × W)) (dfl : List W) (i : Nat) : Option W := match nthW ps i with
  | some w => some w
  | none => match fget ks i with
    | some w => some w
    | none => match Nat.ble (Nat.sub n dfl.length) i with
      | true => nthW dfl (Nat.sub i (Nat.sub n dfl.length))
      | false => none
def putArgsGo (n : Nat) (ps : List W) (ks : List (Nat × W)) (dfl : List W) : Nat → Nat → Option (List W)
  | 0, _ => some []
  | m + 1, i => match argAt n ps ks dfl i with
    | some w => match putArgsGo n ps ks dfl m (Nat.succ i) with
      | some r => some (w :: r)
      | none => none
    | none => none
def putArgs (n : Nat) (ps : List W) (ks : List (Nat × W)) (dfl : List W) : Option (List W) := match Nat.ble ps.length n with
  | true => putArgsGo n ps ks dfl n 0
  | false => none
/-- f(e, ..), a def of n parameters: all given, by place -/
def cCall (C : CallT) (f : Nat) (es : Slt) : Sem := fun σ h kx k => es σ h kx fun ws h => C f ws h kx k
/-- items in another order -/
def permL {α : Type} (l : List α) : List Nat → List α
  | [] => []
  | i :: r => match nthW l i with
    | some x => x :: permL l r
    | none => permL l r
/-- f(.., k = e): the values as they are written, put in the parameters' order; n by place -/
def callP (C : CallT) (f n : Nat) (p : List Nat) (us ws : List W) (h : H) (kx : KX) (k : KW) : B := match Nat.beq us.length n with
  | true => match Nat.beq (Nat.add n ws.length) p.length with
    | true => C f (permL (us ++ ws) p) h kx k
    | false => stop 141
  | false => stop 141
def cCallP (C : CallT) (f n : Nat) (p : List Nat) (a b : Slt) : Sem := fun σ h kx k => a σ h kx fun us h => b σ h kx fun ws h => callP C f n p us ws h kx k
/-- .. with keywords or defaults -/
def cCallK (C : CallT) (f n : Nat) (dfl : List W) (es : Slt) (ks : Sks) : Sem := fun σ h kx k => es σ h kx fun ws h => ks σ h kx fun ks h => opt 140 (putArgs n ws ks dfl) fun args => C f args h kx k
def callvW (C : CallT) (g : W) (ws : List W) (h : H) (kx : KX) (k : KW) : B := match g with
  | .fn f => C f ws h kx k
  | _ => stop 209
def cCallv (C : CallT) (f : Sem) (es : Slt) : Sem := fun σ h kx k => f σ h kx fun g h => es σ h kx fun ws h => callvW C g ws h kx k
/-- C(e, ..) of an own class with the __init__ f; of one without -/
def nonK (w : W) (r : B) : B := match w with
  | .non => r
  | _ => stop 215
def cNew (C : CallT) (c f : Nat) (es : Slt) : Sem := fun σ h kx k => es σ h kx fun ws h => newK h (.ins c []) fun o h => C f (o :: ws) h kx fun w h => nonK w (k o h)
/-- an instance of the class c, no field of its own has the number m -/
def insHere (c m : Nat) (x : W) (h : H) (r : B) : B := match x with
  | .ob n => match h.get n with
    | some (.ins c' fs) => match Nat.beq c' c with
      | true => match fget fs m with
        | none => r
        | some _ => stop 212
      | false => stop 213
    | _ => stop 213
  | _ => stop 214
/-- o.m(e, ..), m a method of the class c -/
def cMeth1 (C : CallT) (o : Sem) (c m f : Nat) (es : Slt) : Sem := fun σ h kx k => o σ h kx fun x h => insHere c m x h (es σ h kx fun ws h => C f (x :: ws) h kx k)
def cNew0 (c : Nat) : Sem := fun _ h _ k => newK h (.ins c []) k
def methOf : List (Nat × Nat) → Nat → Option Nat
  | [], _ => none
  | (a, f) :: r, m => match Nat.beq a m with
    | true => some f
    | false => methOf r m
/-- o.m(e, ..): by the instance's class -/
def methW (C : CallT) (x : W) (ms : List (Nat × Nat)) (ws : List W) (h : H) (kx : KX) (k : KW) : B := match x with
  | .ob n => match h.get n with
    | some (.ins c _) => opt 211 (methOf ms c) fun f => C f (x :: ws) h kx k
    | _ => stop 213
  | _ => stop 214
def cMeth (C : CallT) (o : Sem) (ms : List (Nat × Nat)) (es : Slt) : Sem := fun σ h kx k => o σ h kx fun x h => es σ h kx fun ws h => methW C x ms ws h kx k
def cIsb (e : Sem) (ts : List Ty) : Sem := fun σ h kx k => e σ h kx fun w h => okB 226 (isBts h w ts) h k
def cIsi (e : Sem) (ts : List Ty) : Sem := fun σ h kx k => e σ h kx fun w h => okB 226 (isTys h w ts) h k
def takeW (x y : W) (h : H) (k : KW) : B := match x with
  | .ob n => match h.get n with
    | some (.urn t) => match y with
      | .int (.ofNat b) => match Nat.blt t 1000000 with
        | true => match Nat.blt 0 b with
          | true => match Nat.blt b 1000000 with
            | true => belowAll (fun d => k (.int (.ofNat d)) (h.put n (.urn (Nat.succ t)))) b
            | false => stop 226
          | false => stop 226
        | false => stop 226
      | _ => stop 227
    | _ => stop 228
  | _ => stop 229
def cTake (u b : Sem) : Sem := fun σ h kx k => u σ h kx fun x h => b σ h kx fun y h => takeW x y h k
def isCells (x : W) (h : H) (r : B) : B := match x with
  | .ob n => match h.get n with
    | some .cells => r
    | _ => stop 230
  | .fn n => match n with
    | 0 => r
    | _ + 1 => stop 230
  | _ => stop 231
def isCellO (x : W) (h : H) (r : B) : B := match x with
  | .ob n => match h.get n with
    | some .cells => r
    | _ => stop 230
  | _ => stop 231
def isOne (x : W) (r : B) : B := match x with
  | .int (.ofNat 1) => r
  | _ => stop 232
def isZero (x : W) (r : B) : B := match x with
  | .int (.ofNat 0) => r
  | _ => stop 233
def cBox (e i : Sem) : Sem := fun σ h kx k => e σ h kx fun x h => i σ h kx fun y h => isCellO x h (isZero y (newK h (.urn 0) k))
def cCells (s m : Sem) : Sem := fun σ h kx k => s σ h kx fun x h => m σ h kx fun y h => isCells x h (isOne y (newK h .cells k))
/-! statements -/
def bNil : Stm := fun σ h nx _ _ _ _ => nx σ h
def bCons (s r : Stm) : Stm := fun σ h nx rt bk ct ex => s σ h (fun σ h => r σ h nx rt bk ct ex) rt bk ct ex
def sEx (e : Sem) : Stm := fun σ h nx _ _ _ ex => e σ h ex fun _ h => nx σ h
def sAsg (t : Stg) (e : Sem) : Stm := fun σ h nx _ _ _ ex => e σ h ex fun w h => t w σ h ex nx
def esets : List Nat → List W → Env → Option Env
  | [], [], σ => some σ
  | i :: is, w :: ws, σ => esets is ws (eset σ i (some w))
  | _, _, _ => none
/-- several names at once -/
def sPar (is : List Nat) (es : Slt) : Stm := fun σ h nx _ _ _ ex => es σ h ex fun ws h => opt 63 (esets is ws σ) fun σ => nx σ h
def sRet (e : Sem) : Stm := fun σ h _ rt _ _ ex => e σ h ex rt
def sRetN : Stm := fun _ h _ rt _ _ _ => rt .non h
/-- a dict is locked while s runs: it is walked, not written -/
def unlkK (n : Nat) (h : H) (k : H → B) : B := match h.get n with
  | some (.lck kvs) => k (h.put n (.dct kvs))
  | _ => stop 241
def lockK (w : W) (h : H) (k : Nat → H → B) : B := match w with
  | .ob n => match h.get n with
    | some (.dct kvs) => k n (h.put n (.lck kvs))
    | _ => stop 240
  | _ => stop 240
def sLock (i : Nat) (s : Stm) : Stm := fun σ h nx rt bk ct _ => opt 240 (eget σ i) fun w => lockK w h fun n h =>
  s σ h (fun σ h => unlkK n h fun h => nx σ h) (fun w h => unlkK n h fun h => rt w h) (fun σ h => unlkK n h fun h => bk σ h) (fun σ h => unlkK n h fun h => ct σ h) noX
def sIte (c : Tst) (a b : Stm) : Stm := fun σ h nx rt bk ct ex => c σ h ex fun t h => match t with
  | true => a σ h nx rt bk ct ex
  | false => b σ h nx rt bk ct ex
def whlW (c : Tst) (b : Stm) (nx : KE) (rt : KW) (ex : KX) : Nat → KE
  | 0 => fun _ _ => stop 300
  | n + 1 => fun σ h => c σ h ex fun t h => match t with
    | true => b σ h (whlW c b nx rt ex n) rt nx (whlW c b nx rt ex n) ex
    | false => nx σ h
def sWhl (c : Tst) (b : Stm) : Stm := fun σ h nx rt _ _ ex => whlW c b nx rt ex TURNS σ h
def forW (t : Stg) (b : Stm) (nx : KE) (rt : KW) (ex : KX) : Nat → Wk → KE
  | 0 => fun _ _ _ => stop 302
  | n + 1 => fun q σ h => wkGo (wkNext h q) (fun _ => nx σ h) (fun x q => t x σ h ex fun σ h => b σ h (forW t b nx rt ex n q) rt nx (forW t b nx rt ex n q) ex) 303
def sFor (t : Stg) (it : Sit) (b : Stm) : Stm := fun σ h nx rt _ _ ex => it σ h ex fun q h => forW t b nx rt ex TURNS q σ h
/-- raise C(e, ..) -/
def sRaise (c : Nat) (es : Slt) : Stm := fun σ h _ _ _ _ ex => es σ h ex fun ws h => ex c ws h
/-- except clauses: the class, the exception's values, the slots (all forgotten) -/
abbrev Hnd := Nat → List W → Env → H → KE → KW → KE → KE → KX → B
def hNil : Hnd := fun c ws σ h _ _ _ _ ex => ex c ws h
/-- the clause's name (its slot) is forgotten behind the suite -/
def outE (o : Option Nat) (k : KE) : KE := match o with
  | none => k
  | some i => fun σ h => k (eset σ i none) h
def hOn (c0 : Nat) (o : Option Nat) (b : List W → Stm) (r : Hnd) : Hnd := fun c ws σ h nx rt bk ct ex => match Nat.beq c0 c with
  | true => b ws σ h (outE o nx) rt (outE o bk) (outE o ct) ex
  | false => r c ws σ h nx rt bk ct ex
def nones : Nat → Env
  | 0 => []
  | n + 1 => none :: nones n
/-- n slots -/
def sTry (n : Nat) (b : Stm) (hs : Hnd) : Stm := fun σ h nx rt bk ct ex => b σ h nx rt bk ct fun c ws h => hs c ws (nones n) h nx rt bk ct ex
/-- a caught exception's value -/
def cXf (ws : List W) (j : Nat) : Sem := fun _ h _ k => opt 220 (nthW ws j) fun w => k w h
def sPass : Stm := fun σ h nx _ _ _ _ => nx σ h
/-- not told -/
def sStop (k : Nat) : Stm := fun _ _ _ _ _ _ _ => stop k
def sBrk : Stm := fun σ h _ _ bk _ _ => bk σ h
def sCnt : Stm := fun σ h _ _ _ ct _ => ct σ h
def delW (o key : W) (σ : Env) (h : H) (nx : KE) : B := match o with
  | .ob n => match h.get n with
    | some (.dct kvs) => opt 304 (ddel (eqW h DEEP) key kvs) fun kvs => nx σ (h.put n (.dct kvs))
    | _ => stop 305
  | _ => stop 306
def sDel (e i : Sem) : Stm := fun σ h nx _ _ _ ex => e σ h ex fun o h => i σ h ex fun j h => delW o j σ h nx
/-! the law's first defs -/
def takeB (_ : CallT) : Stm := sRet (cTake (cVar 0) (cVar 1))
def boxB (_ : CallT) : Stm := sRet (cBox (cVar 0) (cVar 1))
def cellsB (_ : CallT) : Stm := sRet (cCells (cVar 0) (cVar 1))
/-! the whole -/
def padN : Nat → Env
  | 0 => []
  | n + 1 => none :: padN n
def startW : Nat → List W → Env
  | n, [] => padN n
  | 0, w :: ws => some w :: startW 0 ws
  | n + 1, w :: ws => some w :: startW n ws
def callN (P : Prog) : Nat → CallT
  | 0 => fun _ _ _ _ _ => stop 402
  | n + 1 => fun f args h kx k => match P.fns f with
    | some fn => match Nat.beq args.length fn.ps with
      | true => fn.body (callN P n) (startW fn.n args) h (fun _ h => k .non h) k (fun _ _ => stop 403) (fun _ _ => stop 403) kx
      | false => stop 405
    | none => stop 404
def LEVEL : Nat := 115
def runLaw (P : Prog) (law : Nat) : B := callN P LEVEL law [.ob 0] ⟨1, T.put .cells 40 .nil 0⟩ (fun _ _ _ => stop 2) (fun w _ => isTrueW w)
def runLaw2 (P : Prog) (law : Nat) : B := callN P LEVEL law [.fn 0] ⟨1, .nil⟩ (fun _ _ _ => stop 2) (fun w _ => isTrueW w)
end
end FE
end
section
set_option Elab.async false
set_option linter.all false
set_option maxRecDepth 100000
/-! FeEv: an expression evaluates as a combinator does. -/
namespace FE
open PySem PySem.Spec PyProof.Rows L2

/-- an exception that flies -/
def ExR (G : GM) (K : PySem.W.Frag) (ρ : Rho) (H : Hp) (c : Nat) (ws : List W) (cls : Value) (d : Option Addr) : Prop :=
  ∃ C, G.ca c = some C ∧ cls = .ref C ∧ ((G.xf c = [] ∧ ws = [] ∧ d = none) ∨ ∃ dx vs, d = some dx ∧ H dx = some (.xd (((G.xf c).map G.fld).zip vs)) ∧ (∀ n, ρ n ≠ some dx) ∧ vs.length = (G.xf c).length ∧ RWs G K ρ H ws vs)
section
variable (G : GM) (K : PySem.W.Frag)
def Fin (ρ : Rho) (H : Hp) (k : KW) (Q : VK) : Prop := ∀ w h' v H' ρ', k w h' = true → Ext K ρ H ρ' H' → RH G K ρ' h' H' → RW G K ρ' H' w v → Q v H'
/-- what is wanted of an exception; what else is so -/
structure ZF where
  e : XK
  F : Rho → Hp → Prop
  st : ∀ ρ H ρ' H', Ext K ρ H ρ' H' → F ρ H → F ρ' H'
variable {K}
structure FinX (ρ : Rho) (H : Hp) (kx : KX) (Z : ZF K) : Prop where
  to : ∀ c ws h' cls d H' ρ', kx c ws h' = true → Ext K ρ H ρ' H' → RH G K ρ' h' H' → ExR G K ρ' H' c ws cls d → Z.e cls d H'
  F : Z.F ρ H
variable (K)
/-- the state stands for the evaluator's -/
structure Now (ρ : Rho) (e : FE.Env) (h : FE.H) (σ : L2.St) (H : Hp) : Prop where
  rh : RH G K ρ h H
  re : RE G K ρ H e σ
def EvE (Z : ZF K) (s : Sem) : TE := fun σ H Q => ∃ ρ e h kx k, Now G K ρ e h σ H ∧ s e h kx k = true ∧ Fin G K ρ H k Q ∧ FinX G ρ H kx Z
def EvT (Z : ZF K) (s : Tst) : TT := fun σ H Q => ∃ ρ e h kx k, Now G K ρ e h σ H ∧ s e h kx k = true ∧
  (∀ b h' H' ρ', k b h' = true → Ext K ρ H ρ' H' → RH G K ρ' h' H' → Q b H') ∧ FinX G ρ H kx Z
def EvA (Z : ZF K) (s : Slt) : TA := fun σ H Q => ∃ ρ e h kx k, Now G K ρ e h σ H ∧ s e h kx k = true ∧
  (∀ ws h' vs H' ρ', k ws h' = true → Ext K ρ H ρ' H' → RH G K ρ' h' H' → RWs G K ρ' H' ws vs → Q vs H') ∧ FinX G ρ H kx Z
/-- by a value -/
def V1 (f : W → FE.H → KW → B) : V → Hp → VK → Prop := fun x H Q => ∃ ρ h k w, RH G K ρ h H ∧ RW G K ρ H w x ∧ f w h k = true ∧ Fin G K ρ H k Q
/-- by two -/
def V2 (f : W → W → FE.H → KW → B) : V → V → Hp → VK → Prop := fun x y H Q => ∃ ρ h k w u, RH G K ρ h H ∧ RW G K ρ H w x ∧ RW G K ρ H u y ∧ f w u h k = true ∧ Fin G K ρ H k Q
/-- by several -/
def Vn (f : List W → FE.H → KW → B) : List V → Hp → VK → Prop := fun xs H Q => ∃ ρ h k ws, RH G K ρ h H ∧ RWs G K ρ H ws xs ∧ f ws h k = true ∧ Fin G K ρ H k Q
end
section
variable {G : GM} {K : PySem.W.Frag} {ρ ρ' ρ1 : Rho} {H H' H1 : Hp} {σ : L2.St} {e : FE.Env} {h h' : FE.H} {Z : ZF K}
theorem RE.mono (x : RE G K ρ H e σ) (t : Ext K ρ H ρ' H') : RE G K ρ' H' e σ := ⟨x.len, fun i w q => let ⟨v, a, b⟩ := x.val i w q; ⟨v, a, b.mono t⟩⟩
theorem Now.on (x : Now G K ρ e h σ H) (t : Ext K ρ H ρ' H') (r : RH G K ρ' h' H') : Now G K ρ' e h' σ H' := ⟨r, x.re.mono t⟩
theorem Fin.mono {k : KW} {Q : VK} (f : Fin G K ρ H k Q) (t : Ext K ρ H ρ' H') : Fin G K ρ' H' k Q := fun w h1 v H1 ρ1 a b c d => f w h1 v H1 ρ1 a (t.trans b) c d
theorem FinX.mono {k : KX} (f : FinX G ρ H k Z) (t : Ext K ρ H ρ' H') : FinX G ρ' H' k Z := ⟨fun c ws h1 cls d H1 ρ1 a b r x => f.to c ws h1 cls d H1 ρ1 a (t.trans b) r x, Z.st _ _ _ _ t f.F⟩
end
theorem _root_.L2.PE.imp {X : Cx} {e : Expr} {t t' : TE} (x : PE X e t) (i : ∀ σ H Q, t' σ H Q → t σ H Q) : PE X e t' := ⟨fun pins s σ H Q I h => x.run pins s σ H Q I (i σ H Q h)⟩
theorem _root_.L2.PT.imp {X : Cx} {e : Expr} {t t' : TT} (x : PT X e t) (i : ∀ σ H Q, t' σ H Q → t σ H Q) : PT X e t' := ⟨fun pins s σ H Q I h => x.run pins s σ H Q I (i σ H Q h)⟩
theorem _root_.L2.PA.imp {X : Cx} {e : List Expr} {t t' : TA} (x : PA X e t) (i : ∀ σ H Q, t' σ H Q → t σ H Q) : PA X e t' := ⟨fun pos pins s σ H Q I h => x.run pos pins s σ H Q I (i σ H Q h)⟩

section
variable {X : Cx} {G : GM} {Z : ZF X.K}
/-! ### names and constants -/
theorem ev_var {i : Nat} {x : Str} {pos : Pos} (hN : X.N[i]? = some x) (hv : Vis X.env.scope x) (hd : (x == ("__debug__" : Str)) = false) (hcd : (x == ("__classdict__" : Str)) = false) : PE X (.Name x pos) (EvE G X.K Z (cVar i)) :=
  (pe_var hN hv hd hcd).imp fun σ H Q ⟨ρ, e, h, kx, k, n, run, fin, _⟩ => by
    have run : opt 200 (eget e i) (fun w => k w h) = true := run
    cases q : eget e i with
    | none => rw [q] at run; cases run
    | some w =>
      rw [q] at run
      obtain ⟨v, a, b⟩ := n.re.val i w q
      exact ⟨v, a, fin w h v H ρ run .refl n.rh b⟩
theorem ev_con {e : Expr} {w : W} {v : V} (x : PE X e (tC v)) (r : ∀ ρ H, RW G X.K ρ H w v) : PE X e (EvE G X.K Z (cCon w)) :=
  x.imp fun σ H Q ⟨ρ, e, h, kx, k, n, run, fin, _⟩ => fin w h v H ρ run .refl n.rh (r ρ H)
/-! ### one behind the other -/
theorem EvE.then {s : Sem} {σ : L2.St} {H : Hp} {Q : VK} {ρ : Rho} {e : FE.Env} {h : FE.H} {kx : KX} {k : KW} (n : Now G X.K ρ e h σ H) (run : s e h kx k = true) (fx : FinX G ρ H kx Z)
    (fin : ∀ w h' v H' ρ', Ext X.K ρ H ρ' H' → Now G X.K ρ' e h' σ H' → RW G X.K ρ' H' w v → k w h' = true → FinX G ρ' H' kx Z → Q v H') : EvE G X.K Z s σ H Q :=
  ⟨ρ, e, h, kx, k, n, run, fun w h' v H' ρ' a b c d => fin w h' v H' ρ' b (n.on b c) d a (fx.mono b), fx⟩
theorem EvT.then {s : Tst} {σ : L2.St} {H : Hp} {Q : Bool → Hp → Prop} {ρ : Rho} {e : FE.Env} {h : FE.H} {kx : KX} {k : Bool → FE.H → B} (n : Now G X.K ρ e h σ H) (run : s e h kx k = true) (fx : FinX G ρ H kx Z)
    (fin : ∀ b h' H' ρ', Ext X.K ρ H ρ' H' → Now G X.K ρ' e h' σ H' → k b h' = true → FinX G ρ' H' kx Z → Q b H') : EvT G X.K Z s σ H Q :=
  ⟨ρ, e, h, kx, k, n, run, fun w h' H' ρ' a b c => fin w h' H' ρ' b (n.on b c) a (fx.mono b), fx⟩
theorem EvA.then {s : Slt} {σ : L2.St} {H : Hp} {Q : List V → Hp → Prop} {ρ : Rho} {e : FE.Env} {h : FE.H} {kx : KX} {k : List FE.W → FE.H → B} (n : Now G X.K ρ e h σ H) (run : s e h kx k = true) (fx : FinX G ρ H kx Z)
    (fin : ∀ ws h' vs H' ρ', Ext X.K ρ H ρ' H' → Now G X.K ρ' e h' σ H' → RWs G X.K ρ' H' ws vs → k ws h' = true → FinX G ρ' H' kx Z → Q vs H') : EvA G X.K Z s σ H Q :=
  ⟨ρ, e, h, kx, k, n, run, fun w h' v H' ρ' a b c d => fin w h' v H' ρ' b (n.on b c) d a (fx.mono b), fx⟩
variable {a b c : Expr} {pos : Pos} {sa sb sc : Sem} {ta tb tc : Tst}
/-- two values, then what they make -/
theorem ev_two {f : FE.W → FE.W → FE.H → KW → B} {s : Sem} (hs : ∀ e h kx k, s e h kx k = sa e h kx fun x h => sb e h kx fun y h => f x y h k) {E : Expr}
    (p : PE X E (tOp (V2 G X.K f) (EvE G X.K Z sa) (EvE G X.K Z sb))) : PE X E (EvE G X.K Z s) :=
  p.imp fun σ H Q ⟨ρ, e, h, kx, k, n, run, fin, fx⟩ => by
    rw [hs] at run
    refine EvE.then n run fx fun x h1 v H1 ρ1 t1 n1 r1 run1 fx1 => ?_
    refine EvE.then n1 run1 fx1 fun y h2 u H2 ρ2 t2 n2 r2 run2 fx2 => ?_
    exact ⟨ρ2, h2, k, x, y, n2.rh, r1.mono t2, r2, run2, (fin.mono t1).mono t2⟩
theorem ev_one {f : FE.W → FE.H → KW → B} {s : Sem} (hs : ∀ e h kx k, s e h kx k = sa e h kx fun x h => f x h k) {E : Expr}
    (p : PE X E (tUn (V1 G X.K f) (EvE G X.K Z sa))) : PE X E (EvE G X.K Z s) :=
  p.imp fun σ H Q ⟨ρ, e, h, kx, k, n, run, fin, fx⟩ => by
    rw [hs] at run
    refine EvE.then n run fx fun x h1 v H1 ρ1 t1 n1 r1 run1 fx1 => ?_
    exact ⟨ρ1, h1, k, x, n1.rh, r1, run1, fin.mono t1⟩
theorem ev_several {f : List FE.W → FE.H → KW → B} {s : Sem} {sl : Slt} (hs : ∀ e h kx k, s e h kx k = sl e h kx fun x h => f x h k) {E : Expr}
    (p : PE X E (tCB (Vn G X.K f) (EvA G X.K Z sl))) : PE X E (EvE G X.K Z s) :=
  p.imp fun σ H Q ⟨ρ, e, h, kx, k, n, run, fin, fx⟩ => by
    rw [hs] at run
    refine EvA.then n run fx fun x h1 v H1 ρ1 t1 n1 r1 run1 fx1 => ?_
    exact ⟨ρ1, h1, k, x, n1.rh, r1, run1, fin.mono t1⟩
/-! ### tests -/
theorem et_not (ha : PT X a (EvT G X.K Z ta)) : PT X (.UnaryOp .Not a pos) (EvT G X.K Z (tNot ta)) :=
  (pt_not ha).imp fun σ H Q ⟨ρ, e, h, kx, k, n, run, fin, fx⟩ => by
    have run : ta e h kx (fun b h => k (!b) h) = true := run
    exact EvT.then n run fx fun b h1 H1 ρ1 t1 n1 run1 _ => fin (!b) h1 H1 ρ1 run1 t1 n1.rh
end
end FE
end
section
set_option Elab.async false
set_option linter.all false
set_option maxRecDepth 100000
/-! FeNew: what is laid, what is written. -/
namespace FE
open PySem PySem.Spec PyProof.Rows L2
section
variable {G : GM} {K : PySem.W.Frag} {ρ ρ' : Rho} {H H' : Hp} {h : FE.H} {p a : Addr} {o : HO} {k : KW} {Q : VK}
theorem rd_upd {u : HO} (r : Rd H a u) (n : a ≠ p) : Rd (upd H p o) a u := by
  rcases r with e | ⟨ob, e⟩
  · exact .inl (by rw [upd_ne n]; exact e)
  · exact .inr ⟨ob, by rw [upd_ne n]; exact e⟩
theorem rd_there {u : HO} (r : Rd H a u) : H a ≠ none := by
  rcases r with e | ⟨ob, e⟩ <;> rw [e] <;> exact fun z => nomatch z
/-- what may be written: no tuple, nothing locked -/
structure NF (H : Hp) (p : Addr) : Prop where
  tup : ∀ u, Rd H p (.tup u) → False
  frz : ∀ ob u, H p ≠ some (.frz ob u)
theorem NF.none (h : H p = none) : NF H p := ⟨fun u z => rd_there z h, fun ob u z => by rw [h] at z; cases z⟩
theorem NF.stay {a : Addr} {ob : Obj} {u : HO} (n : NF H p) (z : H a = some (.frz ob u)) : upd H p o a = some (.frz ob u) := by
  rw [upd_ne (fun y => n.frz ob u (by rw [← y]; exact z) : a ≠ p)]
  exact z
theorem sqT_upd {xs : List V} (r : SqT K H a xs) (n : ∀ u, Rd H p (.tup u) → False) : SqT K (upd H p o) a xs := by
  rcases r with r | r
  · refine .inl (rd_upd r ?_)
    rintro rfl
    exact n _ r
  · exact .inr r
theorem pt_upd {xs : List V} (r : PTu H a xs) (n : NF H p) : PTu (upd H p o) a xs := let ⟨ob, d, e⟩ := r; ⟨ob, d, n.stay e⟩
theorem sqL_upd {xs : List V} (r : SqL K H a xs) (n : a ≠ p) : SqL K (upd H p o) a xs := by
  rcases r with r | r
  · exact .inl (rd_upd r n)
  · exact .inr r
/-- an object stays what it is -/
theorem ObjR.stay0 {w : O} (r : ObjR G K ρ H a w) (e : Ext0 K ρ H ρ' (upd H p o)) (n : a ≠ p) : ObjR G K ρ' (upd H p o) a w := by
  cases w with
  | lst ws => obtain ⟨xs, q, t⟩ := r; exact ⟨xs, by rw [upd_ne n]; exact q, t.mono0 e⟩
  | dct kvs => obtain ⟨xs, q, t⟩ := r; exact ⟨xs, by rw [upd_ne n]; exact q, t.mono0 e⟩
  | ins c fs => obtain ⟨C, dx, vs, q0, q, t⟩ := r; exact ⟨C, dx, vs, q0, by rw [upd_ne n]; exact q, t.mono0 e⟩
  | exc c fs => exact r
  | urn t => obtain ⟨u, v, c, q, b⟩ := r; exact ⟨u, v, c, by rw [upd_ne n]; exact q, b⟩
  | cells => obtain ⟨q0, xs, q, b⟩ := r; exact ⟨by rw [upd_ne n]; exact q0, xs, sqL_upd q n, b⟩
  | lck kvs => obtain ⟨ob, ks, q, t⟩ := r; exact ⟨ob, ks, by rw [upd_ne n]; exact q, t.mono0 e⟩
theorem ObjR.stay {w : O} (r : ObjR G K ρ H a w) (e : Ext K ρ H ρ' (upd H p o)) (n : a ≠ p) : ObjR G K ρ' (upd H p o) a w := r.stay0 e.toExt0 n
theorem upd_there (a : Addr) (h : H a ≠ none) : upd H p o a ≠ none := by
  by_cases y : a = p
  · rw [y, upd_same]; exact fun z => nomatch z
  · rw [upd_ne y]; exact h
theorem ext_new {ρ' : Rho} (hn : H p = none) (hr : ∀ n b, ρ n = some b → ρ' n = some b) (hr2 : ∀ n b, ρ' n = some b → ρ n = some b ∨ H b = none) : Ext K ρ H ρ' (upd H p o) :=
  ⟨⟨⟨hr, fun a xs q => sqT_upd q (fun u z => rd_there z hn), fun a xs q => pt_upd q (NF.none hn)⟩, fun a ob u q => (NF.none hn).stay q⟩, hr2, upd_there, fun a h _ => upd_ne fun z => h (z ▸ hn)⟩
theorem get_new {h : FE.H} {w : O} (hm : h.n < MOST) (j : Nat) : FE.H.get ⟨Nat.succ h.n, T.put w 40 h.t h.n⟩ j = if j = h.n then some w else h.get j := by
  obtain ⟨m, t⟩ := h
  exact T.get_put w 40 t m j (by have := most_lt; show m + 1 < 2 ^ 40; have : m < MOST := hm; omega)
/-- one more of what the evaluator sees -/
theorem RH.new (R : RH G K ρ h H) (hn : H p = none) (hm : h.n < MOST) {w : O} (ob : ∀ ρ', Ext K ρ H ρ' (upd H p o) → ObjR G K ρ' (upd H p o) p w) :
    ∃ ρ', ρ' h.n = some p ∧ Ext K ρ H ρ' (upd H p o) ∧ RH G K ρ' ⟨Nat.succ h.n, T.put w 40 h.t h.n⟩ (upd H p o) := by
  refine ⟨fun n => if n = h.n then some p else ρ n, by simp, ?_, ?_⟩
  · refine ext_new hn (fun n b e => ?_) fun n b e => ?_
    · have : n ≠ h.n := fun z => by rw [z, (R.top h.n (Nat.le_refl _)).1] at e; cases e
      simp [this, e]
    · by_cases z : n = h.n
      · simp only [z, if_true] at e; cases e; exact .inr hn
      · simp only [z, if_false] at e; exact .inl e
  · have ex : Ext K ρ H (fun n => if n = h.n then some p else ρ n) (upd H p o) := by
      refine ext_new hn (fun n b e => ?_) fun n b e => ?_
      · have : n ≠ h.n := fun z => by rw [z, (R.top h.n (Nat.le_refl _)).1] at e; cases e
        simp [this, e]
      · by_cases z : n = h.n
        · simp only [z, if_true] at e; cases e; exact .inr hn
        · simp only [z, if_false] at e; exact .inl e
    constructor
    · intro n w' e
      rw [get_new hm] at e
      by_cases z : n = h.n
      · rw [if_pos z] at e
        cases e
        exact ⟨p, by simp [z], ob _ ex⟩
      · rw [if_neg z] at e
        obtain ⟨a, q, t⟩ := R.obj n w' e
        exact ⟨a, by simp [z, q], t.stay ex fun y => R.live n a q (y ▸ hn)⟩
    · intro n m a e1 e2
      by_cases z1 : n = h.n
      · by_cases z2 : m = h.n
        · rw [z1, z2]
        · simp only [z1, if_true] at e1
          simp only [z2, if_false] at e2
          cases e1
          exact absurd hn (R.live _ _ e2)
      · by_cases z2 : m = h.n
        · simp only [z1, if_false] at e1
          simp only [z2, if_true] at e2
          cases e2
          exact absurd hn (R.live _ _ e1)
        · simp only [z1, z2, if_false] at e1 e2
          exact R.inj _ _ _ e1 e2
    · intro n hn'
      have hn' : h.n + 1 ≤ n := hn'
      have : n ≠ h.n := by omega
      refine ⟨by simp [this, (R.top n (by omega)).1], ?_⟩
      rw [get_new hm, if_neg this]
      exact (R.top n (by omega)).2
    · show h.n + 1 ≤ MOST; omega
    · intro n a e
      by_cases z : n = h.n
      · simp only [z, if_true] at e
        cases e
        rw [upd_same]; exact fun z => nomatch z
      · simp only [z, if_false] at e
        by_cases y : a = p
        · rw [y, upd_same]; exact fun z => nomatch z
        · rw [upd_ne y]; exact R.live n a e
theorem newK_inv {h : FE.H} {w : O} {k : KW} (run : newK h w k = true) : okO w = true ∧ h.n < MOST ∧ k (.ob h.n) ⟨Nat.succ h.n, T.put w 40 h.t h.n⟩ = true := by
  obtain ⟨m, t⟩ := h
  unfold newK at run
  cases e : okO w with
  | false => rw [e] at run; cases run
  | true =>
    rw [e] at run
    cases q : Nat.blt m MOST with
    | false => simp only [q] at run; cases run
    | true => simp only [q] at run; exact ⟨rfl, Nat.blt_eq.mp q, run⟩
theorem new_fin {w : O} (R : RH G K ρ h H) (hn : H p = none) (run : newK h w k = true) (fin : Fin G K ρ H k Q) (ob : ∀ ρ', Ext K ρ H ρ' (upd H p o) → ObjR G K ρ' (upd H p o) p w) : Q (.ref p) (upd H p o) := by
  obtain ⟨_, hm, run⟩ := newK_inv run
  obtain ⟨ρ', q, ex, R'⟩ := R.new hn hm ob
  exact fin _ _ _ _ _ run ex R' (.ob q)
theorem new_lst {ws : List FE.W} {xs : List V} (R : RH G K ρ h H) (hn : H p = none) (r : RWs G K ρ H ws xs) (run : newK h (.lst ws) k = true) (fin : Fin G K ρ H k Q) : Q (.ref p) (upd H p (.lst xs)) :=
  new_fin R hn run fin fun ρ' ex => ⟨xs, upd_same, r.mono ex⟩
/-- a tuple is laid: the evaluator's heap does not see it -/
theorem RH.any (R : RH G K ρ h H) (hn : H p = none) : Ext K ρ H ρ (upd H p o) ∧ RH G K ρ h (upd H p o) := by
  have ex : Ext K ρ H ρ (upd H p o) := ext_new hn (fun n b e => e) fun n b e => .inl e
  refine ⟨ex, fun n w e => ?_, R.inj, R.top, R.most, fun n a e => ?_⟩
  · obtain ⟨a, q, t⟩ := R.obj n w e
    exact ⟨a, q, t.stay ex fun y => R.live n a q (y ▸ hn)⟩
  · by_cases y : a = p
    · rw [y, upd_same]; exact fun z => nomatch z
    · rw [upd_ne y]; exact R.live n a e
theorem RH.tup {xs : List V} (R : RH G K ρ h H) (hn : H p = none) : Ext K ρ H ρ (upd H p (.tup xs)) ∧ RH G K ρ h (upd H p (.tup xs)) := R.any hn
theorem PTu.new {ob : Obj} {xs : List V} (d : ob.dict = none) : PTu (upd H p (.frz ob (.tup xs))) p xs := ⟨ob, d, upd_same⟩
theorem rw_new {ws : List FE.W} {ob : Obj} {xs : List V} (d : ob.dict = none) (r : RWs G K ρ (upd H p (.frz ob (.tup xs))) ws xs) : RW G K ρ (upd H p (.frz ob (.tup xs))) (.tup ws) (.ref p) := .tup (PTu.new d).sq r fun _ => PTu.new d
theorem tupK_inv {ws : List FE.W} {k : KW} {h : FE.H} (run : tupK ws h k = true) : ws.length ≤ sizeLine ∧ k (.tup ws) h = true := by
  unfold tupK at run
  split at run
  · next e => exact ⟨Nat.le_of_ble_eq_true e, run⟩
  · cases run
theorem tup_fin {ws : List FE.W} {xs : List V} (R : RH G K ρ h H) (hn : H p = none) (r : RWs G K ρ H ws xs) (run : k (.tup ws) h = true) (fin : Fin G K ρ H k Q) {ob : Obj} (d : ob.dict = none) : Q (.ref p) (upd H p (.frz ob (.tup xs))) := by
  obtain ⟨ex, R'⟩ := R.any (o := .frz ob (.tup xs)) hn
  exact fin _ _ _ _ _ run ex R' (rw_new d (r.mono ex))
theorem okO_lst {ws : List FE.W} (e : okO (.lst ws) = true) : ws.length ≤ sizeLine := Nat.le_of_ble_eq_true e
/-- a stand that the evaluator sees is written -/
theorem RH.put {n : Nat} {w w0 : O} (R : RH G K ρ h H) (g : h.get n = some w0) (q : ρ n = some p) (nt : NF H p) (ob : Ext K ρ H ρ (upd H p o) → ObjR G K ρ (upd H p o) p w) :
    Ext K ρ H ρ (upd H p o) ∧ RH G K ρ (h.put n w) (upd H p o) := by
  have hm : n < MOST := by
    rcases Nat.lt_or_ge n h.n with z | z
    · exact Nat.lt_of_lt_of_le z R.most
    · rw [(R.top n z).1] at q; cases q
  have ex : Ext K ρ H ρ (upd H p o) := ⟨⟨⟨fun _ _ e => e, fun a xs z => sqT_upd z nt.tup, fun a xs z => pt_upd z nt⟩, fun a ob u z => nt.stay z⟩, fun _ _ e => .inl e, upd_there, fun a _ u => upd_ne fun z => u n (z ▸ q)⟩
  have hsz : (h.put n w).n = h.n := by obtain ⟨m, t⟩ := h; rfl
  refine ⟨ex, fun m w' e => ?_, R.inj, fun m z => ?_, ?_, fun m a e => ?_⟩
  · rw [FE.H.get_put hm] at e
    by_cases z : m = n
    · rw [if_pos z] at e
      cases e
      exact ⟨p, by rw [z]; exact q, ob ex⟩
    · rw [if_neg z] at e
      obtain ⟨a, q', t⟩ := R.obj m w' e
      refine ⟨a, q', t.stay ex fun y => z ?_⟩
      subst y
      exact R.inj _ _ _ q' q
  · rw [hsz] at z
    refine ⟨(R.top m z).1, ?_⟩
    rw [FE.H.get_put hm, if_neg]
    · exact (R.top m z).2
    · rintro rfl
      rw [(R.top _ z).1] at q; cases q
  · rw [hsz]; exact R.most
  · by_cases y : a = p
    · rw [y, upd_same]; exact fun z => nomatch z
    · rw [upd_ne y]; exact R.live m a e
theorem putK_inv {n : Nat} {w : O} {r : FE.H → B} (run : putK h n w r = true) : okO w = true ∧ r (h.put n w) = true := by
  unfold putK at run
  split at run
  · next e => exact ⟨e, run⟩
  · cases run
theorem no_tup {u : HO} (e : H p = some u) (n : ∀ xs, u ≠ .tup xs) (nf : ∀ ob v, u ≠ .frz ob v) : NF H p := by
  refine ⟨fun xs z => ?_, fun ob v z => by rw [e] at z; cases z; exact nf _ _ rfl⟩
  rcases z with z | ⟨ob, z⟩
  · rw [e] at z; cases z; exact n xs rfl
  · rw [e] at z; cases z; exact nf _ _ rfl
theorem RH.put_lst {n : Nat} {ws vs : List FE.W} {xs ys : List V} (R : RH G K ρ h H) (g : h.get n = some (.lst vs)) (q : ρ n = some p) (e : H p = some (.lst ys)) (r : RWs G K ρ H ws xs) :
    Ext K ρ H ρ (upd H p (.lst xs)) ∧ RH G K ρ (h.put n (.lst ws)) (upd H p (.lst xs)) :=
  R.put g q (no_tup e (fun _ z => nomatch z) fun _ _ z => nomatch z) fun ex => ⟨xs, upd_same, r.mono ex⟩
/-! ### what the evaluator does not see -/
theorem ext0_unseen (nt : NF H p) : Ext0 K ρ H ρ (upd H p o) := ⟨⟨fun _ _ e => e, fun a xs z => sqT_upd z nt.tup, fun a xs z => pt_upd z nt⟩, fun a ob u z => nt.stay z⟩
theorem RH.unseen (R : RH G K ρ h H) (u : ∀ n, ρ n ≠ some p) (nt : NF H p) : RH G K ρ h (upd H p o) := by
  refine ⟨fun n w e => ?_, R.inj, R.top, R.most, fun n a e => upd_there a (R.live n a e)⟩
  obtain ⟨a, q, t⟩ := R.obj n w e
  exact ⟨a, q, t.stay0 (ext0_unseen nt) fun z => u n (z ▸ q)⟩
/-- an older state's view of a write at what it did not have -/
theorem Ext.over {ρ0 : Rho} {H0 : Hp} (e : Ext K ρ0 H0 ρ H) (hn : H0 p = none) (nt : NF H p) : Ext K ρ0 H0 ρ (upd H p o) :=
  ⟨⟨⟨e.map, fun a xs z => sqT_upd (e.tup a xs z) nt.tup, fun a xs z => pt_upd (e.pt a xs z) nt⟩, fun a ob u z => nt.stay (e.frz a ob u z)⟩, e.new, fun a h => upd_there a (e.there a h), fun a h u => (upd_ne (fun z => h (by rw [z]; exact hn) : a ≠ p)).trans (e.keep a h u)⟩
/-- a list that it did not see is shown to it -/
theorem RH.see {ws : List FE.W} {xs : List V} (R : RH G K ρ h H) (u : ∀ n, ρ n ≠ some p) (e : H p = some (.lst xs)) (r : RWs G K ρ H ws xs) (hm : h.n < MOST) :
    ∃ ρ', ρ' h.n = some p ∧ (∀ n a, ρ n = some a → ρ' n = some a) ∧ (∀ n a, ρ' n = some a → ρ n = some a ∨ a = p) ∧ RH G K ρ' ⟨Nat.succ h.n, T.put (.lst ws) 40 h.t h.n⟩ H := by
  have old : ∀ n a, ρ n = some a → (if n = h.n then some p else ρ n) = some a := fun n a q => by
    have : n ≠ h.n := fun z => by rw [z, (R.top h.n (Nat.le_refl _)).1] at q; cases q
    simp [this, q]
  have e0 : Ext0 K ρ H (fun n => if n = h.n then some p else ρ n) H := ⟨⟨old, fun _ _ z => z, fun _ _ z => z⟩, fun _ _ _ z => z⟩
  refine ⟨fun n => if n = h.n then some p else ρ n, by simp, old, fun n a q => ?_, ?_⟩
  · by_cases z : n = h.n
    · simp only [z, if_true] at q; cases q; exact .inr rfl
    · simp only [z, if_false] at q; exact .inl q
  · constructor
    · intro n w' q
      rw [get_new hm] at q
      by_cases z : n = h.n
      · rw [if_pos z] at q
        cases q
        exact ⟨p, by simp [z], xs, e, r.mono0 e0⟩
      · rw [if_neg z] at q
        obtain ⟨a, q', t⟩ := R.obj n w' q
        refine ⟨a, by simp [z, q'], ?_⟩
        cases w' with
        | lst ws => obtain ⟨ys, q, t⟩ := t; exact ⟨ys, q, t.mono0 e0⟩
        | dct kvs => obtain ⟨ys, q, t⟩ := t; exact ⟨ys, q, t.mono0 e0⟩
        | ins c fs => obtain ⟨C, dx, vs, q0, q, t⟩ := t; exact ⟨C, dx, vs, q0, q, t.mono0 e0⟩
        | exc c fs => exact t
        | urn tk => exact t
        | cells => exact t
        | lck kvs => obtain ⟨ob, ks, q, t⟩ := t; exact ⟨ob, ks, q, t.mono0 e0⟩
    · intro n m a e1 e2
      by_cases z1 : n = h.n
      · by_cases z2 : m = h.n
        · rw [z1, z2]
        · simp only [z1, if_true] at e1
          simp only [z2, if_false] at e2
          cases e1
          exact absurd e2 (u m)
      · by_cases z2 : m = h.n
        · simp only [z1, if_false] at e1
          simp only [z2, if_true] at e2
          cases e2
          exact absurd e1 (u n)
        · simp only [z1, z2, if_false] at e1 e2
          exact R.inj _ _ _ e1 e2
    · intro n hn'
      have hn' : h.n + 1 ≤ n := hn'
      have : n ≠ h.n := by omega
      refine ⟨by simp [this, (R.top n (by omega)).1], ?_⟩
      rw [get_new hm, if_neg this]
      exact (R.top n (by omega)).2
    · show h.n + 1 ≤ MOST; omega
    · intro n a q
      by_cases z : n = h.n
      · simp only [z, if_true] at q
        cases q
        rw [e]; exact fun z => nomatch z
      · simp only [z, if_false] at q
        exact R.live n a q
end
end FE
end
section
set_option Elab.async false
set_option linter.all false
set_option maxRecDepth 100000
/-! FeTpl: tuples laid as known objects without a dict. -/
namespace FE
open PySem PySem.Spec PyProof.Rows L2 HT
theorem ok_frz {P : Program} {w : World} {H : Hp} {h : Heap} {a : Addr} {ob : Obj} {xs : List V} (e : h.get? a = some ob) (o : ObjOk P w H h a (.tup xs)) : ObjOk P w H h a (.frz ob (.tup xs)) := ⟨e, o⟩
section
variable {X : Cx} {es : List Expr} {t : TA} {pos : Pos} {pins : List (Addr × Obj)} {σ : L2.St} {H : Hp} {s : Shared} {xs : List V}
abbrev tupOb (us : List Value) : Obj := { cls := .type "tuple", data := .seq us.toArray }
theorem laid_pt {us : List Value} (I : Inv X pins σ H s) (z : xs.length ≤ sizeLine) (r : Vals xs us) :
    Inv X pins σ (upd H s.heap.objs.size (.frz (tupOb us) (.tup xs))) { s with heap := s.heap.push (tupOb us) } :=
  I.laid (t' := s.toks) (fun b u e => Heap.get?_push_of_some _ e) (Nat.le_refl _) (ok_frz (Heap.get?_push_size _ rfl) ⟨z, us, r, ⟨_, Heap.get?_push_size _ rfl, rfl, _, rfl⟩⟩)
/-- what a new tuple's reading asks -/
abbrev QT (xs : List V) (H : Hp) (Q : VK) : Prop := ∀ (p : Addr) (ob : Obj), H p = none → ob.dict = none → Q (.ref p) (upd H p (.frz ob (.tup xs)))
theorem fin_pt {us : List Value} {Q : VK} (I : Inv X pins σ H s) (z : xs.length ≤ sizeLine) (r : Vals xs us) (q : QT xs H Q) : EP X pins σ Q (.ref s.heap.objs.size) { s with heap := s.heap.push (tupOb us) } :=
  ⟨.ref s.heap.objs.size, _, laid_pt I z r, rfl, q _ _ (I.hok.fresh (Nat.le_refl _)) rfl⟩
def tTupP (t : TA) : TE := fun σ H Q => t σ H fun xs H1 => xs.length ≤ sizeLine ∧ QT xs H1 Q
theorem pe_tupP {x1} (h : PA X es t) : PE X (.Tuple es x1 pos) (tTupP t) := by
  refine ⟨fun pins s σ H Q I hq => ?_⟩
  refine wpAny_Tuple_spliced (thn (h.run pos pins s σ H _ I hq) fun us s1 ⟨xs, H1, I1, r, z, q⟩ => ⟨by rw [← r.length]; exact z, ?_⟩)
  exact fin_pt I1 z r q
/-! ### slices, sums, products -/
def rSlP (K : PySem.W.Frag) : V → Option Int → Option Int → Hp → VK → Prop := fun x lo hi H Q => ∃ a xs, x = .ref a ∧ SqT K H a xs ∧
  (HT.sIx xs.length 0 lo = 0 ∧ HT.sIx xs.length xs.length hi = xs.length → Q (.ref a) H) ∧ (¬ (HT.sIx xs.length 0 lo = 0 ∧ HT.sIx xs.length xs.length hi = xs.length) → QT (cutV xs lo hi) H Q)
theorem sl_tupP : SlR X (rSlP X.K) := by
  intro pins s σ H x v vl vu lo hi sl Q I rx hs pl pu h
  obtain ⟨a, xs, rfl, hx, q1, q2⟩ := h
  by_cases hw : HT.sIx xs.length 0 lo = 0 ∧ HT.sIx xs.length xs.length hi = xs.length
  · exact sl_tupA pins s σ H _ v vl vu lo hi sl Q I rx hs pl pu ⟨a, xs, rfl, hx, q1, fun n => absurd hw n⟩
  · cases rx
    obtain ⟨its, r, ht, hz⟩ := I.tuple hx
    have hlen : its.toArray.size = xs.length := by rw [List.size_toArray]; exact r.length.symm
    refine ⟨"tuple", _, PyProof.Rows.slot_tuple_getitem.lookup, ht.typeIs, ?_⟩
    refine HT.getItem_tuple_cut ht hs pl pu (by rw [hlen]; exact hw) ?_ (by rw [hlen]; exact hz)
    rw [hlen]
    exact fin_pt I (Nat.le_trans (cutV_length xs lo hi) hz) ((r.drop (HT.sIx xs.length 0 lo)).take (HT.sIx xs.length xs.length hi - HT.sIx xs.length 0 lo)) (q2 hw)
def rCatP (K : PySem.W.Frag) : R2 := fun x y H Q => ∃ a b xs ys, x = .ref a ∧ y = .ref b ∧ SqT K H a xs ∧ SqT K H b ys ∧ xs.length + ys.length ≤ sizeLine ∧
  (xs = [] → Q (.ref b) H) ∧ (xs ≠ [] → ys = [] → Q (.ref a) H) ∧ (xs ≠ [] → ys ≠ [] → QT (xs ++ ys) H Q)
theorem op_catP : OpR X (binaryOp .Add) (rCatP X.K) := by
  intro pins s σ H x y v u Q I rx ry h
  obtain ⟨a, b, xs, ys, rfl, rfl, ha, hb, hz, q0, q1, q2⟩ := h
  by_cases hx : xs = []
  · exact op_catA pins s σ H _ _ v u Q I rx ry ⟨a, b, xs, ys, rfl, rfl, ha, hb, hz, q0, q1, fun n => absurd hx n⟩
  · cases rx
    cases ry
    obtain ⟨its, r1, p1, _⟩ := I.tuple ha
    obtain ⟨its2, r2, p2, _⟩ := I.tuple hb
    refine HT.cat_tup p1 p2 (fun z => hx (r1.nil_iff.mp z)) (fun z => ⟨.ref a, H, I, rfl, q1 hx (r2.nil_iff.mp z)⟩) (fun z => ?_) (by rw [← r1.length, ← r2.length]; exact hz)
    exact fin_pt I (by rw [List.length_append]; exact hz) (r1.append r2) (q2 hx fun w => z (r2.nil_iff.mpr w))
def rRepP (K : PySem.W.Frag) : R2 := fun x y H Q => ∃ l k xs, x = .ref l ∧ y = .int k ∧ SqT K H l xs ∧ xs ≠ [] ∧ 2 ≤ k ∧ k ≤ 1000 ∧ xs.length ≤ 1000 ∧ QT (List.replicate k.toNat xs).flatten H Q
theorem op_repP : OpR X (binaryOp .Mult) (rRepP X.K) := by
  intro pins s σ H x y v u Q I rx ry h
  obtain ⟨l, k, xs, rfl, rfl, hT, hne, h1, h2, hz, q⟩ := h
  cases rx
  obtain ⟨t, rfl⟩ := ry
  obtain ⟨its, r, ⟨⟨cls, dd, data, sl⟩, ho, hc, n, hd⟩, hs⟩ := I.tuple hT
  simp only at hc hd
  subst hc hd
  have hle : its.length = xs.length := r.length.symm
  have hn : its ≠ [] := fun e => hne (by
    rw [e] at hle
    exact List.eq_nil_of_length_eq_zero hle.symm)
  have hi : its.toArray.isEmpty = false := by
    cases its with
    | nil => exact absurd rfl hn
    | cons a b => rfl
  have hsz0 : its.toArray.size = xs.length := by rw [List.size_toArray, hle]
  have hm : ((its.toArray.size : Nat) : Int) * k ≤ 1000000 := by
    rw [hsz0]
    have a1 : ((xs.length : Nat) : Int) * k ≤ 1000 * k := Int.mul_le_mul_of_nonneg_right (by omega) (by omega)
    omega
  have flen : (List.replicate k.toNat its).flatten.length ≤ sizeLine := by
    rw [PyProof.Rows.lm_len_rep_flat, hle, sizeLine_eq]
    have a1 : k.toNat * xs.length ≤ 1000 * 1000 := Nat.mul_le_mul (by omega) hz
    omega
  have c0 : (decide (k < -(2 ^ 63)) || decide (k ≥ 2 ^ 63)) = false := by
    rw [decide_eq_false (by omega), decide_eq_false (by omega)] <;> rfl
  have c1 : (its.toArray.isEmpty || k == 1) = false := by
    rw [hi, Bool.false_or]
    exact beq_eq_false_iff_ne.mpr (by omega)
  have c2 : (decide (k ≤ 0) || its.toArray.isEmpty) = false := by
    rw [hi, Bool.or_false]
    exact decide_eq_false (by omega)
  have c4 : Builtin.Tuple.tupleTooMany (((its.toArray.size : Nat) : Int) * k) = false := by
    unfold Builtin.Tuple.tupleTooMany
    rw [sizeLine_eq]
    exact decide_eq_false (by omega)
  refine wpAny_binaryOp_repeat_ref (T := "tuple") (U := "int") (by decide) ⟨_, ho, rfl⟩ (fun s' => typeIs_int s' k t) noFill_tuple_mul F.fills_int_mul F.slot_int_rmul repeat_tuple F.slot_int_index.lookup
    (call_meets F.slot_int_rmul (typeIs_int s k t) F.entry_int_rmul (F.args_int_rmul_2 _ _) (int_rmul_tuple k t l its.toArray n dd sl)
      ⟨ho, rfl, ⟨_, ho, rfl⟩, call_meets F.slot_tuple_mul ⟨_, ho, rfl⟩ F.entry_tuple_mul (F.args_tuple_mul_2 _ _) (tuple_mulW l its.toArray n dd sl k t c0 c1 c2 (by omega) c4 (by rw [size_rep, List.size_toArray]; exact flen)) ⟨ho, ?_⟩⟩)
  rw [size_rep]
  exact fin_pt I (by rw [PyProof.Rows.lm_len_rep_flat, sizeLine_eq]; have a1 : k.toNat * xs.length ≤ 1000 * 1000 := Nat.mul_le_mul (by omega) hz; omega) (r.rep k.toNat) q
/-- tuple(xs) -/
theorem call_tupleP : CallR X (.type "tuple") (fun xs H Q => ∃ p ys, xs = [.ref p] ∧ ((SqL X.K H p ys ∧ QT ys H Q) ∨ (SqT X.K H p ys ∧ Q (.ref p) H))) := by
  intro pins s σ H xs us Q I r h
  obtain ⟨p, ys, rfl, h⟩ := h
  rcases h with ⟨hq, q⟩ | ⟨hq, q⟩
  · obtain ⟨u, rfl, rx⟩ := vals1 r
    cases rx
    obtain ⟨its, r', pl, hz⟩ := I.list hq
    have hlen := r'.length
    refine call_tuple_list pl.isList (fun h' kp => ?_) (by simp only [List.size_toArray] <;> omega)
    have I1 : Inv X pins σ H { s with heap := h' } := I.kept (t' := s.toks) kp
    exact fin_pt I1 hz r' q
  · exact call_tuple_of pins s σ H _ us Q I r ⟨p, ys, rfl, .inr ⟨hq, q⟩⟩
end
end FE
end
section
set_option Elab.async false
set_option linter.all false
set_option maxRecDepth 100000
set_option maxHeartbeats 4000000
/-! FeTmul: tuple * 0, tuple * 1. -/
namespace FE
open PySem PySem.Spec PyProof.Rows L2
theorem tmul_none (l : Addr) (xs : Array Value) (n : Nat) (d : Option Addr) (sl : Array (Option Value)) (u : Tok) (ne : xs.isEmpty = false) :
    Meets (Builtin.«tuple.__mul__» ⟨[.ref l, .int 0 u], []⟩) (fun _ R s => s.heap.get? l = some { cls := .type "tuple", dict := d, data := .seq xs n, slots := sl } ∧
      R (.ok (.ret (Value.ref s.heap.objs.size))) { s with heap := s.heap.push { cls := Value.type "tuple", data := Data.seq #[] }, toks := s.toks }) :=
  .of_wp fun prog w A R s h => by
    obtain ⟨hp, g, dr, tk, os⟩ := s
    obtain ⟨hl, fin⟩ := h
    have f1 := AutoSeq1.idx_int
    have c1 : (xs.isEmpty || (0 : Int) == 1) = false := by rw [ne] <;> rfl
    have c2 : (decide ((0 : Int) ≤ 0) || xs.isEmpty) = true := rfl
    wp_walk using wpAny_loadPart' hl
    repeat (first
      | (refine wpAny_ite_false (decide_eq_false (by rw [c1]; exact Bool.false_ne_true)) ?_; wp_walk using wpAny_loadPart' hl)
      | (refine wpAny_ite_true (decide_eq_true (by rw [c2])) ?_; wp_walk using wpAny_loadPart' hl))
    exact ⟨_, rfl, fin⟩
theorem tmul_one (l : Addr) (xs : Array Value) (n : Nat) (d : Option Addr) (sl : Array (Option Value)) (u : Tok) :
    Meets (Builtin.«tuple.__mul__» ⟨[.ref l, .int 1 u], []⟩) (fun _ R s => s.heap.get? l = some { cls := .type "tuple", dict := d, data := .seq xs n, slots := sl } ∧ R (.ok (.ret (Value.ref l))) s) :=
  .of_wp fun prog w A R s h => by
    obtain ⟨hp, g, dr, tk, os⟩ := s
    obtain ⟨hl, fin⟩ := h
    have f1 := AutoSeq1.idx_int
    have c1 : (xs.isEmpty || (1 : Int) == 1) = true := by cases xs.isEmpty <;> rfl
    wp_walk using wpAny_loadPart' hl
    repeat (first
      | (refine wpAny_ite_true (decide_eq_true (by rw [c1])) ?_; wp_walk using wpAny_loadPart' hl))
    exact ⟨_, rfl, fin⟩
section
variable {X : Cx}
theorem op_rep0 : OpR X (binaryOp .Mult) (fun x y H Q => ∃ l xs, x = .ref l ∧ y = .int 0 ∧ SqT X.K H l xs ∧ xs ≠ [] ∧ QT [] H Q) := by
  intro pins s σ H x y v u Q I rx ry h
  obtain ⟨l, xs, rfl, rfl, ht, ne, q⟩ := h
  cases rx
  obtain ⟨tk, rfl⟩ := ry
  obtain ⟨its, r, ⟨⟨c, dd, da, sl⟩, ho, hc, n, hd⟩, hs⟩ := I.tuple ht
  simp only at hc hd
  subst hc hd
  have hi : its.toArray.isEmpty = false := by
    cases its with
    | nil => cases r; exact absurd rfl ne
    | cons a b => rfl
  refine wpAny_binaryOp_repeat_ref (T := "tuple") (U := "int") (by decide) ⟨_, ho, rfl⟩ (fun s' => typeIs_int s' 0 tk) noFill_tuple_mul F.fills_int_mul F.slot_int_rmul repeat_tuple F.slot_int_index.lookup
    (call_meets F.slot_int_rmul (typeIs_int s 0 tk) F.entry_int_rmul (F.args_int_rmul_2 _ _) (int_rmul_tuple 0 tk l its.toArray n dd sl)
      ⟨ho, rfl, ⟨_, ho, rfl⟩, call_meets F.slot_tuple_mul ⟨_, ho, rfl⟩ F.entry_tuple_mul (F.args_tuple_mul_2 _ _) (tmul_none l its.toArray n dd sl tk hi) ⟨ho, ?_⟩⟩)
  exact fin_pt I (by decide) .nil q
theorem op_rep1 : OpR X (binaryOp .Mult) (fun x y H Q => ∃ l xs, x = .ref l ∧ y = .int 1 ∧ SqT X.K H l xs ∧ Q (.ref l) H) := by
  intro pins s σ H x y v u Q I rx ry h
  obtain ⟨l, xs, rfl, rfl, ht, q⟩ := h
  cases rx
  obtain ⟨tk, rfl⟩ := ry
  obtain ⟨its, r, ⟨⟨c, dd, da, sl⟩, ho, hc, n, hd⟩, hs⟩ := I.tuple ht
  simp only at hc hd
  subst hc hd
  exact wpAny_binaryOp_repeat_ref (T := "tuple") (U := "int") (by decide) ⟨_, ho, rfl⟩ (fun s' => typeIs_int s' 1 tk) noFill_tuple_mul F.fills_int_mul F.slot_int_rmul repeat_tuple F.slot_int_index.lookup
    (call_meets F.slot_int_rmul (typeIs_int s 1 tk) F.entry_int_rmul (F.args_int_rmul_2 _ _) (int_rmul_tuple 1 tk l its.toArray n dd sl)
      ⟨ho, rfl, ⟨_, ho, rfl⟩, call_meets F.slot_tuple_mul ⟨_, ho, rfl⟩ F.entry_tuple_mul (F.args_tuple_mul_2 _ _) (tmul_one l its.toArray n dd sl tk) ⟨ho, ⟨.ref l, H, I, rfl, q⟩⟩⟩)
end
end FE
end
section
set_option Elab.async false
set_option linter.all false
set_option maxRecDepth 100000
/-! FeOp2: operators and comparisons by value. -/
namespace FE
open PySem PySem.Spec PyProof.Rows L2
open PySem.SeqAt
def opA : FE.Op → Operator
  | .add => .Add | .sub => .Sub | .mul => .Mult | .fdiv => .FloorDiv | .mod => .Mod | .pow => .Pow
def opC : FE.Cm → CmpOp
  | .eq => .Eq | .ne => .NotEq | .lt => .Lt | .le => .LtE | .gt => .Gt | .ge => .GtE | .is => .Is | .isnt => .IsNot | .inn => .In | .notin => .NotIn
section
variable {X : Cx} {G : GM} {ρ : Rho} {H : Hp} {h : FE.H} {k : KW} {Q : VK} {x y : V}
theorem opt_inv {α : Type} {n : Nat} {o : Option α} {f : α → B} (run : opt n o f = true) : ∃ a, o = some a ∧ f a = true := by
  cases o with
  | none => cases run
  | some a => exact ⟨a, rfl, run⟩
theorem rw_int {i : Int} (r : RW G X.K ρ H (.int i) x) : x = .int i := by cases r; rfl
theorem rw_bl {i : Bool} (r : RW G X.K ρ H (.bl i) x) : x = .bl i := by cases r; rfl
theorem rw_str {i : List Nat} (r : RW G X.K ρ H (.str i) x) : x = .str (toS i) := by cases r; rfl
theorem rw_non (r : RW G X.K ρ H .non x) : x = .non := by cases r; rfl
theorem rw_tupP {ws : List FE.W} (r : RW G X.K ρ H (.tup ws) x) : ∃ a xs, x = .ref a ∧ SqT X.K H a xs ∧ RWs G X.K ρ H ws xs ∧ (keyed ws = true → PTu H a xs) := by cases r with | tup q t p => exact ⟨_, _, rfl, q, t, p⟩
theorem rw_tup {ws : List FE.W} (r : RW G X.K ρ H (.tup ws) x) : ∃ a xs, x = .ref a ∧ SqT X.K H a xs ∧ RWs G X.K ρ H ws xs := by cases r with | tup q t => exact ⟨_, _, rfl, q, t⟩
theorem rw_ob {n : Nat} (r : RW G X.K ρ H (.ob n) x) : ∃ a, x = .ref a ∧ ρ n = some a := by cases r with | ob q => exact ⟨_, rfl, q⟩
theorem fin_int {i : Int} (R : RH G X.K ρ h H) (fin : Fin G X.K ρ H k Q) (run : k (.int i) h = true) : Q (.int i) H := fin _ _ _ _ _ run .refl R (.int i)
theorem fin_bl' {i : Bool} (R : RH G X.K ρ h H) (fin : Fin G X.K ρ H k Q) (run : k (.bl i) h = true) : Q (.bl i) H := fin _ _ _ _ _ run .refl R (.bl i)
theorem fin_str {i : List Nat} (R : RH G X.K ρ h H) (fin : Fin G X.K ρ H k Q) (run : k (.str i) h = true) : Q (.str (toS i)) H := fin _ _ _ _ _ run .refl R (.str i)
theorem toS_len (a : List Nat) : (toS a).length = a.length := by simp [toS, Str.length]
theorem toS_app (a b : List Nat) : toS a ++ toS b = toS (a ++ b) := by
  show Str.append _ _ = _
  simp [toS, Str.append]
theorem small_inv {α : Type} {xs : List α} (e : small xs = true) : xs.length ≤ sizeLine := Nat.le_of_ble_eq_true e
theorem bool2 {b : Bool} {f : B} {n : Nat} (run : (match b with | true => f | false => stop n) = true) : b = true ∧ f = true := by
  cases b with
  | true => exact ⟨rfl, run⟩
  | false => cases run
theorem addB {op : FE.Op} {f : B} {n : Nat} (run : (match isAdd op with | true => f | false => stop n) = true) : op = .add ∧ f = true := by
  cases op <;> first | exact ⟨rfl, run⟩ | cases run
theorem mulB {op : FE.Op} {f : B} {n : Nat} (run : (match isMul op with | true => f | false => stop n) = true) : op = .mul ∧ f = true := by
  cases op <;> first | exact ⟨rfl, run⟩ | cases run
theorem ltZ_t {a b : Int} (e : ltZ a b = true) : a < b := by rw [ltZ_eq] at e; exact of_decide_eq_true e
theorem ltZ_f {a b : Int} (e : ltZ a b = false) : ¬ a < b := by rw [ltZ_eq] at e; exact of_decide_eq_false e
theorem binII_ok {op : FE.Op} {i j z : Int} (e : binII op i j = some z) {pins : List (Addr × Obj)} {s : Shared} {σ : L2.St} {v u : Value} (I : Inv X pins σ H s) (rv : RelV (.int i) v) (ru : RelV (.int j) u) (q : Q (.int z) H) :
    wpAny (model X.prog X.w) X.A (binaryOp (opA op) v u) (EP X pins σ Q) X.xe s := by
  cases op with
  | add =>
    injection e with e
    rw [addZ_eq] at e
    exact L2.op_add pins s σ H _ _ v u Q I rv ru ⟨i, j, rfl, rfl, by subst e; exact q⟩
  | sub => injection e with e; exact L2.op_sub pins s σ H _ _ v u Q I rv ru ⟨i, j, rfl, rfl, by subst e; exact q⟩
  | mul =>
    unfold binII at e
    simp only at e
    split at e
    · next l1 =>
      split at e
      · next l2 =>
        injection e with e
        exact L2.op_mul pins s σ H _ _ v u Q I rv ru ⟨i, j, rfl, rfl, .inl ⟨by have := ltZ_t l1; omega, by have := ltZ_t l2; omega⟩, by subst e; exact q⟩
      · cases e
    · cases e
  | fdiv =>
    unfold binII at e
    simp only at e
    split at e
    · next l1 =>
      split at e
      · next l2 =>
        injection e with e
        exact L2.op_fdiv pins s σ H _ _ v u Q I rv ru ⟨i, j, rfl, rfl, ⟨ltZ_t l1, ltZ_t l2⟩, by subst e; exact q⟩
      · cases e
    · cases e
  | mod =>
    unfold binII at e
    simp only at e
    split at e
    · next l1 =>
      injection e with e
      exact L2.op_mod pins s σ H _ _ v u Q I rv ru ⟨i, j, rfl, rfl, ltZ_t l1, by subst e; exact q⟩
    · cases e
  | pow =>
    unfold binII at e
    simp only at e
    split at e
    · cases e
    · next l1 =>
      split at e
      · cases e
      · next l2 =>
        split at e
        · next l3 =>
          injection e with e
          exact L2.op_pow pins s σ H _ _ v u Q I rv ru ⟨i, j, rfl, rfl, ⟨by have := ltZ_f l1; omega, by have := ltZ_f l2; omega, by have := Nat.blt_eq.mp l3; omega⟩, by subst e; exact q⟩
        · cases e
theorem rep_ofNat {α : Type} (n : Nat) (xs : List α) : rep (.ofNat n) xs = (List.replicate n xs).flatten := rfl
theorem RWs.rep {K : PySem.W.Frag} {ws : List FE.W} {xs : List V} (r : RWs G K ρ H ws xs) : ∀ n : Nat, RWs G K ρ H (List.replicate n ws).flatten (List.replicate n xs).flatten
  | 0 => .nil
  | n + 1 => by
    rw [List.replicate_succ, List.replicate_succ, List.flatten_cons, List.flatten_cons]
    exact r.append (RWs.rep r n)
theorem len_rep {α : Type} (n : Nat) (xs : List α) : (List.replicate n xs).flatten.length = xs.length * n := by
  induction n with
  | zero => simp
  | succ n ih => rw [List.replicate_succ, List.flatten_cons, List.length_append, ih, Nat.mul_succ]; omega
theorem repT_inv {j : Int} {as : List FE.W} {h : FE.H} {k : KW} (run : repT j as h k = true) : as ≠ [] ∧ ((j = 0 ∧ k (.tup []) h = true) ∨ (j = 1 ∧ k (.tup as) h = true) ∨ ∃ n : Nat, j = .ofNat (n + 2) ∧ n + 2 ≤ 1000 ∧ as.length ≤ 1000 ∧ k (.tup (rep (.ofNat (n + 2)) as)) h = true) := by
  cases as with
  | nil => cases run
  | cons a as =>
    refine ⟨by simp, ?_⟩
    unfold repT at run
    simp only at run
    split at run
    · next l1 =>
      split at run
      · exact .inl ⟨rfl, run⟩
      · exact .inr (.inl ⟨rfl, run⟩)
      · next n _ _ =>
        split at run
        · next l2 =>
          match n with
          | 0 => contradiction
          | 1 => contradiction
          | n + 2 => exact .inr (.inr ⟨n, rfl, Nat.le_of_ble_eq_true l2, Nat.le_of_ble_eq_true l1, run⟩)
        · cases run
      · cases run
    · cases run
theorem op_bin (op : FE.Op) : OpR X (binaryOp (opA op)) (V2 G X.K (binW op)) := by
  intro pins s σ H x y v u Q I rv ru ⟨ρ, h, k, w, t, R, rw_, rt, run, fin⟩
  cases w with
  | non => cases run
  | bl c => cases run
  | cls c => cases run
  | fn c => cases run
  | int i =>
    cases rw_int rw_
    cases t with
    | int j =>
      cases rw_int rt
      obtain ⟨z, e, run⟩ := opt_inv (show opt 1 (binII op i j) (fun z => k (.int z) h) = true from run)
      exact binII_ok e I rv ru (fin_int R fin run)
    | non => cases run
    | bl c => cases run
    | str c => cases run
    | tup c => cases run
    | ob c => cases run
    | cls c => cases run
    | fn c => cases run
  | str i =>
    cases rw_str rw_
    cases t with
    | str j =>
      cases rw_str rt
      obtain ⟨rfl, run⟩ := addB (show (match isAdd op with | true => strK (i ++ j) h k | false => stop 9) = true from run)
      obtain ⟨sm, run⟩ := bool2 (show (match small (i ++ j) with | true => k (.str (i ++ j)) h | false => stop 6) = true from run)
      refine L2.op_add_str pins s σ H _ _ v u Q I rv ru ⟨_, _, rfl, rfl, ?_, ?_⟩
      · rw [toS_len, toS_len, ← List.length_append]; exact small_inv sm
      · rw [toS_app]; exact fin_str R fin run
    | non => cases run
    | bl c => cases run
    | int c => cases run
    | tup c => cases run
    | ob c => cases run
    | cls c => cases run
    | fn c => cases run
  | tup as =>
    obtain ⟨a, xs, rfl, qa, ra, pa⟩ := rw_tupP rw_
    cases t with
    | tup bs =>
      obtain ⟨b, ys, rfl, qb, rb, pb⟩ := rw_tupP rt
      obtain ⟨rfl, run⟩ := addB (show (match isAdd op with | true => tupK (as ++ bs) h k | false => stop 11) = true from run)
      obtain ⟨sm, run⟩ := tupK_inv run
      refine op_catP pins s σ H _ _ v u Q I rv ru ⟨a, b, xs, ys, rfl, rfl, qa, qb, ?_, fun e => ?_, fun _ e => ?_, fun _ _ p ob hn d => ?_⟩
      · rw [← ra.length, ← rb.length, ← List.length_append]; exact sm
      · subst e
        cases ra
        exact fin _ _ _ _ _ run .refl R (.tup qb rb pb)
      · subst e
        cases rb
        rw [List.append_nil] at run
        exact fin _ _ _ _ _ run .refl R (.tup qa ra pa)
      · exact tup_fin R hn (ra.append rb) run fin d
    | int j =>
      cases rw_int rt
      obtain ⟨rfl, run⟩ := mulB (show (match isMul op with | true => repT j as h k | false => stop 12) = true from run)
      obtain ⟨ne, ⟨rfl, run2⟩ | ⟨rfl, run2⟩ | ⟨n, rfl, l2, l1, run2⟩⟩ := repT_inv (show repT j as h k = true from run)
      · exact op_rep0 pins s σ H _ _ v u Q I rv ru ⟨a, xs, rfl, rfl, qa, by rintro rfl; cases ra; exact ne rfl, fun p ob hn d => tup_fin R hn .nil run2 fin d⟩
      · exact op_rep1 pins s σ H _ _ v u Q I rv ru ⟨a, xs, rfl, rfl, qa, fin _ h _ H ρ run2 .refl R (.tup qa ra pa)⟩
      refine op_repP pins s σ H _ _ v u Q I rv ru ⟨a, _, xs, rfl, rfl, qa, ?_, ?_, ?_, ?_, fun p ob hn d => ?_⟩
      · rintro rfl; cases ra; exact ne rfl
      · show (2 : Int) ≤ ((n + 2 : Nat) : Int); omega
      · show ((n + 2 : Nat) : Int) ≤ 1000; omega
      · rw [← ra.length]; exact l1
      · exact tup_fin R hn (ra.rep (n + 2)) run2 fin d
    | non => cases run
    | bl c => cases run
    | str c => cases run
    | ob c => cases run
    | cls c => cases run
    | fn c => cases run
  | ob n =>
    obtain ⟨a, rfl, qa⟩ := rw_ob rw_
    have run : (match h.get n with | some (.lst x) => binLst op x t h k | _ => stop 18) = true := run
    split at run
    · next as ga =>
      obtain ⟨xs, ea, ra⟩ := lst_at R ga qa
      cases t with
      | ob m =>
        obtain ⟨b, rfl, qb⟩ := rw_ob rt
        have run : (match h.get m with | some (.lst y) => (match isAdd op with | true => newK h (.lst (as ++ y)) k | false => stop 14) | _ => stop 15) = true := run
        split at run
        · next bs gb =>
          obtain ⟨ys, eb, rb⟩ := lst_at R gb qb
          obtain ⟨rfl, run⟩ := addB run
          obtain ⟨ok, _, _⟩ := newK_inv run
          refine L2.op_cat pins s σ H _ _ v u Q I rv ru ⟨a, b, xs, ys, rfl, rfl, ea, eb, ?_, fun p hn => ?_⟩
          · rw [← ra.length, ← rb.length, ← List.length_append]; exact okO_lst ok
          · exact new_lst R hn (ra.append rb) run fin
        · cases run
      | int j =>
        cases rw_int rt
        obtain ⟨rfl, run⟩ := mulB (show (match isMul op with | true => (match ltZ j 9223372036854775808 with | true => (match ltZ j (-9223372036854775808) with | true => stop 16 | false => newK h (.lst (rep j as)) k) | false => stop 16) | false => stop 16) = true from run)
        obtain ⟨l1, run⟩ := bool2 run
        split at run
        · cases run
        · next l2 =>
          obtain ⟨ok, _, _⟩ := newK_inv run
          have e : rep j as = (List.replicate j.toNat as).flatten := by cases j <;> rfl
          rw [e] at run ok
          have e2 : ((List.replicate j.toNat xs).flatten.length) = (List.replicate j.toNat as).flatten.length := (RWs.length (ra.rep j.toNat)).symm
          refine L2.op_rep pins s σ H _ _ v u Q I rv ru ⟨a, j, xs, rfl, rfl, ea, ?_, ?_, ?_, fun p hn => ?_⟩
          · have := ltZ_f l2; omega
          · have := ltZ_t l1; omega
          · rw [← len_rep, e2]; exact okO_lst ok
          · exact new_lst R hn (ra.rep _) run fin
      | non => cases run
      | bl c => cases run
      | str c => cases run
      | tup c => cases run
      | cls c => cases run
      | fn c => cases run
    · cases run
theorem un_neg' : UnR X (unaryOp .USub) (V1 G X.K negW) := by
  intro pins s σ H x v Q I rv ⟨ρ, h, k, w, R, rw_, run, fin⟩
  cases w with
  | int i => cases rw_int rw_; exact L2.un_neg pins s σ H _ v Q I rv ⟨i, rfl, fin_int R fin run⟩
  | non => cases run
  | bl c => cases run
  | str c => cases run
  | tup c => cases run
  | ob c => cases run
  | cls c => cases run
  | fn c => cases run
end
end FE
end
section
set_option Elab.async false
set_option linter.all false
set_option maxRecDepth 100000
/-! FeCmp: comparisons by value. -/
namespace FE
open PySem PySem.Spec PyProof.Rows L2
open PySem.SeqAt
section
variable {X : Cx} {G : GM} {ρ : Rho} {H : Hp} {h : FE.H} {k : Bool → B} {Q : VK} {x y : V} {pins : List (Addr × Obj)} {σ : L2.St} {s : Shared}
theorem okC_inv {n : Nat} {o : Option Bool} (run : okC n o k = true) : ∃ b, o = some b ∧ k b = true := opt_inv run
theorem noC_inv {n : Nat} {o : Option Bool} (run : noC n o k = true) : ∃ b, o = some b ∧ k (!b) = true := opt_inv run
/-- two values, a bool of them -/
def VB (G : GM) (K : PySem.W.Frag) (f : FE.W → FE.W → FE.H → (Bool → B) → B) : V → V → Hp → VK → Prop := fun x y H Q => ∃ ρ h w u k, RH G K ρ h H ∧ RW G K ρ H w x ∧ RW G K ρ H u y ∧ f w u h k = true ∧ ∀ b, k b = true → Q (.bl b) H
theorem ltI_inv {a b : FE.W} {r : Bool} (e : ltI a b = some r) : ∃ i j, a = .int i ∧ b = .int j ∧ r = decide (i < j) := by
  cases a <;> try cases e
  cases b <;> try cases e
  exact ⟨_, _, rfl, rfl, ltZ_eq _ _⟩
theorem bl_end {b : Bool} (I : Inv X pins σ H s) (fin : ∀ b, k b = true → Q (.bl b) H) (run : k b = true) : EP X pins σ Q (.bool b) s := ⟨.bl b, H, I, rfl, fin b run⟩
/-- .. in a list, a tuple -/
theorem inW_at {A : Around} {f : FE.W → FE.W → Option Bool} {a : FE.W} {u : Value} (ih : ∀ {b : FE.W} {r : Bool} {y : V} {v : Value}, f b a = some r → RW G X.K ρ H b y → RelV y v → EqAt A s v u r) :
    ∀ {ws : List FE.W} {xs : List V} {us : List Value} {r : Bool}, inW f a ws = some r → RWs G X.K ρ H ws xs → Vals xs us → ∃ P : Value → Prop, (∀ y ∈ us, (P y → EqAt A s y u true) ∧ (¬ P y → EqAt A s y u false)) ∧ ((∃ y ∈ us, P y) ↔ r = true)
  | [], xs, us, r, e, rs, vs => by
    cases rs
    cases vs
    cases e
    exact ⟨fun _ => False, (fun _ z => nomatch z), by simp⟩
  | w :: ws, xs, us, r, e, rs, vs => by
    cases rs with
    | cons t ts =>
    cases vs with
    | @cons _ v _ us c cs =>
    unfold inW at e
    split at e
    · next b q =>
      split at e
      · next c' q' =>
        have er : (b || c') = r := by cases b <;> (injection e with e)
        subst er
        have eqw := ih q t c
        obtain ⟨P, h1, h2⟩ := inW_at ih q' ts cs
        cases b with
        | true =>
          refine ⟨fun y => y = v ∨ (P y), fun y hy => ⟨fun z => ?_, fun z => ?_⟩, by simp⟩
          · rcases z with rfl | z
            · exact eqw
            · by_cases yv : y = v
              · subst yv; exact eqw
              · rcases List.mem_cons.mp hy with z' | z'
                · exact absurd z' yv
                · exact (h1 y z').1 z
          · rcases List.mem_cons.mp hy with z' | z'
            · exact absurd (.inl z') z
            · exact (h1 y z').2 fun z'' => z (.inr z'')
        | false =>
          refine ⟨fun y => y ∈ us ∧ P y, fun y hy => ⟨fun z => (h1 y z.1).1 z.2, fun z => ?_⟩, ?_⟩
          · rcases List.mem_cons.mp hy with z' | z'
            · subst z'; exact eqw
            · exact (h1 y z').2 fun z'' => z ⟨z', z''⟩
          · rw [Bool.false_or, ← h2]
            constructor
            · rintro ⟨y, hy, m, p⟩; exact ⟨y, m, p⟩
            · rintro ⟨y, m, p⟩; exact ⟨y, List.mem_cons_of_mem _ m, m, p⟩
      · cases e
    · cases e
open Classical in
theorem in_fun {A : Around} {u : Value} {us : List Value} {r : Bool} {P : Value → Prop} (h1 : ∀ y ∈ us, (P y → EqAt A s y u true) ∧ (¬ P y → EqAt A s y u false)) (h2 : (∃ y ∈ us, P y) ↔ r = true) :
    ∃ e : Value → Bool, (∀ y, y ∈ us.toArray → EqAt A s y u (e y)) ∧ us.toArray.any e = r := by
  refine ⟨fun y => decide (P y), fun y hy => ?_, ?_⟩
  · have hy : y ∈ us := by simpa using hy
    by_cases z : P y
    · simp only [z, decide_true]; exact (h1 y hy).1 z
    · simp only [z, decide_false]; exact (h1 y hy).2 z
  · rw [Bool.eq_iff_iff]
    simp only [List.any_toArray, List.any_eq_true, decide_eq_true_eq]
    exact h2
/-! ### dicts -/
theorem key_eq {a b : FE.W} {ka kb : Key} (ra : KeyR a ka) (rb : KeyR b kb) : eqW h DEEP a b = some (decide (ka = kb)) := by
  cases ra with
  | int i =>
    cases rb with
    | int j => show some (eqZ i j) = _; rw [eqZ_eq, key_ll]
    | str cs => rfl
  | str cs =>
    cases rb with
    | int j => rfl
    | str ds =>
      show some (eqS cs ds) = _
      rw [eqS_str, key_rr, Bool.beq_eq_decide_eq]
theorem dget_ok {kvs : List (FE.W × FE.W)} {ks : List (Key × V)} {a : FE.W} {ka : Key} (ra : KeyR a ka) (rs : Ks G X.K ρ H kvs ks) : ∀ {r : Option FE.W}, dget (eqW h DEEP) a kvs = some r →
    (r = none ∧ valV ks ka = none) ∨ ∃ w v, r = some w ∧ valV ks ka = some v ∧ RW G X.K ρ H w v := by
  induction rs with
  | nil => intro r e; cases e; exact .inl ⟨rfl, rfl⟩
  | @cons k w k' v ks vs rk rv _ ih =>
    intro r e
    unfold dget at e
    rw [key_eq rk ra] at e
    by_cases q : k' = ka
    · simp only [q, decide_true] at e
      cases e
      exact .inr ⟨w, v, rfl, valV_pos q, rv⟩
    · simp only [q, decide_false] at e
      rcases ih e with ⟨z, z'⟩ | ⟨w', v', z, z', z''⟩
      · exact .inl ⟨z, by rw [valV_neg (p := (k', v)) q]; exact z'⟩
      · exact .inr ⟨w', v', z, by rw [valV_neg (p := (k', v)) q]; exact z', z''⟩
theorem isKey_of {a : FE.W} {x : V} (e : isKey a = true) (r : RW G X.K ρ H a x) : ∃ ka, KeyR a ka ∧ x = kV ka := by
  cases r with
  | int i => exact ⟨.inl i, .int i, rfl⟩
  | str cs => exact ⟨.inr _, .str cs, rfl⟩
  | non => cases e
  | bl c => cases e
  | tup _ _ => cases e
  | ob _ => cases e
  | cls _ => cases e
  | fn _ => cases e
theorem dct_at (R : RH G X.K ρ h H) {n : Nat} {a : Addr} {kvs : List (FE.W × FE.W)} (e : h.get n = some (.dct kvs)) (r : ρ n = some a) : ∃ ks, H a = some (.dK ks) ∧ Ks G X.K ρ H kvs ks := by
  obtain ⟨b, e', o⟩ := R.obj n _ e
  rw [r] at e'; cases e'
  exact o
theorem dgetH_ok (R : RH G X.K ρ h H) {n : Nat} {a : Addr} {kvs : List (FE.W × FE.W)} (e : h.get n = some (.dct kvs)) (q : ρ n = some a) {key : FE.W} (rk : RW G X.K ρ H key x) {r : Option FE.W} (g : dgetH h key kvs = some r) :
    (r = none ∧ DGet H a x none) ∨ ∃ w v, r = some w ∧ DGet H a x (some v) ∧ RW G X.K ρ H w v := by
  obtain ⟨ks, ea, rs⟩ := dct_at R e q
  unfold dgetH at g
  split at g
  · next ik =>
    obtain ⟨ka, kr, rfl⟩ := isKey_of ik rk
    rcases dget_ok kr rs g with ⟨z, z'⟩ | ⟨w, v, z, z', z''⟩
    · exact .inl ⟨z, z' ▸ DGet.k ea⟩
    · exact .inr ⟨w, v, z, z' ▸ DGet.k ea, z''⟩
  · cases g
theorem toS_mem (c : Nat) (cs : List Nat) : decide (c ∈ (toS cs).cps.toList) = cs.any (Nat.beq c) := by
  rw [Bool.eq_iff_iff]
  simp only [toS, decide_eq_true_eq, List.any_eq_true]
  constructor
  · intro h; exact ⟨c, h, Nat.beq_refl c⟩
  · rintro ⟨d, hd, e⟩; rw [Nat.eq_of_beq_eq_true e]; exact hd
/-- x in y -/
theorem in_ok (neg : Bool) (hu : X.A.units + 64 < cLine) (I : Inv X pins σ H s) (R : RH G X.K ρ h H) {a b : FE.W} {r : Bool} {v u : Value} (e : inB h a b = some r) (ra : RW G X.K ρ H a x) (rb : RW G X.K ρ H b y) (rv : RelV x v) (ru : RelV y u) (fin : ∀ b, k b = true → Q (.bl b) H)
    (run : k (bif neg then !r else r) = true) : wpAny (model X.prog X.w) X.A (compareOp (bif neg then .NotIn else .In) v u) (EP X pins σ Q) X.xe s := by
  have seq : ∀ {ws : List FE.W} {xs : List V} {us : List Value}, inW (eqW h DEEP) a ws = some r → RWs G X.K ρ H ws xs → Vals xs us → ∃ e : Value → Bool, (∀ y, y ∈ us.toArray → EqAt X.A.in1 s y v (e y)) ∧ us.toArray.any e = r := fun e' r1 r2 =>
    let ⟨P, h1, h2⟩ := inW_at (fun q t c => eq_at I R DEEP q t ra c rv (by have := X.A.in1_units; show _ + 40 < _; omega)) e' r1 r2
    in_fun h1 h2
  cases b with
  | str cs =>
    cases rw_str rb
    cases a with
    | str p =>
      match p, e with
      | [], e => cases e
      | [c], e =>
        cases rw_str ra
        have e : some (cs.any (Nat.beq c)) = some r := e
        injection e with e
        cases neg with
        | false => exact op_in_sign pins s σ H _ _ v u Q I rv ru ⟨c, toS cs, rfl, rfl, by rw [toS_mem, e]; exact fin _ run⟩
        | true => exact op_notIn_sign pins s σ H _ _ v u Q I rv ru ⟨c, toS cs, rfl, rfl, by rw [toS_mem, e]; exact fin _ run⟩
      | _ :: _ :: _, e => cases e
    | non => cases e
    | bl c => cases e
    | int c => cases e
    | tup c => cases e
    | ob c => cases e
    | cls c => cases e
    | fn c => cases e
  | tup ws =>
    obtain ⟨p, xs, rfl, q, t⟩ := rw_tup rb
    have qu : _ = _ := ru
    subst qu
    obtain ⟨its, w, tt⟩ := tup_vals I q
    obtain ⟨f, h1, h2⟩ := seq (show inW (eqW h DEEP) a ws = some r from e) t w
    cases neg with
    | false => exact in_tupleAt f tt h1 (by rw [h2]; exact bl_end I fin run)
    | true => exact notIn_tupleAt f tt h1 (by rw [h2]; exact bl_end I fin run)
  | ob n =>
    obtain ⟨p, rfl, q⟩ := rw_ob rb
    have qu : _ = _ := ru
    subst qu
    have e : (match h.get n with | some (.lst xs) => inW (eqW h DEEP) a xs | some (.dct kvs) => dhas h kvs a | _ => none) = some r := e
    split at e
    · next ws g =>
      obtain ⟨xs, its, t, w, l⟩ := lst_vals I R g q
      obtain ⟨f, h1, h2⟩ := seq e t w
      cases neg with
      | false => exact in_listAt f l h1 (by rw [h2]; exact bl_end I fin run)
      | true => exact notIn_listAt f l h1 (by rw [h2]; exact bl_end I fin run)
    · next kvs g =>
      have e2 : ∃ o, dgetH h a kvs = some o ∧ o.isSome = r := by
        unfold dhas at e
        unfold dgetH
        split at e
        · split at e
          · next w z => cases e; exact ⟨_, z, rfl⟩
          · next z => cases e; exact ⟨_, z, rfl⟩
          · cases e
        · cases e
      obtain ⟨o, e2, e3⟩ := e2
      have d : ∃ o', DGet H p x o' ∧ o'.isSome = r := by
        rcases dgetH_ok R g q ra e2 with ⟨z, z'⟩ | ⟨w, v', z, z', _⟩
        · exact ⟨none, z', by rw [← e3, z]; rfl⟩
        · exact ⟨some v', z', by rw [← e3, z]; rfl⟩
      obtain ⟨o', d, e4⟩ := d
      cases neg with
      | false => exact d_in (by omega) I d rv fun s' I' => by rw [e4]; exact bl_end I' fin run
      | true => exact d_notIn (by omega) I d rv fun s' I' => by rw [e4]; exact bl_end I' fin run
    · cases e
  | non => cases e
  | bl c => cases e
  | int c => cases e
  | cls c => cases e
  | fn c => cases e
theorem is_ok (neg : Bool) (I : Inv X pins σ H s) (R : RH G X.K ρ h H) {a b : FE.W} {r : Bool} {v u : Value} (e : isW a b = some r) (ra : RW G X.K ρ H a x) (rb : RW G X.K ρ H b y) (rv : RelV x v) (ru : RelV y u) (fin : ∀ b, k b = true → Q (.bl b) H)
    (run : k (bif neg then !r else r) = true) : wpAny (model X.prog X.w) X.A (compareOp (bif neg then .IsNot else .Is) v u) (EP X pins σ Q) X.xe s := by
  have nn : b = .non → wpAny (model X.prog X.w) X.A (compareOp (bif neg then .IsNot else .Is) v u) (EP X pins σ Q) X.xe s := by
    rintro rfl
    cases rw_non rb
    have d : decide (x = .non) = r := by
      cases ra with
      | non => cases e; rfl
      | bl c => cases e; rfl
      | int c => cases e; rfl
      | str c => cases e; rfl
      | tup c => cases e; rfl
      | ob c => cases e; rfl
      | cls c => cases e
      | fn c => cases e
    cases neg with
    | false => exact op_isN pins s σ H _ _ v u Q I rv ru ⟨rfl, by rw [d]; exact fin _ run⟩
    | true => exact op_notN pins s σ H _ _ v u Q I rv ru ⟨rfl, by rw [d]; exact fin _ run⟩
  cases b with
  | non => exact nn rfl
  | bl c =>
    cases rw_bl rb
    cases a with
    | bl d =>
      cases rw_bl ra
      have e : some (d == c) = some r := e
      injection e with e
      have e : decide (d = c) = r := by rw [← e, Bool.beq_eq_decide_eq]
      cases neg with
      | false => exact op_isBl pins s σ H _ _ v u Q I rv ru ⟨d, c, rfl, rfl, by rw [e]; exact fin _ run⟩
      | true => exact op_notBl pins s σ H _ _ v u Q I rv ru ⟨d, c, rfl, rfl, by rw [e]; exact fin _ run⟩
    | non => cases e
    | int c => cases e
    | str c => cases e
    | tup c => cases e
    | ob c => cases e
    | cls c => cases e
    | fn c => cases e
  | int c => cases e
  | str c => cases e
  | tup c => cases e
  | ob c => cases e
  | cls c => cases e
  | fn c => cases e
theorem op_cmp (hu : X.A.units + 64 < cLine) (op : FE.Cm) : OpR X (compareOp (opC op)) (VB G X.K (cmpB op)) := by
  intro pins s σ H x y v u Q I rv ru ⟨ρ, h, a, b, k, R, ra, rb, run, fin⟩
  cases op with
  | eq =>
    have run : (match plainOb h a with | true => okC 20 (eqW h DEEP a b) k | false => stop 20) = true := run
    obtain ⟨pl, run⟩ := bool2 run
    obtain ⟨r, e, run⟩ := okC_inv run
    exact rc_at I R 39 e pl ra rb rv ru (by omega) X.prog X.w _ _ (bl_end I fin run)
  | ne =>
    have run : (match plainOb h a with | true => noC 21 (eqW h DEEP a b) k | false => stop 21) = true := run
    obtain ⟨pl, run⟩ := bool2 run
    obtain ⟨r, e, run⟩ := noC_inv run
    exact ne_at I R 39 e pl ra rb rv ru (by omega) X.prog X.w _ _ (bl_end I fin run)
  | lt =>
    obtain ⟨r, e, run⟩ := okC_inv (show okC 22 (ltW h DEEP a b) k = true from run)
    exact lt_at I R 40 e ra rb rv ru (by omega) X.prog X.w _ _ (bl_end I fin run)
  | gt =>
    obtain ⟨r, e, run⟩ := okC_inv (show okC 23 (ltI b a) k = true from run)
    obtain ⟨i, j, rfl, rfl, rfl⟩ := ltI_inv e
    cases rw_int ra
    cases rw_int rb
    exact L2.op_gt pins s σ H _ _ v u Q I rv ru ⟨j, i, rfl, rfl, fin _ run⟩
  | le =>
    obtain ⟨r, e, run⟩ := noC_inv (show noC 24 (ltI b a) k = true from run)
    obtain ⟨i, j, rfl, rfl, rfl⟩ := ltI_inv e
    cases rw_int ra
    cases rw_int rb
    have z : (!decide (i < j)) = decide (j ≤ i) := by by_cases q : i < j <;> simp [q] <;> omega
    rw [z] at run
    exact L2.op_le pins s σ H _ _ v u Q I rv ru ⟨j, i, rfl, rfl, fin _ run⟩
  | ge =>
    obtain ⟨r, e, run⟩ := noC_inv (show noC 25 (ltI a b) k = true from run)
    obtain ⟨i, j, rfl, rfl, rfl⟩ := ltI_inv e
    cases rw_int ra
    cases rw_int rb
    have z : (!decide (i < j)) = decide (j ≤ i) := by by_cases q : i < j <;> simp [q] <;> omega
    rw [z] at run
    exact L2.op_ge pins s σ H _ _ v u Q I rv ru ⟨i, j, rfl, rfl, fin _ run⟩
  | is =>
    obtain ⟨r, e, run⟩ := okC_inv (show okC 26 (isW a b) k = true from run)
    exact is_ok false I R e ra rb rv ru fin run
  | isnt =>
    obtain ⟨r, e, run⟩ := noC_inv (show noC 27 (isW a b) k = true from run)
    exact is_ok true I R e ra rb rv ru fin run
  | inn =>
    obtain ⟨r, e, run⟩ := okC_inv (show okC 28 (inB h a b) k = true from run)
    exact in_ok false hu I R e ra rb rv ru fin run
  | notin =>
    obtain ⟨r, e, run⟩ := noC_inv (show noC 29 (inB h a b) k = true from run)
    exact in_ok true hu I R e ra rb rv ru fin run
/-! ### truth -/
theorem tru_at (R : RH G X.K ρ h H) {w : FE.W} {b : Bool} (r : RW G X.K ρ H w x) (e : truthy h w = some b) : TruV X.K x H b := by
  cases r with
  | non => cases e; rfl
  | bl c => cases e; rfl
  | int i =>
    have e : some (!eqZ i 0) = some b := e
    injection e with e
    show b = (i != 0)
    rw [← e, eqZ_eq]; rfl
  | str cs =>
    have e : (match Nat.ble cs.length 16777216 with | true => some (!cs.isEmpty) | false => none) = some b := e
    split at e
    · next l =>
      injection e with e
      refine ⟨by rw [toS_len]; exact Nat.le_of_ble_eq_true l, ?_⟩
      rw [toS_len, ← e]
      cases cs with
      | nil => rfl
      | cons c cs => symm; simp; omega
    · cases e
  | tup q t =>
    have e : some _ = some b := e
    injection e with e
    refine .inr (.inl ⟨_, q, ?_⟩)
    rw [← e]
    cases t <;> rfl
  | @ob n a q =>
    have e : (match h.get n with | some (.lst xs) => some (!xs.isEmpty) | some (.dct xs) => some (!xs.isEmpty) | _ => none) = some b := e
    split at e
    · next ws g =>
      injection e with e
      obtain ⟨xs, ea, t⟩ := lst_at R g q
      refine .inl ⟨xs, .of ea, ?_⟩
      rw [← e]
      cases t <;> rfl
    · next kvs g =>
      injection e with e
      obtain ⟨ks, ea, t⟩ := dct_at R g q
      refine .inr (.inr ⟨ks, ea, ?_⟩)
      rw [← e]
      cases t <;> rfl
    · cases e
  | cls q => cases e
  | fn q => cases e
end
end FE
end
section
set_option Elab.async false
set_option linter.all false
set_option maxRecDepth 100000
/-! FeExp: rules for expressions and tests. -/
namespace FE
open PySem PySem.Spec PyProof.Rows L2
open PySem.SeqAt
theorem _root_.L2.PW.imp {X : Cx} {e : Expr} {t t' : TT} (x : PW X e t) (i : ∀ σ H Q, t' σ H Q → t σ H Q) : PW X e t' := ⟨fun wh pins s σ H Q I h => x.run wh pins s σ H Q I (i σ H Q h)⟩
section
variable {X : Cx} {G : GM} {Z : ZF X.K} {a b c : Expr} {rest : List Expr} {pos : Pos} {sa sb sc : Sem} {ta tb tc : Tst} {sl : Slt}
/-! ### operators -/
theorem ev_bin {op : FE.Op} (ha : PE X a (EvE G X.K Z sa)) (hb : PE X b (EvE G X.K Z sb)) : PE X (.BinOp a (opA op) b pos) (EvE G X.K Z (cBin op sa sb)) :=
  ev_two (f := binW op) (fun _ _ _ _ => rfl) (pe_op (op_bin op) ha hb)
theorem ev_neg (ha : PE X a (EvE G X.K Z sa)) : PE X (.UnaryOp .USub a pos) (EvE G X.K Z (cNeg sa)) :=
  ev_one (f := negW) (fun _ _ _ _ => rfl) (pe_un un_neg' ha)
/-! ### comparisons -/
theorem ev_cmp {op : FE.Cm} (hu : X.A.units + 64 < cLine) (ha : PE X a (EvE G X.K Z sa)) (hb : PE X b (EvE G X.K Z sb)) (hm : behindInMarks (opC op) b = false) : PE X (.Compare a [opC op] [b] pos) (EvE G X.K Z (cCmp op sa sb)) :=
  (pe_cmpR (op_cmp (G := G) hu op) ha hb hm).imp fun σ H Q ⟨ρ, e, h, kx, k, n, run, fin, fx⟩ => by
    have run : sa e h kx (fun x h => sb e h kx fun y h => cmpB op x y h fun b => k (.bl b) h) = true := run
    refine EvE.then n run fx fun x h1 v H1 ρ1 t1 n1 r1 run1 fx1 => ?_
    refine EvE.then n1 run1 fx1 fun y h2 u H2 ρ2 t2 n2 r2 run2 fx2 => ?_
    exact ⟨ρ2, h2, x, y, _, n2.rh, r1.mono t2, r2, run2, fun b run => fin_bl' n2.rh ((fin.mono t1).mono t2) run⟩
theorem et_cmp {op : FE.Cm} (hu : X.A.units + 64 < cLine) (ha : PE X a (EvE G X.K Z sa)) (hb : PE X b (EvE G X.K Z sb)) (hm : behindInMarks (opC op) b = false) : PT X (.Compare a [opC op] [b] pos) (EvT G X.K Z (tCmp op sa sb)) :=
  (pt_cmpR (op_cmp (G := G) hu op) ha hb hm).imp fun σ H Q ⟨ρ, e, h, kx, k, n, run, fin, fx⟩ => by
    have run : sa e h kx (fun x h => sb e h kx fun y h => cmpB op x y h fun b => k b h) = true := run
    refine EvE.then n run fx fun x h1 v H1 ρ1 t1 n1 r1 run1 fx1 => ?_
    refine EvE.then n1 run1 fx1 fun y h2 u H2 ρ2 t2 n2 r2 run2 fx2 => ?_
    exact ⟨ρ2, h2, x, y, _, n2.rh, r1.mono t2, r2, run2, fun b run => ⟨b, rfl, fin b h2 H2 ρ2 run (t1.trans t2) n2.rh⟩⟩
theorem ev_cmp2 {op op' : FE.Cm} (hu : X.A.units + 64 < cLine) (ha : PE X a (EvE G X.K Z sa)) (hb : PE X b (EvE G X.K Z sb)) (hc : PE X c (EvE G X.K Z sc)) (hm : lastMarks [opC op, opC op'] [b, c] = false) : PE X (.Compare a [opC op, opC op'] [b, c] pos) (EvE G X.K Z (cCmp2 op op' sa sb sc)) :=
  (pe_chain (op_cmp (G := G) hu op) (op_cmp (G := G) hu op') ha hb hc hm).imp fun σ H Q ⟨ρ, e, h, kx, k, n, run, fin, fx⟩ => by
    have run : sa e h kx (fun x h => sb e h kx fun y h => cmpB op x y h fun t => match t with | true => sc e h kx fun z h => cmpB op' y z h fun b => k (.bl b) h | false => k (.bl false) h) = true := run
    refine EvE.then n run fx fun x h1 v H1 ρ1 t1 n1 r1 run1 fx1 => ?_
    refine EvE.then n1 run1 fx1 fun y h2 u H2 ρ2 t2 n2 r2 run2 fx2 => ?_
    refine ⟨ρ2, h2, x, y, _, n2.rh, r1.mono t2, r2, run2, fun b run => ⟨b, rfl, ?_⟩⟩
    cases b with
    | false => exact fin_bl' n2.rh ((fin.mono t1).mono t2) run
    | true =>
      refine EvE.then n2 run fx2 fun z h3 w H3 ρ3 t3 n3 r3 run3 fx3 => ?_
      exact ⟨ρ3, h3, y, z, _, n3.rh, r2.mono t3, r3, run3, fun b run => fin_bl' n3.rh (((fin.mono t1).mono t2).mono t3) run⟩
theorem et_cmp2 {op op' : FE.Cm} (hu : X.A.units + 64 < cLine) (ha : PE X a (EvE G X.K Z sa)) (hb : PE X b (EvE G X.K Z sb)) (hc : PE X c (EvE G X.K Z sc)) (hm : lastMarks [opC op, opC op'] [b, c] = false) : PT X (.Compare a [opC op, opC op'] [b, c] pos) (EvT G X.K Z (tCmp2 op op' sa sb sc)) :=
  (pt_chain (op_cmp (G := G) hu op) (op_cmp (G := G) hu op') ha hb hc hm).imp fun σ H Q ⟨ρ, e, h, kx, k, n, run, fin, fx⟩ => by
    have run : sa e h kx (fun x h => sb e h kx fun y h => cmpB op x y h fun t => match t with | true => sc e h kx fun z h => cmpB op' y z h fun b => k b h | false => k false h) = true := run
    refine EvE.then n run fx fun x h1 v H1 ρ1 t1 n1 r1 run1 fx1 => ?_
    refine EvE.then n1 run1 fx1 fun y h2 u H2 ρ2 t2 n2 r2 run2 fx2 => ?_
    refine ⟨ρ2, h2, x, y, _, n2.rh, r1.mono t2, r2, run2, fun b run => ⟨b, rfl, ?_⟩⟩
    cases b with
    | false => exact ⟨false, rfl, fin false h2 H2 ρ2 run (t1.trans t2) n2.rh⟩
    | true =>
      refine EvE.then n2 run fx2 fun z h3 w H3 ρ3 t3 n3 r3 run3 fx3 => ?_
      exact ⟨ρ3, h3, y, z, _, n3.rh, r2.mono t3, r3, run3, fun b run => ⟨b, rfl, fin b h3 H3 ρ3 run ((t1.trans t2).trans t3) n3.rh⟩⟩
/-! ### truth -/
theorem et_val (ha : PE X a (EvE G X.K Z sa)) (he : ∀ whole, PySem.isTrue a X.env whole = (do let v ← whole; standAt a.pos; holding [v] (PySem.truthy v))) : PT X a (EvT G X.K Z (tVal sa)) :=
  (pt_truth ha he).imp fun σ H Q ⟨ρ, e, h, kx, k, n, run, fin, fx⟩ => by
    have run : sa e h kx (fun x h => opt 71 (truthy h x) fun b => k b h) = true := run
    refine EvE.then n run fx fun x h1 v H1 ρ1 t1 n1 r1 run1 fx1 => ?_
    obtain ⟨b, e1, run1⟩ := opt_inv run1
    exact ⟨b, tru_at n1.rh r1 e1, fin b h1 H1 ρ1 run1 t1 n1.rh⟩
theorem ev_not (ha : PE X a (EvE G X.K Z sa)) : PE X (.UnaryOp .Not a pos) (EvE G X.K Z (cNot sa)) :=
  (pe_notT ha).imp fun σ H Q ⟨ρ, e, h, kx, k, n, run, fin, fx⟩ => by
    have run : sa e h kx (fun x h => opt 71 (truthy h x) fun b => k (.bl (!b)) h) = true := run
    refine EvE.then n run fx fun x h1 v H1 ρ1 t1 n1 r1 run1 fx1 => ?_
    obtain ⟨b, e1, run1⟩ := opt_inv run1
    exact ⟨b, tru_at n1.rh r1 e1, fin_bl' n1.rh (fin.mono t1) run1⟩
theorem ev_and (ha : PE X a (EvE G X.K Z sa)) (hb : PE X (.BoolOp .And (b :: rest) pos) (EvE G X.K Z sb)) : PE X (.BoolOp .And (a :: b :: rest) pos) (EvE G X.K Z (cAnd sa sb)) :=
  (pe_andT ha hb).imp fun σ H Q ⟨ρ, e, h, kx, k, n, run, fin, fx⟩ => by
    have run : sa e h kx (fun x h => opt 74 (truthy h x) fun t => match t with | true => sb e h kx k | false => k x h) = true := run
    refine EvE.then n run fx fun x h1 v H1 ρ1 t1 n1 r1 run1 fx1 => ?_
    obtain ⟨b, e1, run1⟩ := opt_inv run1
    refine ⟨b, tru_at n1.rh r1 e1, ?_⟩
    cases b with
    | true => exact ⟨ρ1, e, h1, kx, k, n1, run1, fin.mono t1, fx1⟩
    | false => exact fin x h1 v H1 ρ1 run1 t1 n1.rh r1
theorem ev_or (ha : PE X a (EvE G X.K Z sa)) (hb : PE X (.BoolOp .Or (b :: rest) pos) (EvE G X.K Z sb)) : PE X (.BoolOp .Or (a :: b :: rest) pos) (EvE G X.K Z (cOr sa sb)) :=
  (pe_orT ha hb).imp fun σ H Q ⟨ρ, e, h, kx, k, n, run, fin, fx⟩ => by
    have run : sa e h kx (fun x h => opt 74 (truthy h x) fun t => match t with | true => k x h | false => sb e h kx k) = true := run
    refine EvE.then n run fx fun x h1 v H1 ρ1 t1 n1 r1 run1 fx1 => ?_
    obtain ⟨b, e1, run1⟩ := opt_inv run1
    refine ⟨b, tru_at n1.rh r1 e1, ?_⟩
    cases b with
    | false => exact ⟨ρ1, e, h1, kx, k, n1, run1, fin.mono t1, fx1⟩
    | true => exact fin x h1 v H1 ρ1 run1 t1 n1.rh r1
theorem ev_bool1 {op : BoolOp} (ha : PE X a (EvE G X.K Z sa)) : PE X (.BoolOp op [a] pos) (EvE G X.K Z sa) := pe_one ha
theorem ew_and1 (ha : PT X a (EvT G X.K Z ta)) : PW X (.BoolOp .And [a] pos) (EvT G X.K Z ta) := pw_and1 ha
theorem ew_or1 (ha : PT X a (EvT G X.K Z ta)) : PW X (.BoolOp .Or [a] pos) (EvT G X.K Z ta) := pw_or1 ha
theorem ew_and (ha : PT X a (EvT G X.K Z ta)) (hb : PW X (.BoolOp .And (b :: rest) pos) (EvT G X.K Z tb)) : PW X (.BoolOp .And (a :: b :: rest) pos) (EvT G X.K Z (tAnd ta tb)) :=
  (pw_and ha hb).imp fun σ H Q ⟨ρ, e, h, kx, k, n, run, fin, fx⟩ => by
    have run : ta e h kx (fun x h => match x with | true => tb e h kx k | false => k false h) = true := run
    refine EvT.then n run fx fun x h1 H1 ρ1 t1 n1 run1 fx1 => ?_
    cases x with
    | true => exact ⟨ρ1, e, h1, kx, k, n1, run1, fun b h2 H2 ρ2 r x y => fin b h2 H2 ρ2 r (t1.trans x) y, fx1⟩
    | false => exact fin false h1 H1 ρ1 run1 t1 n1.rh
theorem ew_or (ha : PT X a (EvT G X.K Z ta)) (hb : PW X (.BoolOp .Or (b :: rest) pos) (EvT G X.K Z tb)) : PW X (.BoolOp .Or (a :: b :: rest) pos) (EvT G X.K Z (tOr ta tb)) :=
  (pw_or ha hb).imp fun σ H Q ⟨ρ, e, h, kx, k, n, run, fin, fx⟩ => by
    have run : ta e h kx (fun x h => match x with | true => k true h | false => tb e h kx k) = true := run
    refine EvT.then n run fx fun x h1 H1 ρ1 t1 n1 run1 fx1 => ?_
    cases x with
    | false => exact ⟨ρ1, e, h1, kx, k, n1, run1, fun b h2 H2 ρ2 r x y => fin b h2 H2 ρ2 r (t1.trans x) y, fx1⟩
    | true => exact fin true h1 H1 ρ1 run1 t1 n1.rh
theorem pt_ifExp (hc : PT X c (EvT G X.K Z tc)) (ha : PT X a (EvT G X.K Z ta)) (hb : PT X b (EvT G X.K Z tb)) : PT X (.IfExp c a b pos) (fun σ H Q => EvT G X.K Z tc σ H fun z H1 => if z = true then EvT G X.K Z ta σ H1 Q else EvT G X.K Z tb σ H1 Q) := by
  refine ⟨fun pins s σ H Q I h => ?_⟩
  have e : ∀ whole, PySem.isTrue (.IfExp c a b pos) X.env whole = (do if ← PySem.isTrue c X.env (eval c X.env) then PySem.isTrue a X.env (eval a X.env) else PySem.isTrue b X.env (eval b X.env)) := fun _ => by rw [PySem.isTrue]
  rw [e]
  refine wpAny_bind (thn (hc.run pins s σ H _ I h) fun d s1 ⟨H1, I1, q1⟩ => ?_)
  cases d with
  | true => exact ha.run pins s1 σ H1 Q I1 q1
  | false => exact hb.run pins s1 σ H1 Q I1 q1
theorem ev_ite (hc : PT X c (EvT G X.K Z tc)) (ha : PE X a (EvE G X.K Z sa)) (hb : PE X b (EvE G X.K Z sb)) : PE X (.IfExp c a b pos) (EvE G X.K Z (cIte tc sa sb)) :=
  (pe_ifExp hc ha hb).imp fun σ H Q ⟨ρ, e, h, kx, k, n, run, fin, fx⟩ => by
    have run : tc e h kx (fun x h => match x with | true => sa e h kx k | false => sb e h kx k) = true := run
    refine EvT.then n run fx fun z h1 H1 ρ1 t1 n1 run1 fx1 => ?_
    cases z with
    | true => exact ⟨ρ1, e, h1, kx, k, n1, run1, fin.mono t1, fx1⟩
    | false => exact ⟨ρ1, e, h1, kx, k, n1, run1, fin.mono t1, fx1⟩
/-! ### displays -/
theorem ea_nil : PA X [] (EvA G X.K Z aNil) := pa_nil.imp fun σ H Q ⟨ρ, e, h, kx, k, n, run, fin, _⟩ => fin [] h [] H ρ run .refl n.rh .nil
theorem ea_one {es : List Expr} (ha : PE X a (EvE G X.K Z sa)) (hr : PA X es (EvA G X.K Z sl)) (hs : starEach (a :: es) X.env = (false, eval a X.env) :: starEach es X.env := by rfl) : PA X (a :: es) (EvA G X.K Z (aOne sa sl)) :=
  (pa_cons ha hr hs).imp fun σ H Q ⟨ρ, e, h, kx, k, n, run, fin, fx⟩ => by
    have run : sa e h kx (fun w h => sl e h kx fun ws h => k (w :: ws) h) = true := run
    refine EvE.then n run fx fun x h1 v H1 ρ1 t1 n1 r1 run1 fx1 => ?_
    refine EvA.then n1 run1 fx1 fun ws h2 vs H2 ρ2 t2 n2 r2 run2 fx2 => ?_
    exact fin _ h2 _ H2 ρ2 run2 (t1.trans t2) n2.rh (.cons (r1.mono t2) r2)
theorem ev_tup {es : List Expr} {x1} (h : PA X es (EvA G X.K Z sl)) : PE X (.Tuple es x1 pos) (EvE G X.K Z (cTup sl)) :=
  (pe_tupP h).imp fun σ H Q ⟨ρ, e, h, kx, k, n, run, fin, fx⟩ => by
    have run : sl e h kx (fun ws h => tupK ws h k) = true := run
    refine EvA.then n run fx fun ws h1 vs H1 ρ1 t1 n1 r1 run1 _ => ?_
    obtain ⟨sm, run1⟩ := tupK_inv run1
    exact ⟨by rw [← r1.length]; exact sm, fun p ob hn d => tup_fin n1.rh hn r1 run1 (fin.mono t1) d⟩
theorem ev_lst {es : List Expr} (h : PA X es (EvA G X.K Z sl)) : PE X (.List es pos) (EvE G X.K Z (cLst sl)) :=
  (pe_lst h).imp fun σ H Q ⟨ρ, e, h, kx, k, n, run, fin, fx⟩ => by
    have run : sl e h kx (fun ws h => newK h (.lst ws) k) = true := run
    refine EvA.then n run fx fun ws h1 vs H1 ρ1 t1 n1 r1 run1 _ => ?_
    obtain ⟨sm, _, _⟩ := newK_inv run1
    exact ⟨by rw [← r1.length]; exact okO_lst sm, fun p hn => new_lst n1.rh hn r1 run1 (fin.mono t1)⟩
/-! ### subscripts -/
theorem ix_ok {n j : Nat} {i : Int} (e : ix n i = some j) : ixN n i = some j ∧ j < n := by
  cases i with
  | ofNat m =>
    have e : (match Nat.blt m n with | true => some m | false => none) = some j := e
    split at e
    · next l =>
      injection e with e
      have l := Nat.blt_eq.mp l
      refine ⟨?_, e ▸ l⟩
      show (if (0 : Int) ≤ (m : Int) then (if (m : Int) < n then some (m : Int).toNat else none) else _) = _
      rw [if_pos (by omega), if_pos (by omega), ← e]; rfl
    · cases e
  | negSucc m =>
    have e : (match Nat.blt m n with | true => some (Nat.sub n (Nat.succ m)) | false => none) = some j := e
    split at e
    · next l =>
      have l := Nat.blt_eq.mp l
      injection e with e
      have e : n - (m + 1) = j := e
      refine ⟨?_, by omega⟩
      unfold ixN
      rw [if_neg (by omega), if_pos (by omega)]
      congr 1; omega
    · cases e
theorem clip_ok (n d : Nat) (i : Int) : clip n i = HT.sIx n d (some i) := by
  cases i with
  | ofNat m =>
    show (match Nat.ble m n with | true => m | false => n) = HT.sIx n d (some (m : Int))
    rw [HT.sIx_nat]
    split
    · next l => have := Nat.le_of_ble_eq_true l; omega
    · next l =>
      have : ¬ m ≤ n := fun z => by rw [Nat.ble_eq_true_of_le z] at l; cases l
      omega
  | negSucc m =>
    show Nat.sub n (Nat.succ m) = if Int.negSucc m < 0 then (Int.negSucc m + (n : Int)).toNat else _
    rw [if_pos (by omega)]
    show n - (m + 1) = _
    omega
theorem clip_no (n d : Nat) : HT.sIx n d none = d := rfl
theorem slice_ok {α : Type} (xs : List α) (lo hi : Option Int) : sliceL xs lo hi = (xs.drop (HT.sIx xs.length 0 lo)).take (HT.sIx xs.length xs.length hi - HT.sIx xs.length 0 lo) := by
  cases lo with
  | none =>
    cases hi with
    | none => rfl
    | some j => show (xs.drop 0).take (Nat.sub (clip xs.length j) 0) = _; rw [clip_ok _ xs.length j]; rfl
  | some i =>
    cases hi with
    | none => show (xs.drop (clip xs.length i)).take (Nat.sub xs.length (clip xs.length i)) = _; rw [clip_ok _ 0 i]; rfl
    | some j => show (xs.drop (clip xs.length i)).take (Nat.sub (clip xs.length j) (clip xs.length i)) = _; rw [clip_ok _ 0 i, clip_ok _ xs.length j]; rfl
theorem ix_dct (hu : X.A.units + 1 < cLine) : IxR X (fun x y H Q => ∃ a v, x = .ref a ∧ DGet H a y (some v) ∧ Q v H) := by
  intro value slice pins s σ H x y v u Q I rx ry ⟨a, z, ex, g, q⟩ hs
  subst ex
  obtain rfl : v = Value.ref a := rx
  exact tail_any (dict_typeIs I g) PySem.F.slot_dict_getitem.lookup (d_getItem hu I g ry fun w' s3 I3 rw' => ⟨z, H, I3, rw', q⟩) hs
theorem idxSeq_inv {xs : List FE.W} {k : FE.W} {h : FE.H} {kr : KW} (run : idxSeq xs k h kr = true) : ∃ j i w, k = .int j ∧ ix xs.length j = some i ∧ nthW xs i = some w ∧ kr w h = true := by
  cases k with
  | int j =>
    obtain ⟨i, e1, run⟩ := opt_inv (show opt 151 (ix xs.length j) (fun j => opt 150 (nthW xs j) fun w => kr w h) = true from run)
    obtain ⟨w, e2, run⟩ := opt_inv run
    exact ⟨j, i, w, rfl, e1, e2, run⟩
  | non => cases run
  | bl c => cases run
  | str c => cases run
  | tup c => cases run
  | ob c => cases run
  | cls c => cases run
  | fn c => cases run
theorem at_ok {K : PySem.W.Frag} {ρ : Rho} {H : Hp} {ws : List FE.W} {xs : List V} {j : Int} {i : Nat} {w : FE.W} (r : RWs G K ρ H ws xs) (e1 : ix ws.length j = some i) (e2 : nthW ws i = some w) : ∃ v, atI xs j = some v ∧ RW G K ρ H w v := by
  obtain ⟨v, e3, rv⟩ := r.nth e2
  refine ⟨v, ?_, rv⟩
  rw [r.length] at e1
  unfold atI
  rw [(ix_ok e1).1]
  exact e3
theorem nthW_get {α : Type} : ∀ (xs : List α) (i : Nat), nthW xs i = xs[i]?
  | [], _ => by simp [nthW]
  | x :: xs, 0 => by simp [nthW]
  | x :: xs, i + 1 => by simp [nthW, nthW_get xs i]
theorem ix_all (hu : X.A.units + 64 < cLine) : IxR X (V2 G X.K idxW) := by
  intro value slice pins s σ H x y v u Q I rv ru ⟨ρ, h, k, w, t, R, rw_, rt, run, fin⟩ hs
  cases w with
  | tup ws =>
    obtain ⟨a, xs, rfl, q, r⟩ := rw_tup rw_
    obtain ⟨j, i, w', rfl, e1, e2, run⟩ := idxSeq_inv (show idxSeq ws t h k = true from run)
    cases rw_int rt
    obtain ⟨z, e3, rz⟩ := at_ok r e1 e2
    exact ix_tup value slice pins s σ H _ _ v u Q I rv ru ⟨a, xs, j, z, rfl, rfl, q, e3, fin _ _ _ _ _ run .refl R rz⟩ hs
  | str cs =>
    cases rw_str rw_
    cases t with
    | int j =>
      cases rw_int rt
      obtain ⟨sm, run⟩ := bool2 (show (match small cs with | true => opt 154 (ix cs.length j) (fun j => opt 155 (nthW cs j) fun c => k (.str [c]) h) | false => stop 156) = true from run)
      obtain ⟨i, e1, run⟩ := opt_inv run
      obtain ⟨c, e2, run⟩ := opt_inv run
      refine ix_str value slice pins s σ H _ _ v u Q I rv ru ⟨toS cs, j, c, rfl, rfl, by rw [toS_len]; exact small_inv sm, ?_, fin_str R fin run⟩ hs
      show atI cs j = some c
      unfold atI
      rw [(ix_ok e1).1, ← e2, nthW_get]; rfl
    | non => cases run
    | bl c => cases run
    | str c => cases run
    | tup c => cases run
    | ob c => cases run
    | cls c => cases run
    | fn c => cases run
  | ob n =>
    obtain ⟨a, rfl, q⟩ := rw_ob rw_
    have run : (match h.get n with | some (.lst xs) => idxSeq xs t h k | some (.dct kvs) => opt 160 (dgetH h t kvs) (fun r => opt 161 r fun w => k w h) | _ => stop 163) = true := run
    split at run
    · next ws g =>
      obtain ⟨xs, ea, r⟩ := lst_at R g q
      obtain ⟨j, i, w', rfl, e1, e2, run⟩ := idxSeq_inv run
      cases rw_int rt
      obtain ⟨z, e3, rz⟩ := at_ok r e1 e2
      exact ix_list value slice pins s σ H _ _ v u Q I rv ru ⟨a, xs, j, z, rfl, rfl, .of ea, e3, fin _ _ _ _ _ run .refl R rz⟩ hs
    · next kvs g =>
      obtain ⟨r, e1, run⟩ := opt_inv run
      obtain ⟨w', e2, run⟩ := opt_inv run
      subst e2
      rcases dgetH_ok R g q rt e1 with ⟨z, _⟩ | ⟨w2, z, e3, dg, rz⟩
      · cases z
      · cases e3
        exact ix_dct (by omega) value slice pins s σ H _ _ v u Q I rv ru ⟨a, z, rfl, dg, fin _ _ _ _ _ run .refl R rz⟩ hs
    · cases run
  | non => cases run
  | bl c => cases run
  | int c => cases run
  | cls c => cases run
  | fn c => cases run
theorem ev_idx (hu : X.A.units + 64 < cLine) (ha : PE X a (EvE G X.K Z sa)) (hb : PE X b (EvE G X.K Z sb)) (hs : PlainIx b) : PE X (.Subscript a b pos) (EvE G X.K Z (cIdx sa sb)) :=
  ev_two (f := idxW) (fun _ _ _ _ => rfl) (pe_ix (ix_all hu) ha hb hs)
/-! ### slices -/
/-- a part of a slice -/
def EvO (G : GM) (K : PySem.W.Frag) (Z : ZF K) (s : Sem) : TO := fun σ H Q => EvE G K Z s σ H fun v H' => ∃ o, ((v = .non ∧ o = none) ∨ ∃ i, v = .int i ∧ o = some i) ∧ Q o H'
theorem ep_none : PO X none (EvO G X.K Z (cCon .non)) := ⟨fun pins s σ H Q I h => po_none.run pins s σ H Q I (by
  obtain ⟨ρ, e, h, kx, k, n, run, fin, fx⟩ := h
  obtain ⟨o, q, r⟩ := fin .non h .non H ρ run .refl n.rh .non
  rcases q with ⟨_, rfl⟩ | ⟨i, z, _⟩
  · exact r
  · cases z)⟩
/-- .. that is surely an int: its combinator tells so -/
theorem ep_some (ha : PE X a (EvE G X.K Z sa)) : PO X (some a) (EvO G X.K Z (cIntO sa)) := ⟨fun pins s σ H Q I h => (po_some ha).run pins s σ H Q I (by
  obtain ⟨ρ, e, h, kx, k, n, run, fin, fx⟩ := h
  have run : sa e h kx (fun w h => intK w h k) = true := run
  refine EvE.then n run fx fun x h1 v H1 ρ1 t1 n1 r1 run1 fx1 => ?_
  cases x with
  | int i =>
    cases rw_int r1
    obtain ⟨o, q, r⟩ := fin (.int i) h1 (.int i) H1 ρ1 run1 t1 n1.rh (.int i)
    rcases q with ⟨z, _⟩ | ⟨i', z, rfl⟩
    · cases z
    · cases z; exact ⟨i, rfl, r⟩
  | non => cases run1
  | bl c => cases run1
  | str c => cases run1
  | tup c => cases run1
  | ob c => cases run1
  | cls c => cases run1
  | fn c => cases run1)⟩
end
end FE
end
section
set_option Elab.async false
set_option linter.all false
set_option maxRecDepth 100000
/-! FeExp2: slices, attributes, lengths, conversions. -/
namespace FE
open PySem PySem.Spec PyProof.Rows L2
open PySem.SeqAt
section
variable {X : Cx} {G : GM} {Z : ZF X.K} {a b c : Expr} {rest : List Expr} {pos : Pos} {sa sb sc : Sem} {ta tb tc : Tst} {sl : Slt}
/-! ### slices -/
def VS (G : GM) (K : PySem.W.Frag) : V → Option Int → Option Int → Hp → VK → Prop := fun x l u H Q => ∃ ρ h k w, RH G K ρ h H ∧ RW G K ρ H w x ∧ slcW w l u h k = true ∧ Fin G K ρ H k Q
theorem RWs.slice {K : PySem.W.Frag} {ρ : Rho} {H : Hp} {ws : List FE.W} {xs : List V} (r : RWs G K ρ H ws xs) (l u : Option Int) : RWs G K ρ H (sliceL ws l u) (cutV xs l u) := by
  rw [slice_ok]
  unfold cutV
  rw [r.length]
  exact (r.drop _).take _
theorem cut_all {xs : List V} {lo hi : Option Int} (h : HT.sIx xs.length 0 lo = 0 ∧ HT.sIx xs.length xs.length hi = xs.length) : cutV xs lo hi = xs := by
  unfold cutV
  rw [h.1, h.2]
  simp
theorem sl_all : SlR X (VS G X.K) := by
  intro pins s σ H x v vl vu lo hi sl Q I rx hs pl pu ⟨ρ, h, k, w, R, rw_, run, fin⟩
  cases w with
  | tup ws =>
    obtain ⟨a, xs, rfl, q, r, pt⟩ := rw_tupP rw_
    have run : k (.tup (sliceL ws lo hi)) h = true := run
    refine sl_tupP pins s σ H _ v vl vu lo hi sl Q I rx hs pl pu ⟨a, xs, rfl, q, fun e => ?_, fun _ p ob hn d => tup_fin R hn (r.slice lo hi) run fin d⟩
    have r2 := r.slice lo hi
    rw [cut_all e] at r2
    have ew : sliceL ws lo hi = ws := by
      rw [slice_ok, r.length, e.1, e.2, ← r.length]
      simp
    exact fin _ _ _ _ _ run .refl R (.tup q r2 (by rw [ew]; exact pt))
  | str cs =>
    cases rw_str rw_
    obtain ⟨sm, run⟩ := bool2 (show (match small cs with | true => k (.str (sliceL cs lo hi)) h | false => stop 203) = true from run)
    refine sl_str pins s σ H _ v vl vu lo hi sl Q I rx hs pl pu ⟨toS cs, rfl, by rw [toS_len]; exact small_inv sm, ?_⟩
    have e : cutS (toS cs) lo hi = toS (sliceL cs lo hi) := by
      rw [slice_ok]; rfl
    rw [e]
    exact fin_str R fin run
  | ob n =>
    obtain ⟨a, rfl, q⟩ := rw_ob rw_
    have run : (match h.get n with | some (.lst xs) => newK h (.lst (sliceL xs lo hi)) k | _ => stop 202) = true := run
    split at run
    · next ws g =>
      obtain ⟨xs, ea, r⟩ := lst_at R g q
      exact sl_list pins s σ H _ v vl vu lo hi sl Q I rx hs pl pu ⟨a, xs, rfl, .of ea, fun p hn => new_lst R hn (r.slice lo hi) run fin⟩
    · cases run
  | non => cases run
  | bl c => cases run
  | int c => cases run
  | cls c => cases run
  | fn c => cases run
theorem ev_slc {lo hi : Option Expr} {sl sh : Sem} {p2 : Pos} (ha : PE X a (EvE G X.K Z sa)) (hl : PO X lo (EvO G X.K Z sl)) (hu : PO X hi (EvO G X.K Z sh)) : PE X (.Subscript a (.Slice lo hi none p2) pos) (EvE G X.K Z (cSlc sa sl sh)) :=
  (pe_slice (sl_all (G := G)) ha hl hu).imp fun σ H Q ⟨ρ, e, h, kx, k, n, run, fin, fx⟩ => by
    have run : sa e h kx (fun x h => sl e h kx fun l h => opt 165 (optInt l) fun l => sh e h kx fun u h => opt 165 (optInt u) fun u => slcW x l u h k) = true := run
    have part : ∀ {w : FE.W} {o : Option Int} {ρ : Rho} {H : Hp} {v : V}, optInt w = some o → RW G X.K ρ H w v → ((v = .non ∧ o = none) ∨ ∃ i, v = .int i ∧ o = some i) := fun {w} {o} _ _ _ e r => by
      cases w with
      | non => cases e; exact .inl ⟨rw_non r, rfl⟩
      | int i => cases e; exact .inr ⟨i, rw_int r, rfl⟩
      | bl c => cases e
      | str c => cases e
      | tup c => cases e
      | ob c => cases e
      | cls c => cases e
      | fn c => cases e
    refine EvE.then n run fx fun x h1 v H1 ρ1 t1 n1 r1 run1 fx1 => ?_
    refine EvE.then n1 run1 fx1 fun l h2 v2 H2 ρ2 t2 n2 r2 run2 fx2 => ?_
    obtain ⟨l', e2, run2⟩ := opt_inv run2
    refine ⟨l', part e2 r2, ?_⟩
    refine EvE.then n2 run2 fx2 fun u h3 v3 H3 ρ3 t3 n3 r3 run3 fx3 => ?_
    obtain ⟨u', e3, run3⟩ := opt_inv run3
    exact ⟨u', part e3 r3, ρ3, h3, k, x, n3.rh, (r1.mono t2).mono t3, run3, ((fin.mono t1).mono t2).mono t3⟩
end
end FE
end
section
set_option Elab.async false
set_option linter.all false
set_option maxRecDepth 100000
/-! FeExp3: isinstance, lengths, what is made of a list. -/
namespace FE
open PySem PySem.Spec PyProof.Rows L2
open PySem.SeqAt
section
variable {G : GM} {K : PySem.W.Frag}
/-- an expression whose value is a list, by its items; a list or a tuple -/
def EvL (G : GM) (K : PySem.W.Frag) (Z : ZF K) (s : Slt) : TE := fun σ H Q => ∃ ρ e h kx k, Now G K ρ e h σ H ∧ s e h kx k = true ∧
  (∀ ws h' v a xs H' ρ', k ws h' = true → Ext K ρ H ρ' H' → RH G K ρ' h' H' → v = .ref a → SqL K H' a xs → RWs G K ρ' H' ws xs → Q v H') ∧ FinX G ρ H kx Z
def EvQ (G : GM) (K : PySem.W.Frag) (Z : ZF K) (s : Slt) : TE := fun σ H Q => ∃ ρ e h kx k, Now G K ρ e h σ H ∧ s e h kx k = true ∧
  (∀ ws h' v a xs H' ρ', k ws h' = true → Ext K ρ H ρ' H' → RH G K ρ' h' H' → v = .ref a → (SqL K H' a xs ∨ (SqT K H' a xs ∧ (keyed ws = true → PTu H' a xs))) → RWs G K ρ' H' ws xs → Q v H') ∧ FinX G ρ H kx Z
end
section
variable {X : Cx} {G : GM} {Z : ZF X.K} {a b c : Expr} {rest : List Expr} {pos p : Pos} {sa sb sc : Sem} {ta tb tc : Tst} {sl : Slt}
theorem el_of (ha : PE X a (EvE G X.K Z sa)) : PE X a (EvL G X.K Z (cLstOf sa)) :=
  ha.imp fun σ H Q ⟨ρ, e, h, kx, k, n, run, fin, fx⟩ => by
    have run : sa e h kx (fun w h => lstW w h k) = true := run
    refine EvE.then n run fx fun x h1 v H1 ρ1 t1 n1 r1 run1 _ => ?_
    cases x with
    | ob i =>
      obtain ⟨a, rfl, q⟩ := rw_ob r1
      have run1 : (match h1.get i with | some (.lst xs) => k xs h1 | _ => stop 58) = true := run1
      split at run1
      · next ws g =>
        obtain ⟨xs, ea, r⟩ := lst_at n1.rh g q
        exact fin ws h1 _ a xs H1 ρ1 run1 t1 n1.rh rfl (.of ea) r
      · cases run1
    | non => cases run1
    | bl c => cases run1
    | int c => cases run1
    | str c => cases run1
    | tup c => cases run1
    | cls c => cases run1
    | fn c => cases run1
theorem eq_of (ha : PE X a (EvE G X.K Z sa)) : PE X a (EvQ G X.K Z (cSeqOf sa)) :=
  ha.imp fun σ H Q ⟨ρ, e, h, kx, k, n, run, fin, fx⟩ => by
    have run : sa e h kx (fun w h => seqW w h k) = true := run
    refine EvE.then n run fx fun x h1 v H1 ρ1 t1 n1 r1 run1 _ => ?_
    cases x with
    | tup ws =>
      obtain ⟨a, xs, rfl, q, r, pt⟩ := rw_tupP r1
      exact fin ws h1 _ a xs H1 ρ1 run1 t1 n1.rh rfl (.inr ⟨q, pt⟩) r
    | ob i =>
      obtain ⟨a, rfl, q⟩ := rw_ob r1
      have run1 : (match h1.get i with | some (.lst xs) => k xs h1 | _ => stop 58) = true := run1
      split at run1
      · next ws g =>
        obtain ⟨xs, ea, r⟩ := lst_at n1.rh g q
        exact fin ws h1 _ a xs H1 ρ1 run1 t1 n1.rh rfl (.inl (.of ea)) r
      · cases run1
    | non => cases run1
    | bl c => cases run1
    | int c => cases run1
    | str c => cases run1
    | cls c => cases run1
    | fn c => cases run1
theorem eq_l (ha : PE X a (EvL G X.K Z sl)) : PE X a (EvQ G X.K Z sl) :=
  ha.imp fun σ H Q ⟨ρ, e, h, kx, k, n, run, fin, fx⟩ => ⟨ρ, e, h, kx, k, n, run, fun ws h' v a xs H' ρ' x1 x2 x3 x4 x5 x6 => fin ws h' v a xs H' ρ' x1 x2 x3 x4 (.inl x5) x6, fx⟩
/-- the one argument of a built-in function -/
theorem EvL.call {f : List FE.W → FE.H → KW → B} {r : List V → Hp → VK → Prop} {s : Sem} (hs : ∀ e h kx k, s e h kx k = sl e h kx fun ws h => f ws h k)
    (ok : ∀ {ρ h k ws a xs H Q}, RH G X.K ρ h H → f ws h k = true → Fin G X.K ρ H k Q → SqL X.K H a xs → RWs G X.K ρ H ws xs → r [.ref a] H Q) {E : Expr} (p : PE X E (tCB r (tCons (EvL G X.K Z sl) tNil))) : PE X E (EvE G X.K Z s) :=
  p.imp fun σ H Q ⟨ρ, e, h, kx, k, n, run, fin, fx⟩ => by
    rw [hs] at run
    exact ⟨ρ, e, h, kx, _, n, run, fun ws h' v a xs H' ρ' x1 x2 x3 x4 x5 x6 => by subst x4; exact ok x3 x1 (fin.mono x2) x5 x6, fx⟩
theorem EvQ.call {f : List FE.W → FE.H → KW → B} {r : List V → Hp → VK → Prop} {s : Sem} (hs : ∀ e h kx k, s e h kx k = sl e h kx fun ws h => f ws h k)
    (ok : ∀ {ρ h k ws a xs H Q}, RH G X.K ρ h H → f ws h k = true → Fin G X.K ρ H k Q → (SqL X.K H a xs ∨ (SqT X.K H a xs ∧ (keyed ws = true → PTu H a xs))) → RWs G X.K ρ H ws xs → r [.ref a] H Q) {E : Expr} (p : PE X E (tCB r (tCons (EvQ G X.K Z sl) tNil))) : PE X E (EvE G X.K Z s) :=
  p.imp fun σ H Q ⟨ρ, e, h, kx, k, n, run, fin, fx⟩ => by
    rw [hs] at run
    exact ⟨ρ, e, h, kx, _, n, run, fun ws h' v a xs H' ρ' x1 x2 x3 x4 x5 x6 => by subst x4; exact ok x3 x1 (fin.mono x2) x5 x6, fx⟩
theorem bools_ok {ρ : Rho} {H : Hp} : ∀ {ws : List FE.W} {xs : List V} {l : List Bool}, boolsW ws = some l → RWs G X.K ρ H ws xs → xs = l.map V.bl
  | [], _, _, e, r => by cases r; cases e; rfl
  | w :: ws, xs, l, e, r => by
    cases r with
    | cons r rs =>
      cases w with
      | bl b =>
        unfold boolsW at e
        split at e
        · next l' q => cases e; rw [rw_bl r, bools_ok q rs]; rfl
        · cases e
      | non => cases e
      | int c => cases e
      | str c => cases e
      | tup c => cases e
      | ob c => cases e
      | cls c => cases e
      | fn c => cases e
theorem ints_ok {ρ : Rho} {H : Hp} : ∀ {ws : List FE.W} {xs : List V} {l : List Int}, intsW ws = some l → RWs G X.K ρ H ws xs → xs = l.map V.int
  | [], _, _, e, r => by cases r; cases e; rfl
  | w :: ws, xs, l, e, r => by
    cases r with
    | cons r rs =>
      cases w with
      | int b =>
        unfold intsW at e
        split at e
        · next l' q => cases e; rw [rw_int r, ints_ok q rs]; rfl
        · cases e
      | non => cases e
      | bl c => cases e
      | str c => cases e
      | tup c => cases e
      | ob c => cases e
      | cls c => cases e
      | fn c => cases e
theorem anyB_eq : ∀ l : List Bool, anyB l = l.any id
  | [] => rfl
  | b :: l => by cases b <;> simp [anyB, anyB_eq l]
theorem allB_eq : ∀ l : List Bool, allB l = l.all id
  | [] => rfl
  | b :: l => by cases b <;> simp [allB, allB_eq l]
theorem sumZ_eq : ∀ l : List Int, sumZ l = l.sum
  | [] => rfl
  | i :: l => by rw [sumZ, addZ_eq, sumZ_eq l, List.sum_cons]
theorem maxZ_ok : ∀ (l : List Int) (m : Int), maxZ m l ∈ m :: l ∧ ∀ y ∈ m :: l, y ≤ maxZ m l
  | [], m => ⟨List.mem_cons_self, fun y hy => by simp at hy; subst hy; exact Int.le_refl _⟩
  | i :: l, m => by
    unfold maxZ
    cases e : ltZ m i with
    | true =>
      have := ltZ_t e
      obtain ⟨h1, h2⟩ := maxZ_ok l i
      refine ⟨List.mem_cons_of_mem _ h1, fun y hy => ?_⟩
      rcases List.mem_cons.mp hy with rfl | hy
      · have := h2 i List.mem_cons_self; show y ≤ maxZ i l; omega
      · exact h2 y hy
    | false =>
      have := ltZ_f e
      obtain ⟨h1, h2⟩ := maxZ_ok l m
      refine ⟨?_, fun y hy => ?_⟩
      · rcases List.mem_cons.mp h1 with h1 | h1
        · exact List.mem_cons.mpr (.inl h1)
        · exact List.mem_cons_of_mem _ (List.mem_cons_of_mem _ h1)
      · rcases List.mem_cons.mp hy with rfl | hy
        · exact h2 _ List.mem_cons_self
        · rcases List.mem_cons.mp hy with rfl | hy
          · have := h2 m List.mem_cons_self; show y ≤ maxZ m l; omega
          · exact h2 y (List.mem_cons_of_mem _ hy)
theorem minZ_ok : ∀ (l : List Int) (m : Int), minZ m l ∈ m :: l ∧ ∀ y ∈ m :: l, minZ m l ≤ y
  | [], m => ⟨List.mem_cons_self, fun y hy => by simp at hy; subst hy; exact Int.le_refl _⟩
  | i :: l, m => by
    unfold minZ
    cases e : ltZ i m with
    | true =>
      have := ltZ_t e
      obtain ⟨h1, h2⟩ := minZ_ok l i
      refine ⟨List.mem_cons_of_mem _ h1, fun y hy => ?_⟩
      rcases List.mem_cons.mp hy with rfl | hy
      · have := h2 i List.mem_cons_self; show minZ i l ≤ y; omega
      · exact h2 y hy
    | false =>
      have := ltZ_f e
      obtain ⟨h1, h2⟩ := minZ_ok l m
      refine ⟨?_, fun y hy => ?_⟩
      · rcases List.mem_cons.mp h1 with h1 | h1
        · exact List.mem_cons.mpr (.inl h1)
        · exact List.mem_cons_of_mem _ (List.mem_cons_of_mem _ h1)
      · rcases List.mem_cons.mp hy with rfl | hy
        · exact h2 _ List.mem_cons_self
        · rcases List.mem_cons.mp hy with rfl | hy
          · have := h2 m List.mem_cons_self; show minZ m l ≤ y; omega
          · exact h2 y (List.mem_cons_of_mem _ hy)
section
variable (hg : ∀ x : Str, Gl X x → X.mg x = none → True)
theorem pa_1 {t : TE} (ha : PE X a t) (hs : starEach (a :: []) X.env = (false, eval a X.env) :: starEach [] X.env) : PA X [a] (tCons t tNil) := pa_cons ha pa_nil hs
theorem ev_all (hc : X.calm = true) (hg : Gl X "all") (hm : X.mg "all" = none) (ha : PE X a (EvL G X.K Z sl)) (hs : starEach (a :: []) X.env = (false, eval a X.env) :: starEach [] X.env := by rfl) : PE X (.Call (.Name "all" p) [a] [] pos) (EvE G X.K Z (cBf .all sl)) :=
  EvL.call (f := fun xs h k => opt 91 (boolsW xs) fun l => k (.bl (allB l)) h) (fun _ _ _ _ => rfl) (fun R run fin sq r => by
    obtain ⟨l, e, run⟩ := opt_inv run
    exact ⟨_, l, rfl, by rw [← bools_ok e r]; exact sq, by rw [← allB_eq]; exact fin_bl' R fin run⟩) (pe_callB (cr_all hc) hg hm (by rfl) (pa_1 ha hs) (by decide) (by decide) hs)
theorem ev_any (hc : X.calm = true) (hg : Gl X "any") (hm : X.mg "any" = none) (ha : PE X a (EvL G X.K Z sl)) (hs : starEach (a :: []) X.env = (false, eval a X.env) :: starEach [] X.env := by rfl) : PE X (.Call (.Name "any" p) [a] [] pos) (EvE G X.K Z (cBf .any sl)) :=
  EvL.call (f := fun xs h k => opt 90 (boolsW xs) fun l => k (.bl (anyB l)) h) (fun _ _ _ _ => rfl) (fun R run fin sq r => by
    obtain ⟨l, e, run⟩ := opt_inv run
    exact ⟨_, l, rfl, by rw [← bools_ok e r]; exact sq, by rw [← anyB_eq]; exact fin_bl' R fin run⟩) (pe_callB (cr_any hc) hg hm (by rfl) (pa_1 ha hs) (by decide) (by decide) hs)
theorem ev_sum (hc : X.calm = true) (hg : Gl X "sum") (hm : X.mg "sum" = none) (ha : PE X a (EvL G X.K Z sl)) (hs : starEach (a :: []) X.env = (false, eval a X.env) :: starEach [] X.env := by rfl) : PE X (.Call (.Name "sum" p) [a] [] pos) (EvE G X.K Z (cBf .sum sl)) :=
  EvL.call (f := fun xs h k => opt 92 (intsW xs) fun l => k (.int (sumZ l)) h) (fun _ _ _ _ => rfl) (fun R run fin sq r => by
    obtain ⟨l, e, run⟩ := opt_inv run
    exact ⟨_, l, rfl, by rw [← ints_ok e r]; exact sq, by rw [← sumZ_eq]; exact fin_int R fin run⟩) (pe_callB (cr_sum hc) hg hm (by rfl) (pa_1 ha hs) (by decide) (by decide) hs)
theorem ev_max (hc : X.calm = true) (hg : Gl X "max") (hm : X.mg "max" = none) (ha : PE X a (EvL G X.K Z sl)) (hs : starEach (a :: []) X.env = (false, eval a X.env) :: starEach [] X.env := by rfl) : PE X (.Call (.Name "max" p) [a] [] pos) (EvE G X.K Z (cBf .max sl)) :=
  EvL.call (f := fun xs h k => opt 96 (intsW xs) fun l => mostZ true l h k) (fun _ _ _ _ => rfl) (fun R run fin sq r => by
    obtain ⟨l, e, run⟩ := opt_inv run
    cases l with
    | nil => cases run
    | cons i l =>
      refine ⟨_, i :: l, rfl, by rw [← ints_ok e r]; exact sq, by simp, fun m hm hm2 => ?_⟩
      obtain ⟨h1, h2⟩ := maxZ_ok l i
      have : m = maxZ i l := Int.le_antisymm (h2 m hm) (hm2 _ h1)
      rw [this]
      exact fin_int R fin run) (pe_callB (cr_max hc) hg hm (by rfl) (pa_1 ha hs) (by decide) (by decide) hs)
theorem ev_min (hc : X.calm = true) (hg : Gl X "min") (hm : X.mg "min" = none) (ha : PE X a (EvL G X.K Z sl)) (hs : starEach (a :: []) X.env = (false, eval a X.env) :: starEach [] X.env := by rfl) : PE X (.Call (.Name "min" p) [a] [] pos) (EvE G X.K Z (cBf .min sl)) :=
  EvL.call (f := fun xs h k => opt 97 (intsW xs) fun l => mostZ false l h k) (fun _ _ _ _ => rfl) (fun R run fin sq r => by
    obtain ⟨l, e, run⟩ := opt_inv run
    cases l with
    | nil => cases run
    | cons i l =>
      refine ⟨_, i :: l, rfl, by rw [← ints_ok e r]; exact sq, by simp, fun m hm hm2 => ?_⟩
      obtain ⟨h1, h2⟩ := minZ_ok l i
      have : m = minZ i l := Int.le_antisymm (hm2 _ h1) (h2 m hm)
      rw [this]
      exact fin_int R fin run) (pe_callB (cr_min hc) hg hm (by rfl) (pa_1 ha hs) (by decide) (by decide) hs)
theorem ev_lenL (hg : Gl X "len") (hm : X.mg "len" = none) (ha : PE X a (EvL G X.K Z sl)) (hs : starEach (a :: []) X.env = (false, eval a X.env) :: starEach [] X.env := by rfl) : PE X (.Call (.Name "len" p) [a] [] pos) (EvE G X.K Z (cBf .len sl)) :=
  EvL.call (f := fun xs h k => k (.int (.ofNat xs.length)) h) (fun _ _ _ _ => rfl) (fun R run fin sq r => ⟨_, _, rfl, .inl sq, by rw [← r.length]; exact fin_int R fin run⟩) (pe_callB call_len_seq hg hm (by rfl) (pa_1 ha hs) (by decide) (by decide) hs)
theorem ev_tupleQ (hg : Gl X "tuple") (hm : X.mg "tuple" = none) (ha : PE X a (EvQ G X.K Z sl)) (hs : starEach (a :: []) X.env = (false, eval a X.env) :: starEach [] X.env := by rfl) : PE X (.Call (.Name "tuple" p) [a] [] pos) (EvE G X.K Z (cBf .tuple sl)) :=
  EvQ.call (f := tupK) (fun _ _ _ _ => rfl) (fun R run fin sq r => by
    obtain ⟨_, run⟩ := tupK_inv run
    rcases sq with sq | sq
    · exact ⟨_, _, rfl, .inl ⟨sq, fun l ob hn d => tup_fin R hn r run fin d⟩⟩
    · exact ⟨_, _, rfl, .inr ⟨sq.1, fin _ _ _ _ _ run .refl R (.tup sq.1 r sq.2)⟩⟩) (pe_callTy call_tupleP hg hm (by rfl) (pa_1 ha hs) (by decide) (by decide) hs)
theorem ev_listQ (hg : Gl X "list") (hm : X.mg "list" = none) (ha : PE X a (EvQ G X.K Z sl)) (hs : starEach (a :: []) X.env = (false, eval a X.env) :: starEach [] X.env := by rfl) : PE X (.Call (.Name "list" p) [a] [] pos) (EvE G X.K Z (cBf .list sl)) :=
  EvQ.call (f := fun xs h k => newK h (.lst xs) k) (fun _ _ _ _ => rfl) (fun R run fin sq r => ⟨_, _, rfl, sq.imp id And.left, fun l hn => new_lst R hn r run fin⟩) (pe_callTy call_list_of hg hm (by rfl) (pa_1 ha hs) (by decide) (by decide) hs)
end
/-! ### len of any value -/
theorem Ks.length_ {ρ : Rho} {H : Hp} {kvs : List (FE.W × FE.W)} {ks : List (Key × V)} (r : Ks G X.K ρ H kvs ks) : kvs.length = ks.length := by
  induction r with
  | nil => rfl
  | cons _ _ _ ih => simp [ih]
theorem call_len_any : CallR X (.builtin "len") (fun xs H Q => ∃ x, xs = [x] ∧ V1 G X.K lenW x H Q) := by
  intro pins s σ H xs us Q I rs ⟨x, ex, ρ, h, k, w, R, rw_, run, fin⟩
  subst ex
  cases w with
  | tup ws =>
    obtain ⟨a, ys, rfl, q, r⟩ := rw_tup rw_
    exact call_len_seq pins s σ H _ us Q I rs ⟨a, ys, rfl, .inr q, by rw [← r.length]; exact fin_int R fin run⟩
  | str cs =>
    cases rw_str rw_
    obtain ⟨sm, run⟩ := bool2 (show (match small cs with | true => k (.int (.ofNat cs.length)) h | false => stop 59) = true from run)
    exact call_len_str pins s σ H _ us Q I rs ⟨toS cs, rfl, by rw [toS_len]; exact small_inv sm, by rw [toS_len]; exact fin_int R fin run⟩
  | ob n =>
    obtain ⟨a, rfl, q⟩ := rw_ob rw_
    have run : (match h.get n with | some (.lst xs) => k (.int (.ofNat xs.length)) h | some (.dct xs) => k (.int (.ofNat xs.length)) h | _ => stop 59) = true := run
    split at run
    · next ws g =>
      obtain ⟨ys, ea, r⟩ := lst_at R g q
      exact call_len_seq pins s σ H _ us Q I rs ⟨a, ys, rfl, .inl (.of ea), by rw [← r.length]; exact fin_int R fin run⟩
    · next kvs g =>
      obtain ⟨ks, ea, r⟩ := dct_at R g q
      have e := r.length_
      exact call_lenD pins s σ H _ us Q I rs ⟨a, ks, rfl, ea, by rw [← e]; exact fin_int R fin run⟩
    · cases run
  | non => cases run
  | bl c => cases run
  | int c => cases run
  | cls c => cases run
  | fn c => cases run
theorem ev_call1 {f : FE.W → FE.H → KW → B} {s : Sem} (hs : ∀ e h kx k, s e h kx k = sa e h kx fun w h => f w h k) {E : Expr} (p : PE X E (tCB (fun xs H Q => ∃ x, xs = [x] ∧ V1 G X.K f x H Q) (tCons (EvE G X.K Z sa) tNil))) : PE X E (EvE G X.K Z s) :=
  p.imp fun σ H Q ⟨ρ, e, h, kx, k, n, run, fin, fx⟩ => by
    rw [hs] at run
    exact EvE.then n run fx fun x h1 v H1 ρ1 t1 n1 r1 run1 _ => ⟨v, rfl, ρ1, h1, k, x, n1.rh, r1, run1, fin.mono t1⟩
theorem ev_len (hg : Gl X "len") (hm : X.mg "len" = none) (ha : PE X a (EvE G X.K Z sa)) (hs : starEach (a :: []) X.env = (false, eval a X.env) :: starEach [] X.env := by rfl) : PE X (.Call (.Name "len" p) [a] [] pos) (EvE G X.K Z (cLen sa)) :=
  ev_call1 (f := lenW) (fun _ _ _ _ => rfl) (pe_callB (call_len_any (G := G)) hg hm (by rfl) (pa_1 ha hs) (by decide) (by decide) hs)
/-! ### isinstance, built-in types -/
def tyN : FE.Ty → String
  | .int => "int" | .bool => "bool" | .str => "str" | .tuple => "tuple" | .list => "list" | .cls _ => "object"
theorem isBt_ok {ρ : Rho} {h : FE.H} {H : Hp} (R : RH G X.K ρ h H) {w : FE.W} {x : V} {t : FE.Ty} {r : Bool} (rw_ : RW G X.K ρ H w x) : ∃ T : String, ∀ {t r}, isBt h w t = some r → TyX X.K H x (.type T) ∧ kitB T (tyN t) = some r := by
  cases rw_ with
  | non =>
    refine ⟨"NoneType", fun {t r} e => ⟨.base .non, ?_⟩⟩
    cases t <;> cases e <;> kernel_rfl
  | bl c =>
    refine ⟨"bool", fun {t r} e => ⟨.base (.bl c), ?_⟩⟩
    cases t <;> cases e <;> kernel_rfl
  | int c =>
    refine ⟨"int", fun {t r} e => ⟨.base (.int c), ?_⟩⟩
    cases t <;> cases e <;> kernel_rfl
  | str c =>
    refine ⟨"str", fun {t r} e => ⟨.base (.str _), ?_⟩⟩
    cases t <;> cases e <;> kernel_rfl
  | tup q _ =>
    refine ⟨"tuple", fun {t r} e => ⟨?_, ?_⟩⟩
    · rcases q with (q | ⟨o, q⟩) | ⟨o, its, n, q, c, _⟩
      · exact .base (.tup q)
      · exact .fTuple q
      · exact .kTuple q c
    · cases t <;> cases e <;> kernel_rfl
  | @ob n a q =>
    cases g : h.get n with
    | none =>
      refine ⟨"", fun {t r} e => ?_⟩
      unfold isBt at e
      simp only [g] at e
      cases e
    | some o =>
      cases o with
      | lst ws =>
        obtain ⟨xs, ea, _⟩ := lst_at R g q
        refine ⟨"list", fun {t r} e => ⟨.base (.lst ea), ?_⟩⟩
        unfold isBt at e
        simp only [g] at e
        cases t <;> cases e <;> kernel_rfl
      | dct kvs =>
        obtain ⟨xs, ea, _⟩ := dct_at R g q
        refine ⟨"dict", fun {t r} e => ⟨.base (.dK ea), ?_⟩⟩
        unfold isBt at e
        simp only [g] at e
        cases t <;> cases e <;> kernel_rfl
      | ins c fs =>
        refine ⟨"", fun {t r} e => ?_⟩
        unfold isBt at e
        simp only [g] at e
        cases e
      | exc c fs =>
        refine ⟨"", fun {t r} e => ?_⟩
        unfold isBt at e
        simp only [g] at e
        cases e
      | urn t =>
        refine ⟨"", fun {t r} e => ?_⟩
        unfold isBt at e
        simp only [g] at e
        cases e
      | cells =>
        refine ⟨"", fun {t r} e => ?_⟩
        unfold isBt at e
        simp only [g] at e
        cases e
      | lck kvs =>
        refine ⟨"", fun {t r} e => ?_⟩
        unfold isBt at e
        simp only [g] at e
        cases e
  | cls q => exact ⟨"", fun {t r} e => by cases e⟩
  | fn q => exact ⟨"", fun {t r} e => by cases e⟩
end
end FE
end
section
set_option Elab.async false
set_option linter.all false
set_option maxRecDepth 100000
/-! FeIsi: isinstance of built-in types; methods of lists and dicts; displays with stars. -/
namespace FE
open PySem PySem.Spec PyProof.Rows L2
open PySem.SeqAt
section
variable {X : Cx} {G : GM} {Z : ZF X.K} {a b c : Expr} {rest : List Expr} {pos p : Pos} {sa sb sc : Sem} {ta tb tc : Tst} {sl : Slt}
theorem kit_all {K : PySem.W.Frag} {ρ : Rho} {h : FE.H} {H : Hp} (R : RH G K ρ h H) {w : FE.W} {x : V} {T : String} (ok : ∀ {t r}, isBt h w t = some r → TyX K H x (.type T) ∧ kitB T (tyN t) = some r) :
    ∀ {ts : List FE.Ty} {r : Bool}, isBts h w ts = some r → PySem.W.kitAny K (.type T) (ts.map fun t => Value.type (tyN t)) = some r
  | [], r, e => by cases e; rfl
  | t :: ts, r, e => by
    unfold isBts at e
    split at e
    · next q => cases e; exact kitAny_cons (kit_ty (ok q).2) (fun z => nomatch z) fun _ => rfl
    · next q => exact kitAny_cons (kit_ty (ok q).2) (fun _ => kit_all R ok e) (fun z => nomatch z)
    · cases e
theorem isBts_one {h : FE.H} {w : FE.W} {t : FE.Ty} {ts : List FE.Ty} {r : Bool} (e : isBts h w (t :: ts) = some r) : ∃ r', isBt h w t = some r' := by
  unfold isBts at e
  split at e
  · next q => exact ⟨_, q⟩
  · next q => exact ⟨_, q⟩
  · cases e
theorem ev_isb1 {t : FE.Ty} {ce : Expr} (hg : Gl X "isinstance") (hm : X.mg "isinstance" = none) (ha : PE X a (EvE G X.K Z sa)) (hc : PE X ce (tC (.ty (tyN t))))
    (hs : starEach (a :: [ce]) X.env = (false, eval a X.env) :: starEach [ce] X.env := by rfl) (hs2 : starEach (ce :: []) X.env = (false, eval ce X.env) :: starEach [] X.env := by rfl) (hpl : (backTo pos (starEach [ce] X.env)).any (·.1) = false := by rfl) :
    PE X (.Call (.Name "isinstance" p) [a, ce] [] pos) (EvE G X.K Z (cIsb sa [t])) :=
  (pe_callB call_isi hg hm (by rfl) (pa_cons ha (pa_cons hc pa_nil hs2) hs) (by decide) (by decide) hs hpl).imp fun σ H Q ⟨ρ, e, h, kx, k, n, run, fin, fx⟩ => by
    have run : sa e h kx (fun w h => okB 226 (isBts h w [t]) h k) = true := run
    refine EvE.then n run fx fun x h1 v H1 ρ1 t1 n1 r1 run1 _ => ?_
    obtain ⟨r, e1, run1⟩ := opt_inv run1
    obtain ⟨T, ok⟩ := isBt_ok (t := t) (r := r) n1.rh r1
    obtain ⟨r', e2⟩ := isBts_one e1
    have e3 : r' = r := by
      unfold isBts at e1
      rw [e2] at e1
      cases r' with
      | true => injection e1
      | false => injection e1
    subst e3
    exact ⟨v, .ty (tyN t), .type T, .type (tyN t), r', rfl, .ty _, (ok e2).1, kit_ty (ok e2).2, fin_bl' n1.rh (fin.mono t1) run1⟩
def tTys (ts : List FE.Ty) : TA := fun _ H Q => Q (ts.map fun t => V.ty (tyN t)) H
theorem pa_tys0 : PA X [] (tTys []) := pa_nil
theorem pa_tys {t : FE.Ty} {ts : List FE.Ty} {ce : Expr} {es : List Expr} (hc : PE X ce (tC (.ty (tyN t)))) (hr : PA X es (tTys ts)) (hs : starEach (ce :: es) X.env = (false, eval ce X.env) :: starEach es X.env := by rfl) : PA X (ce :: es) (tTys (t :: ts)) := pa_cons hc hr hs
theorem ev_isbs {t : FE.Ty} {ts : List FE.Ty} {es : List Expr} {x1} {p1 : Pos} (hg : Gl X "isinstance") (hm : X.mg "isinstance" = none) (ha : PE X a (EvE G X.K Z sa)) (hc : PA X es (tTys (t :: ts))) (hlen : (t :: ts).length ≤ sizeLine)
    (hs : starEach (a :: [.Tuple es x1 p1]) X.env = (false, eval a X.env) :: starEach [.Tuple es x1 p1] X.env := by rfl) (hs2 : starEach (.Tuple es x1 p1 :: []) X.env = (false, eval (.Tuple es x1 p1) X.env) :: starEach [] X.env := by rfl) (hpl : (backTo pos (starEach [.Tuple es x1 p1] X.env)).any (·.1) = false := by rfl) :
    PE X (.Call (.Name "isinstance" p) [a, .Tuple es x1 p1] [] pos) (EvE G X.K Z (cIsb sa (t :: ts))) :=
  (pe_callB call_isiT hg hm (by rfl) (pa_cons ha (pa_cons (pe_tup hc) pa_nil hs2) hs) (by decide) (by decide) hs hpl).imp fun σ H Q ⟨ρ, e, h, kx, k, n, run, fin, fx⟩ => by
    have run : sa e h kx (fun w h => okB 226 (isBts h w (t :: ts)) h k) = true := run
    refine EvE.then n run fx fun x h1 v H1 ρ1 t1 n1 r1 run1 _ => ?_
    obtain ⟨r, e1, run1⟩ := opt_inv run1
    refine ⟨by rw [List.length_map]; exact hlen, fun q hn => ?_⟩
    obtain ⟨ex, R'⟩ := n1.rh.tup (xs := (t :: ts).map fun t => V.ty (tyN t)) hn
    obtain ⟨T, ok⟩ := isBt_ok (t := t) (r := r) R' (r1.mono ex)
    obtain ⟨r', e2⟩ := isBts_one e1
    have pd : ∀ ts : List FE.Ty, Paired ClsV (ts.map fun t => V.ty (tyN t)) (ts.map fun t => Value.type (tyN t)) := fun ts => by
      induction ts with
      | nil => exact .nil
      | cons t ts ih => exact .cons (.ty _) ih
    exact ⟨v, q, _, .type T, _, r, rfl, upd_same, pd _, (ok e2).1, kit_all R' ok e1, fin_bl' R' ((fin.mono t1).mono ex) run1⟩
/-! ### methods of lists -/
/-- a value and several -/
def VM (G : GM) (K : PySem.W.Frag) (f : FE.W → List FE.W → FE.H → KW → B) : V → List V → Hp → VK → Prop := fun x xs H Q => ∃ ρ h k w ws, RH G K ρ h H ∧ RW G K ρ H w x ∧ RWs G K ρ H ws xs ∧ f w ws h k = true ∧ Fin G K ρ H k Q
theorem lstHere_inv {w : FE.W} {h : FE.H} {r : B} (run : lstHere w h r = true) : ∃ n ws, w = .ob n ∧ h.get n = some (.lst ws) ∧ r = true := by
  cases w with
  | ob n =>
    have run : (match h.get n with | some (.lst _) => r | _ => stop 131) = true := run
    split at run
    · next ws g => exact ⟨n, ws, rfl, g, run⟩
    · cases run
  | non => cases run
  | bl c => cases run
  | int c => cases run
  | str c => cases run
  | tup c => cases run
  | cls c => cases run
  | fn c => cases run
theorem lmW_inv {m : Bm} {w : FE.W} {ws : List FE.W} {h : FE.H} {k : KW} (run : lmW m w ws h k = true) : ∃ n xs, w = .ob n ∧ h.get n = some (.lst xs) ∧ bmLst m n xs ws h k = true := by
  cases w with
  | ob n =>
    have run : (match h.get n with | some (.lst xs) => bmLst m n xs ws h k | _ => stop 131) = true := run
    split at run
    · next ws g => exact ⟨n, ws, rfl, g, run⟩
    · cases run
  | non => cases run
  | bl c => cases run
  | int c => cases run
  | str c => cases run
  | tup c => cases run
  | cls c => cases run
  | fn c => cases run
theorem lstW_inv {w : FE.W} {h : FE.H} {k : List FE.W → FE.H → B} (run : lstW w h k = true) : ∃ n xs, w = .ob n ∧ h.get n = some (.lst xs) ∧ k xs h = true := by
  cases w with
  | ob n =>
    have run : (match h.get n with | some (.lst xs) => k xs h | _ => stop 58) = true := run
    split at run
    · next ws g => exact ⟨n, ws, rfl, g, run⟩
    · cases run
  | non => cases run
  | bl c => cases run
  | int c => cases run
  | str c => cases run
  | tup c => cases run
  | cls c => cases run
  | fn c => cases run
theorem put_fin {ρ : Rho} {h : FE.H} {H : Hp} {k : KW} {Q : VK} {n : Nat} {q : Addr} {ws vs : List FE.W} {xs ys : List V} {w : FE.W} {v : V} (R : RH G X.K ρ h H) (g : h.get n = some (.lst vs)) (e : ρ n = some q) (ea : H q = some (.lst ys)) (r : RWs G X.K ρ H ws xs) (rv : RW G X.K ρ H w v)
    (run : k w (h.put n (.lst ws)) = true) (fin : Fin G X.K ρ H k Q) : Q v (upd H q (.lst xs)) := by
  obtain ⟨ex, R'⟩ := R.put_lst g e ea r
  exact fin _ _ _ _ _ run ex R' (rv.mono ex)
theorem mtl_append : MtR X "list.append" (VM G X.K (lmW .append)) := by
  intro pins s σ H x xs v us Q I rx rs ⟨ρ, h, k, w, ws, R, rw_, rws, run, fin⟩
  obtain ⟨n, vs, rfl, g, run⟩ := lmW_inv run
  obtain ⟨a, rfl, q⟩ := rw_ob rw_
  obtain ⟨ys, ea, r⟩ := lst_at R g q
  match ws, run with
  | [w], run =>
    have run : putK h n (.lst (vs ++ [w])) (fun h => k .non h) = true := run
    obtain ⟨ok, run⟩ := putK_inv run
    cases rws with
    | cons r1 r2 =>
      cases r2
      have l := okO_lst ok
      rw [List.length_append, r.length] at l
      exact mt_append pins s σ H _ _ v us Q I rx rs ⟨a, ys, _, rfl, rfl, ea, l, put_fin R g q ea (r.append (.cons r1 .nil)) .non run fin⟩
  | [], run => cases run
  | _ :: _ :: _, run => cases run
theorem mtl_extend : MtR X "list.extend" (VM G X.K (lmW .extend)) := by
  intro pins s σ H x xs v us Q I rx rs ⟨ρ, h, k, w, ws, R, rw_, rws, run, fin⟩
  obtain ⟨n, vs, rfl, g, run⟩ := lmW_inv run
  obtain ⟨a, rfl, q⟩ := rw_ob rw_
  obtain ⟨ys, ea, r⟩ := lst_at R g q
  match ws, run with
  | [w], run =>
    have run : lstW w h (fun ys h => putK h n (.lst (vs ++ ys)) fun h => k .non h) = true := run
    obtain ⟨m, zs, rfl, g2, run⟩ := lstW_inv run
    obtain ⟨ok, run⟩ := putK_inv run
    cases rws with
    | cons r1 r2 =>
      cases r2
      obtain ⟨b, rfl, q2⟩ := rw_ob r1
      obtain ⟨zs', eb, rz⟩ := lst_at R g2 q2
      have l := okO_lst ok
      rw [List.length_append, r.length, rz.length] at l
      exact mt_extend pins s σ H _ _ v us Q I rx rs ⟨a, b, ys, zs', rfl, rfl, ea, eb, l, put_fin R g q ea (r.append rz) .non run fin⟩
  | [], run => cases run
  | _ :: _ :: _, run => cases run
theorem unsnoc_ok : ∀ {xs r : List FE.W} {l : FE.W}, unsnoc xs = some (r, l) → xs = r ++ [l]
  | [], _, _, e => by cases e
  | x :: xs, r, l, e => by
    unfold unsnoc at e
    split at e
    · next q =>
      cases e
      cases xs with
      | nil => rfl
      | cons y ys =>
        unfold unsnoc at q
        split at q <;> cases q
    · next r' l' q =>
      cases e
      rw [unsnoc_ok q]; rfl
theorem mtl_pop0 : MtR X "list.pop" (fun x xs H Q => xs = [] ∧ VM G X.K (lmW .pop) x xs H Q) := by
  intro pins s σ H x xs v us Q I rx rs ⟨ex, ρ, h, k, w, ws, R, rw_, rws, run, fin⟩
  subst ex
  obtain ⟨n, vs, rfl, g, run⟩ := lmW_inv run
  obtain ⟨a, rfl, q⟩ := rw_ob rw_
  obtain ⟨ys, ea, r⟩ := lst_at R g q
  cases rws
  obtain ⟨⟨r', l⟩, e, run2⟩ := opt_inv (show opt 113 (unsnoc vs) (fun p => k p.2 (h.put n (.lst p.1))) = true from run)
  have e := unsnoc_ok e
  subst e
  obtain ⟨y1, y2, rfl, r1, r2⟩ := RWs.split r
  cases r2 with
  | @cons _ vl _ _ rl r3 =>
    cases r3
    refine mt_pop pins s σ H _ _ v us Q I rx rs ⟨a, _, vl, rfl, rfl, ea, by simp, ?_⟩
    rw [List.dropLast_concat]
    exact put_fin R g q ea r1 rl run2 fin
theorem tyV_lst {ρ : Rho} {h : FE.H} {H : Hp} {n : Nat} {ws : List FE.W} {v : V} (R : RH G X.K ρ h H) (g : h.get n = some (.lst ws)) (r : RW G X.K ρ H (.ob n) v) : tyV X.K "list" v H := by
  obtain ⟨a, rfl, q⟩ := rw_ob r
  obtain ⟨xs, ea, _⟩ := lst_at R g q
  exact .inl ⟨rfl, xs, .of ea⟩
theorem lm_red {m : Bm} {E : Expr} (p : PE X E (tBM X.K "list" (VM G X.K (lmW m)) (EvE G X.K Z sa) (EvA G X.K Z sl))) : PE X E (EvE G X.K Z (cLm m sa sl)) :=
  p.imp fun σ H Q ⟨ρ, e, h, kx, k, n, run, fin, fx⟩ => by
    have run : sa e h kx (fun x h => lstHere x h (sl e h kx fun ws h => lmW m x ws h k)) = true := run
    refine EvE.then n run fx fun x h1 v H1 ρ1 t1 n1 r1 run1 fx1 => ?_
    obtain ⟨i, ws, rfl, g, run1⟩ := lstHere_inv run1
    refine ⟨tyV_lst n1.rh g r1, ?_⟩
    refine EvA.then n1 run1 fx1 fun ws h2 vs H2 ρ2 t2 n2 r2 run2 fx2 => ?_
    exact ⟨ρ2, h2, k, .ob i, ws, n2.rh, r1.mono t2, r2, run2, (fin.mono t1).mono t2⟩
theorem ev_append {apos : Pos} (ha : PE X a (EvE G X.K Z sa)) (hb : PA X [b] (EvA G X.K Z sl)) (hbase : attributeBase a "append" X.env (eval a X.env) = eval a X.env := by rfl)
    (hfew : ((backTo pos (starEach (b :: []) X.env)).all (fun x => !x.1) && (backToKw pos (keywordEach [] X.env)).all (fun x => x.1.isSome) && decide ((b :: []).length + ([] : List Keyword).length + (if ([] : List Keyword).isEmpty then 0 else 1) < 30)) = true := by rfl)
    (hline : (apos.endLine == pos.line) = true := by rfl) (hs : starEach (b :: []) X.env = (false, eval b X.env) :: starEach [] X.env := by rfl) : PE X (.Call (.Attribute a "append" apos) [b] [] pos) (EvE G X.K Z (cLm .append sa sl)) :=
  lm_red (pe_bm PySem.F.plainAttrs_list PySem.F.slot_list_append PySem.F.type_list_append mtl_append ha hb hbase hfew hline hs rfl)
theorem ev_extend {apos : Pos} (ha : PE X a (EvE G X.K Z sa)) (hb : PA X [b] (EvA G X.K Z sl)) (hbase : attributeBase a "extend" X.env (eval a X.env) = eval a X.env := by rfl)
    (hfew : ((backTo pos (starEach (b :: []) X.env)).all (fun x => !x.1) && (backToKw pos (keywordEach [] X.env)).all (fun x => x.1.isSome) && decide ((b :: []).length + ([] : List Keyword).length + (if ([] : List Keyword).isEmpty then 0 else 1) < 30)) = true := by rfl)
    (hline : (apos.endLine == pos.line) = true := by rfl) (hs : starEach (b :: []) X.env = (false, eval b X.env) :: starEach [] X.env := by rfl) : PE X (.Call (.Attribute a "extend" apos) [b] [] pos) (EvE G X.K Z (cLm .extend sa sl)) :=
  lm_red (pe_bm PySem.F.plainAttrs_list PySem.F.slot_list_extend PySem.F.type_list_extend mtl_extend ha hb hbase hfew hline hs rfl)
theorem ev_pop {apos : Pos} (ha : PE X a (EvE G X.K Z sa)) (hbase : attributeBase a "pop" X.env (eval a X.env) = eval a X.env := by rfl) (hline : (apos.endLine == pos.line) = true := by rfl) : PE X (.Call (.Attribute a "pop" apos) [] [] pos) (EvE G X.K Z (cLm .pop sa aNil)) :=
  (pe_bm0 PySem.F.plainAttrs_list PySem.F.slot_list_pop PySem.F.type_list_pop (mtl_pop0 (G := G)) ha hbase hline).imp fun σ H Q ⟨ρ, e, h, kx, k, n, run, fin, fx⟩ => by
    have run : sa e h kx (fun x h => lstHere x h (lmW .pop x [] h k)) = true := run
    refine EvE.then n run fx fun x h1 v H1 ρ1 t1 n1 r1 run1 fx1 => ?_
    obtain ⟨i, ws, rfl, g, run1⟩ := lstHere_inv run1
    exact ⟨tyV_lst n1.rh g r1, rfl, ρ1, h1, k, .ob i, [], n1.rh, r1, .nil, run1, fin.mono t1⟩
/-! ### a list backwards -/
theorem ev_rev {k0 : Nat} {p1 p2 p3 : Pos} (ha : PE X a (EvE G X.K Z sa)) : PE X (.Subscript a (.Slice none none (some (.UnaryOp .USub (.Constant (.int 1) k0 p1) p2)) p3) pos) (EvE G X.K Z (cRevL sa)) :=
  (pe_revL ha).imp fun σ H Q ⟨ρ, e, h, kx, k, n, run, fin, fx⟩ => by
    have run : sa e h kx (fun x h => lstW x h fun xs h => newK h (.lst xs.reverse) k) = true := run
    refine EvE.then n run fx fun x h1 v H1 ρ1 t1 n1 r1 run1 fx1 => ?_
    obtain ⟨i, ws, rfl, g, run1⟩ := lstW_inv run1
    obtain ⟨b, rfl, q⟩ := rw_ob r1
    obtain ⟨xs, ea, r⟩ := lst_at n1.rh g q
    exact ⟨b, xs, rfl, .of ea, fun p hn => new_lst n1.rh hn r.reverse run1 (fin.mono t1)⟩
end
end FE
end
section
set_option Elab.async false
set_option linter.all false
set_option maxRecDepth 100000
/-! FeSt: statements. -/
namespace FE
open PySem PySem.Spec PyProof.Rows L2
open PySem.SeqAt
section
variable (G : GM) (K : PySem.W.Frag)
/-- a state's wish -/
def FinE (ρ : Rho) (H : Hp) (k : KE) (P : L2.St → Hp → Prop) : Prop := ∀ e' h' σ' H' ρ', k e' h' = true → Ext K ρ H ρ' H' → Now G K ρ' e' h' σ' H' → P σ' H'
/-- what follows: the next, a return, break, continue, an exception -/
structure Ks4 where
  nx : KE
  rt : KW
  bk : KE
  ct : KE
  ex : KX
structure Wants (ρ : Rho) (H : Hp) (k : Ks4) (D : Ends) (Z : ZF K) : Prop where
  nx : FinE G K ρ H k.nx D.nx
  rt : Fin G K ρ H k.rt D.rt
  bk : FinE G K ρ H k.bk D.bk
  ct : FinE G K ρ H k.ct D.ct
  ex : FinX G ρ H k.ex Z
def EvS (Z : ZF K) (s : Stm) : TS := fun D σ H => ∃ ρ e h k, Now G K ρ e h σ H ∧ s e h k.nx k.rt k.bk k.ct k.ex = true ∧ Wants G K ρ H k D Z
/-- a target's -/
def EvG (Z : ZF K) (s : Stg) : TG := fun v σ H Q => ∃ ρ e h w kx k, Now G K ρ e h σ H ∧ RW G K ρ H w v ∧ s w e h kx k = true ∧ FinE G K ρ H k Q ∧ FinX G ρ H kx Z
end
section
variable {G : GM} {K : PySem.W.Frag} {ρ ρ' : Rho} {H H' : Hp} {k : KE} {P : L2.St → Hp → Prop} {Z : ZF K} {σ : L2.St} {e : FE.Env} {h : FE.H}
theorem FinE.mono (f : FinE G K ρ H k P) (t : Ext K ρ H ρ' H') : FinE G K ρ' H' k P := fun e1 h1 σ1 H1 ρ1 a b c => f e1 h1 σ1 H1 ρ1 a (t.trans b) c
theorem Wants.mono {k : Ks4} {D : Ends} (w : Wants G K ρ H k D Z) (t : Ext K ρ H ρ' H') : Wants G K ρ' H' k D Z := ⟨w.nx.mono t, w.rt.mono t, w.bk.mono t, w.ct.mono t, w.ex.mono t⟩
theorem eget_eset : ∀ (e : FE.Env) (i j : Nat) (w : Option FE.W), eget (eset e i w) j = if j = i ∧ i < e.length then w else eget e j
  | [], i, j, w => by
    have : ¬ (j = i ∧ i < ([] : FE.Env).length) := fun z => absurd z.2 (Nat.not_lt_zero i)
    rw [if_neg this]; rfl
  | x :: r, 0, 0, w => by rw [if_pos ⟨rfl, Nat.succ_pos _⟩]; rfl
  | x :: r, 0, j + 1, w => by rw [if_neg (fun z => nomatch z.1)]; rfl
  | x :: r, i + 1, 0, w => by rw [if_neg (fun z => nomatch z.1)]; rfl
  | x :: r, i + 1, j + 1, w => by
    have ih := eget_eset r i j w
    show eget (eset r i w) j = if j + 1 = i + 1 ∧ i + 1 < r.length + 1 then w else eget r j
    rw [ih]
    simp
theorem eset_len : ∀ (e : FE.Env) (i : Nat) (w : Option FE.W), (eset e i w).length = e.length
  | [], _, _ => rfl
  | _ :: _, 0, _ => rfl
  | _ :: r, i + 1, w => by show (eset r i w).length + 1 = r.length + 1; rw [eset_len r i w]
theorem RE.set {v : V} {w : FE.W} (i : Nat) (r : RE G K ρ H e σ) (t : RW G K ρ H w v) : RE G K ρ H (eset e i (some w)) (σ.set i (some v)) := by
  refine ⟨by rw [eset_len, List.length_set]; exact r.len, fun j u q => ?_⟩
  rw [eget_eset] at q
  by_cases z : j = i ∧ i < e.length
  · rw [if_pos z] at q
    cases q
    obtain ⟨rfl, l⟩ := z
    exact ⟨v, by rw [List.getElem?_set_self (by rw [← r.len]; exact l)], t⟩
  · rw [if_neg z] at q
    obtain ⟨v', q1, q2⟩ := r.val j u q
    by_cases y : j = i
    · subst y
      have : ¬ j < e.length := fun l => z ⟨rfl, l⟩
      rw [r.len] at this
      rw [List.getElem?_eq_none (Nat.le_of_not_lt this)] at q1
      cases q1
    · exact ⟨v', by rw [List.getElem?_set_ne (Ne.symm y)]; exact q1, q2⟩
theorem Now.set {v : V} {w : FE.W} (i : Nat) (n : Now G K ρ e h σ H) (t : RW G K ρ H w v) : Now G K ρ (eset e i (some w)) h (σ.set i (some v)) H := ⟨n.rh, n.re.set i t⟩
end
theorem _root_.L2.PS.imp {X : Cx} {e : Stmt} {t t' : TS} (x : PS X e t) (i : ∀ D σ H, t' D σ H → t D σ H) : PS X e t' := ⟨fun pins s σ H D I h => x.run pins s σ H D I (i D σ H h)⟩
theorem _root_.L2.PSs.imp {X : Cx} {e : List Stmt} {t t' : TS} (x : PSs X e t) (i : ∀ D σ H, t' D σ H → t D σ H) : PSs X e t' := ⟨fun pins s σ H D I h => x.run pins s σ H D I (i D σ H h)⟩
theorem _root_.L2.PG.imp {X : Cx} {e : Expr} {t t' : TG} (x : PG X e t) (i : ∀ v σ H Q, t' v σ H Q → t v σ H Q) : PG X e t' := ⟨fun pins s σ H v u Q I r h => x.run pins s σ H v u Q I r (i v σ H Q h)⟩
section
variable {X : Cx} {G : GM} {Z : ZF X.K} {a b c : Expr} {st : Stmt} {sts sts2 : List Stmt} {pos : Pos} {sa sb sc : Sem} {tc : Tst} {sl : Slt} {s1 s2 : Stm} {tg : Stg}
theorem ess_nil : PSs X [] (EvS G X.K Z bNil) := pss_nil.imp fun D σ H ⟨ρ, e, h, k, n, run, w⟩ => w.nx e h σ H ρ run .refl n
theorem ess_cons (h1 : PS X st (EvS G X.K Z s1)) (h2 : PSs X sts (EvS G X.K Z s2)) : PSs X (st :: sts) (EvS G X.K Z (bCons s1 s2)) :=
  (pss_cons h1 h2).imp fun D σ H ⟨ρ, e, h, k, n, run, w⟩ =>
    ⟨ρ, e, h, ⟨fun e h => s2 e h k.nx k.rt k.bk k.ct k.ex, k.rt, k.bk, k.ct, k.ex⟩, n, run, ⟨fun e' h' σ' H' ρ' r x y => ⟨ρ', e', h', k, y, r, w.mono x⟩, w.rt, w.bk, w.ct, w.ex⟩⟩
theorem es_pass : PS X (.Pass pos) (EvS G X.K Z sPass) := ps_pass.imp fun D σ H ⟨ρ, e, h, k, n, run, w⟩ => w.nx e h σ H ρ run .refl n
theorem es_break : PS X (.Break pos) (EvS G X.K Z sBrk) := ps_break.imp fun D σ H ⟨ρ, e, h, k, n, run, w⟩ => w.bk e h σ H ρ run .refl n
theorem es_cont : PS X (.Continue pos) (EvS G X.K Z sCnt) := ps_continue.imp fun D σ H ⟨ρ, e, h, k, n, run, w⟩ => w.ct e h σ H ρ run .refl n
theorem es_expr (he : PE X a (EvE G X.K Z sa)) (hs : swapsWith a none pos.line X.env = pure false := by rfl) : PS X (.Expr a pos) (EvS G X.K Z (sEx sa)) :=
  (ps_expr he hs).imp fun D σ H ⟨ρ, e, h, k, n, run, w⟩ => by
    have run : sa e h k.ex (fun _ h => k.nx e h) = true := run
    exact EvE.then n run w.ex fun x h1 v H1 ρ1 t1 n1 r1 run1 _ => w.nx e h1 σ H1 ρ1 run1 t1 n1
theorem es_ret (he : PE X a (EvE G X.K Z sa)) : PS X (.Return (some a) pos) (EvS G X.K Z (sRet sa)) :=
  (ps_ret he).imp fun D σ H ⟨ρ, e, h, k, n, run, w⟩ => by
    have run : sa e h k.ex k.rt = true := run
    exact EvE.then n run w.ex fun x h1 v H1 ρ1 t1 n1 r1 run1 _ => w.rt x h1 v H1 ρ1 run1 t1 n1.rh r1
theorem es_retN : PS X (.Return none pos) (EvS G X.K Z sRetN) := ps_retN.imp fun D σ H ⟨ρ, e, h, k, n, run, w⟩ => w.rt .non h .non H ρ run .refl n.rh .non
theorem es_if (hc : PT X c (EvT G X.K Z tc)) (ha : PSs X sts (EvS G X.K Z s1)) (hb : PSs X sts2 (EvS G X.K Z s2)) : PS X (.If c sts sts2 pos) (EvS G X.K Z (sIte tc s1 s2)) :=
  (ps_if hc ha hb).imp fun D σ H ⟨ρ, e, h, k, n, run, w⟩ => by
    have run : tc e h k.ex (fun t h => match t with | true => s1 e h k.nx k.rt k.bk k.ct k.ex | false => s2 e h k.nx k.rt k.bk k.ct k.ex) = true := run
    refine EvT.then n run w.ex fun b h1 H1 ρ1 t1 n1 run1 _ => ?_
    cases b with
    | true => exact ⟨ρ1, e, h1, k, n1, run1, w.mono t1⟩
    | false => exact ⟨ρ1, e, h1, k, n1, run1, w.mono t1⟩
/-! ### targets -/
theorem eg_name {i : Nat} {x : Str} (hN : X.N.Nodup) (hi : X.N[i]? = some x) (hx : Loc X.env.scope x) (hf : X.fn x = true ∨ X.env.scope.names.lookup x = some .local := by first | exact .inl rfl | exact .inr rfl | assumption) : PG X (.Name x pos) (EvG G X.K Z (gSlot i)) :=
  (pg_name hN hi hx hf).imp fun v σ H Q ⟨ρ, e, h, w, kx, k, n, r, run, fin, fx⟩ => fin _ _ _ _ ρ run .refl (n.set i r)
theorem es_asg {tge : Expr} (he : PE X a (EvE G X.K Z sa)) (hg : PG X tge (EvG G X.K Z tg)) (hs : swapsWithSole [tge] a pos.line X.env = pure false := by rfl) (hw : swappedStores [tge] a X.env = pure none := by rfl)
    (h1 : (assignEach [tge] X.env).map (·.2) = [assign tge X.env] := by rfl) : PS X (.Assign [tge] a pos) (EvS G X.K Z (sAsg tg sa)) :=
  (ps_asg he hg hs hw h1).imp fun D σ H ⟨ρ, e, h, k, n, run, w⟩ => by
    have run : sa e h k.ex (fun v h => tg v e h k.ex k.nx) = true := run
    exact EvE.then n run w.ex fun x h1 v H1 ρ1 t1 n1 r1 run1 fx1 => ⟨ρ1, e, h1, x, _, _, n1, r1, run1, w.nx.mono t1, fx1⟩
/-! ### while -/
theorem es_while (hp : PassesOwn (model X.prog X.w) X.A X.env X.xe) (hc : PT X c (EvT G X.K Z tc)) (hb : PSs X sts (EvS G X.K Z s1)) : PS X (.While c sts [] pos) (EvS G X.K Z (sWhl tc s1)) :=
  (ps_while hp hc hb).imp fun D σ H ⟨ρ, e, h, k, n, run, w⟩ => by
    have run : whlW tc s1 k.nx k.rt k.ex TURNS e h = true := run
    refine ⟨fun m σ H => ∃ ρ e h, Now G X.K ρ e h σ H ∧ whlW tc s1 k.nx k.rt k.ex m e h = true ∧ Wants G X.K ρ H k D Z, ⟨TURNS, ρ, e, h, n, run, w⟩, ?_⟩
    rintro m σ H ⟨ρ, e, h, n, run, w⟩
    cases m with
    | zero => cases run
    | succ m =>
      have run : tc e h k.ex (fun t h => match t with | true => s1 e h (whlW tc s1 k.nx k.rt k.ex m) k.rt k.nx (whlW tc s1 k.nx k.rt k.ex m) k.ex | false => k.nx e h) = true := run
      refine EvT.then n run w.ex fun b h1 H1 ρ1 t1 n1 run1 _ => ?_
      cases b with
      | false => exact w.nx e h1 σ H1 ρ1 run1 t1 n1
      | true =>
        refine ⟨fun σ' H' => ∃ ρ e h, Now G X.K ρ e h σ' H' ∧ whlW tc s1 k.nx k.rt k.ex m e h = true ∧ Wants G X.K ρ H' k D Z, fun σ' H' z => ⟨m, Nat.lt_succ_self m, z⟩, ?_⟩
        have w1 := w.mono t1
        have again : FinE G X.K ρ1 H1 (whlW tc s1 k.nx k.rt k.ex m) fun σ' H' => ∃ ρ e h, Now G X.K ρ e h σ' H' ∧ whlW tc s1 k.nx k.rt k.ex m e h = true ∧ Wants G X.K ρ H' k D Z :=
          fun e' h' σ' H' ρ' r x y => ⟨ρ', e', h', y, r, w1.mono x⟩
        exact ⟨ρ1, e, h1, ⟨whlW tc s1 k.nx k.rt k.ex m, k.rt, k.nx, whlW tc s1 k.nx k.rt k.ex m, k.ex⟩, n1, run1, ⟨again, w1.rt, w1.nx, again, w1.ex⟩⟩
end
end FE
end
section
set_option Elab.async false
set_option linter.all false
set_option maxRecDepth 100000
/-! FeIt: what is walked; for loops. -/
namespace FE
open PySem PySem.Spec PyProof.Rows L2
open PySem.SeqAt RZ
/-- enumerate over a tuple -/
def IteT (K : PySem.W.Frag) (a : Addr) : It :=
  ⟨fun i H => ∃ xs x, SqT K H a xs ∧ xs[i]? = some x, fun i H v H' => ∃ T x, v = .ref T ∧ H T = none ∧ H' = upd H T (.tup [.int (i : Nat), x]) ∧ ∀ xs, SqT K H a xs → xs[i]? = some x, fun i H => ∃ xs, SqT K H a xs ∧ xs.length ≤ i⟩
section
variable (G : GM) (K : PySem.W.Frag) (ρ : Rho) (H : Hp)
def RestR (a : Addr) (i : Nat) (xs : List FE.W) : Prop := ∃ vs, SqT K H a vs ∧ RWs G K ρ H xs (vs.drop i)
/-- .. of one of those that a zip takes from -/
def HalfR : Bool → Wk → Addr → Nat → Prop
  | true, .lst n j, a, i => ρ n = some a ∧ j = i
  | false, .rest xs, a, i => RestR G K ρ H a i xs
  | _, _, _, _ => False
/-- what is left of a walk at its turn i -/
def WkR : Wk → It → Nat → Prop
  | .rest xs, J, i => (∃ a, J = Itt K a ∧ RestR G K ρ H a i xs) ∨ ∃ cs, J = Its (toS cs) ∧ xs = (cs.drop i).map fun c => .str [c]
  | .lst n j, J, i => ∃ a, J = Itl K a ∧ ρ n = some a ∧ j = i
  | .rng lo k, J, i => ∃ lo0 n, J = Itr lo0 n ∧ lo = lo0 + (i : Int) ∧ k + i = n
  | .enum m (.lst n j), J, i => ∃ a, J = Ite K a ∧ ρ n = some a ∧ j = i ∧ m = i
  | .enum m (.rest xs), J, i => ∃ a, J = IteT K a ∧ RestR G K ρ H a i xs ∧ m = i
  | .items n j, J, i => ∃ a o ks, J = Iti a o ks ∧ ρ n = some a ∧ H a = some (.frz o (.dK ks)) ∧ j = i
  | .zip p q, J, i => ∃ f g a b, J = ItzB K f g a b ∧ HalfR G K ρ H f p a i ∧ HalfR G K ρ H g q b i
  | _, _, _ => False
end
section
variable {G : GM} {K : PySem.W.Frag} {ρ ρ' : Rho} {H H' : Hp} {h : FE.H} {J : It} {i : Nat} {q : Wk}
theorem RestR.mono {a : Addr} {xs : List FE.W} (r : RestR G K ρ H a i xs) (e : Ext0 K ρ H ρ' H') : RestR G K ρ' H' a i xs := let ⟨vs, q, t⟩ := r; ⟨vs, e.tup _ _ q, t.mono0 e⟩
theorem HalfR.mono {f : Bool} {a : Addr} (r : HalfR G K ρ H f q a i) (e : Ext0 K ρ H ρ' H') : HalfR G K ρ' H' f q a i := by
  cases f <;> cases q <;> first
    | exact RestR.mono r e
    | exact ⟨e.map _ _ r.1, r.2⟩
    | exact False.elim r
theorem WkR.mono0 (e : Ext0 K ρ H ρ' H') (w : WkR G K ρ H q J i) : WkR G K ρ' H' q J i := by
  cases q with
  | rest xs =>
    rcases w with ⟨a, z, r⟩ | w
    · exact .inl ⟨a, z, r.mono e⟩
    · exact .inr w
  | lst n j => obtain ⟨a, z, r, y⟩ := w; exact ⟨a, z, e.map _ _ r, y⟩
  | rng lo k => exact w
  | enum m q =>
    cases q with
    | lst n j => obtain ⟨a, z, r, y⟩ := w; exact ⟨a, z, e.map _ _ r, y⟩
    | rest xs => obtain ⟨a, z, r, y⟩ := w; exact ⟨a, z, r.mono e, y⟩
    | rng _ _ => exact w.elim
    | enum _ _ => exact w.elim
    | zip _ _ => exact w.elim
    | keys _ _ => exact w.elim
    | items _ _ => exact w.elim
    | values _ _ => exact w.elim
  | zip p q => obtain ⟨f, g, a, b, z, r1, r2⟩ := w; exact ⟨f, g, a, b, z, r1.mono e, r2.mono e⟩
  | keys _ _ => exact w.elim
  | items n j => obtain ⟨a, o, ks, z, r, f, y⟩ := w; exact ⟨a, o, ks, z, e.map _ _ r, e.frz _ _ _ f, y⟩
  | values _ _ => exact w.elim
theorem WkR.mono (e : Ext K ρ H ρ' H') (w : WkR G K ρ H q J i) : WkR G K ρ' H' q J i := w.mono0 e.toExt0
theorem rest_nil {a : Addr} (r : RestR G K ρ H a i []) : ∃ vs, SqT K H a vs ∧ vs.length ≤ i := by
  obtain ⟨vs, q, t⟩ := r
  refine ⟨vs, q, ?_⟩
  have e := t.length
  rw [List.length_drop] at e
  have e : 0 = vs.length - i := e
  omega
theorem rest_cons {a : Addr} {x : FE.W} {xs : List FE.W} (r : RestR G K ρ H a i (x :: xs)) : ∃ vs v, SqT K H a vs ∧ vs[i]? = some v ∧ RW G K ρ H x v ∧ RestR G K ρ H a (i + 1) xs := by
  obtain ⟨vs, q, t⟩ := r
  generalize e : vs.drop i = ds at t
  cases t with
  | @cons _ v _ vr t ts =>
    have e0 : vs[i]? = some v := by
      have z := congrArg (·[0]?) e
      simpa using z
    have e1 : vs.drop (i + 1) = vr := by
      rw [← List.drop_drop, e]; rfl
    exact ⟨vs, v, q, e0, t, vs, q, by rw [e1]; exact ts⟩
theorem lst_end {n j : Nat} {a : Addr} (R : RH G K ρ h H) (q : ρ n = some a) (e : wkNext h (.lst n j) = some none) : ∃ xs, SqL K H a xs ∧ xs.length ≤ j := by
  have e : (match h.get n with | some (.lst xs) => (match nthW xs j with | some x => some (some (x, Wk.lst n (Nat.succ j))) | none => some none) | _ => none) = some none := e
  split at e
  · next ws g =>
    obtain ⟨b, q', xs, ea, r⟩ := R.obj n _ g
    rw [q] at q'; cases q'
    split at e
    · cases e
    · next z =>
      refine ⟨xs, .of ea, ?_⟩
      rw [← r.length]
      exact nthW_none z
  · cases e
theorem lst_item {n j : Nat} {a : Addr} {x : FE.W} {q' : Wk} (R : RH G K ρ h H) (q : ρ n = some a) (e : wkNext h (.lst n j) = some (some (x, q'))) : q' = .lst n (j + 1) ∧ ∃ xs v, SqL K H a xs ∧ xs[j]? = some v ∧ RW G K ρ H x v := by
  have e : (match h.get n with | some (.lst xs) => (match nthW xs j with | some x => some (some (x, Wk.lst n (Nat.succ j))) | none => some none) | _ => none) = some (some (x, q')) := e
  split at e
  · next ws g =>
    obtain ⟨b, q1, xs, ea, r⟩ := R.obj n _ g
    rw [q] at q1; cases q1
    split at e
    · next y z =>
      cases e
      obtain ⟨v, e1, rv⟩ := r.nth z
      exact ⟨rfl, xs, v, .of ea, e1, rv⟩
    · cases e
  · cases e
end
section
variable {X : Cx} {pins : List (Addr × Obj)} {σ : L2.St} {s : Shared} {G : GM} {ρ ρ' : Rho} {H H' : Hp} {h : FE.H} {J : It} {i : Nat} {q : Wk}
theorem incZ_eq (i : Int) : incZ i = i + 1 := by
  cases i with
  | ofNat n => rfl
  | negSucc n => cases n <;> rfl
/-- two texts of what stands at one address -/
structure Uniq (K : PySem.W.Frag) (H : Hp) : Prop where
  lst : ∀ a xs ys, SqL K H a xs → SqL K H a ys → xs = ys
  tup : ∀ a xs ys, SqT K H a xs → SqT K H a ys → xs = ys
theorem half_end {K : PySem.W.Frag} {f : Bool} {a : Addr} (R : RH G K ρ h H) (r : HalfR G K ρ H f q a i) (e : wkNext h q = some none) : ∃ xs, SqF K H f a xs ∧ xs.length ≤ i := by
  cases f <;> cases q <;> first
    | exact False.elim r
    | skip
  · next xs =>
    cases xs with
    | nil => exact rest_nil r
    | cons x xs => cases e
  · next n j =>
    obtain ⟨q, rfl⟩ := r
    exact lst_end R q e
theorem half_item {K : PySem.W.Frag} {f : Bool} {a : Addr} {x : FE.W} {q' : Wk} (R : RH G K ρ h H) (r : HalfR G K ρ H f q a i) (e : wkNext h q = some (some (x, q'))) : ∃ xs v, SqF K H f a xs ∧ xs[i]? = some v ∧ RW G K ρ H x v ∧ HalfR G K ρ H f q' a (i + 1) := by
  cases f <;> cases q <;> first
    | exact False.elim r
    | skip
  · next xs =>
    cases xs with
    | nil => cases e
    | cons y xs =>
      cases e
      obtain ⟨vs, v, q, e0, t, r'⟩ := rest_cons r
      exact ⟨vs, v, q, e0, t, r'⟩
  · next n j =>
    obtain ⟨q, rfl⟩ := r
    obtain ⟨rfl, xs, v, hq, e0, t⟩ := lst_item R q e
    exact ⟨xs, v, hq, e0, t, q, rfl⟩
theorem half_any {K : PySem.W.Frag} {f : Bool} {a : Addr} (r : HalfR G K ρ H f q a i) (R : RH G K ρ h H) (e : wkNext h q ≠ none) : ∃ xs, SqF K H f a xs := by
  cases z : wkNext h q with
  | none => exact absurd z e
  | some o =>
    cases o with
    | none => obtain ⟨xs, qx, _⟩ := half_end R r z; exact ⟨xs, qx⟩
    | some pq => obtain ⟨x, q'⟩ := pq; obtain ⟨xs, _, qx, _⟩ := half_item R r z; exact ⟨xs, qx⟩
theorem dctAt_end {n j : Nat} (e : wkNext h (.items n j) = some none) : dctAt h n j = some none := by
  have e : (match dctAt h n j with | some (some (k, v)) => some (some (FE.W.tup [k, v], Wk.items n (Nat.succ j))) | some none => some none | none => none) = some none := e
  split at e
  · cases e
  · next z => exact z
  · cases e
theorem dctAt_item {n j : Nat} {x : FE.W} {q' : Wk} (e : wkNext h (.items n j) = some (some (x, q'))) : ∃ k v, x = .tup [k, v] ∧ q' = .items n (j + 1) ∧ dctAt h n j = some (some (k, v)) := by
  have e : (match dctAt h n j with | some (some (k, v)) => some (some (FE.W.tup [k, v], Wk.items n (Nat.succ j))) | some none => some none | none => none) = some (some (x, q')) := e
  split at e
  · next k v z => cases e; exact ⟨k, v, rfl, rfl, z⟩
  · cases e
  · cases e
theorem lck_at {K : PySem.W.Frag} {n j : Nat} {a : Addr} {r : Option (FE.W × FE.W)} (R : RH G K ρ h H) (q : ρ n = some a) (e : dctAt h n j = some r) : ∃ kvs ks, (∃ o, H a = some (.frz o (.dK ks))) ∧ Ks G K ρ H kvs ks ∧ nthW kvs j = r := by
  unfold dctAt at e
  split at e
  · next kvs g =>
    cases e
    obtain ⟨b, q', o, ks, f, t⟩ := R.obj n _ g
    rw [q] at q'; cases q'
    exact ⟨kvs, ks, ⟨o, f⟩, t, rfl⟩
  · cases e
theorem Ks.length {K : PySem.W.Frag} : ∀ {kvs : List (FE.W × FE.W)} {ks : List (Key × V)}, Ks G K ρ H kvs ks → kvs.length = ks.length
  | _, _, .nil => rfl
  | _, _, .cons _ _ r => by simp [Ks.length r]
theorem Ks.nth {K : PySem.W.Frag} : ∀ {kvs : List (FE.W × FE.W)} {ks : List (Key × V)} {i : Nat} {k v : FE.W}, Ks G K ρ H kvs ks → nthW kvs i = some (k, v) → ∃ k' v', ks[i]? = some (k', v') ∧ KeyR k k' ∧ RW G K ρ H v v'
  | _, _, 0, _, _, .cons a b _, e => by cases e; exact ⟨_, _, rfl, a, b⟩
  | _, _, i + 1, k, v, .cons _ _ r, e => by
    obtain ⟨k', v', e1, r1, r2⟩ := Ks.nth (i := i) r e
    exact ⟨k', v', by simpa using e1, r1, r2⟩
theorem wk_step {K : PySem.W.Frag} (R : RH G K ρ h H) (w : WkR G K ρ H q J i) : (wkNext h q = some none → J.stop i H) ∧ ∀ x q', wkNext h q = some (some (x, q')) →
    J.go i H ∧ ∀ v H', J.yld i H v H' → ∃ ρ', Ext K ρ H ρ' H' ∧ RH G K ρ' h H' ∧ RW G K ρ' H' x v ∧ WkR G K ρ' H' q' J (i + 1) := by
  cases q with
  | rest xs =>
    rcases w with ⟨a, rfl, r⟩ | ⟨cs, rfl, ex⟩
    · refine ⟨fun e => ?_, fun x q' e => ?_⟩
      · cases xs with
        | nil => exact rest_nil r
        | cons x xs => cases e
      · cases xs with
        | nil => cases e
        | cons y xs =>
          cases e
          obtain ⟨vs, v, q, e0, t, r'⟩ := rest_cons r
          refine ⟨⟨vs, v, q, e0⟩, fun u H' y => ?_⟩
          obtain ⟨rfl, yy⟩ := y
          have := yy vs q
          rw [e0] at this; cases this
          exact ⟨ρ, .refl, R, t, .inl ⟨a, rfl, r'⟩⟩
    · subst ex
      refine ⟨fun e => ?_, fun x q' e => ?_⟩
      · show (toS cs).cps.size ≤ i
        cases z : cs.drop i with
        | nil => have := congrArg List.length z; rw [List.length_drop] at this; have this : cs.length - i = 0 := this; show cs.toArray.size ≤ i; rw [List.size_toArray]; omega
        | cons c r => rw [z] at e; cases e
      · cases z : cs.drop i with
        | nil => rw [z] at e; cases e
        | cons c r =>
          rw [z] at e
          cases e
          have l : i < cs.length := by have := congrArg List.length z; rw [List.length_drop] at this; have this : cs.length - i = r.length + 1 := this; omega
          have e0 : cs[i]? = some c := by have y := congrArg (·[0]?) z; simpa using y
          refine ⟨?_, fun u H' y => ?_⟩
          · show i < cs.toArray.size; rw [List.size_toArray]; exact l
          · obtain ⟨rfl, c', e1, rfl⟩ := y
            have e1 : cs.toArray[i]? = some c' := e1
            rw [List.getElem?_toArray, e0] at e1
            cases e1
            have e2 : cs.drop (i + 1) = r := by rw [← List.drop_drop, z]; rfl
            exact ⟨ρ, .refl, R, .str [c], .inr ⟨cs, rfl, by rw [e2]⟩⟩
  | lst n j =>
    obtain ⟨a, rfl, q, rfl⟩ := w
    refine ⟨fun e => lst_end R q e, fun x q' e => ?_⟩
    obtain ⟨rfl, xs, v, hq, e0, t⟩ := lst_item R q e
    refine ⟨⟨xs, v, hq, e0⟩, fun u H' y => ?_⟩
    obtain ⟨rfl, yy⟩ := y
    have := yy xs hq
    rw [e0] at this; cases this
    exact ⟨ρ, .refl, R, t, a, rfl, q, rfl⟩
  | rng lo k =>
    obtain ⟨lo0, n, rfl, rfl, e1⟩ := w
    cases k with
    | zero => exact ⟨fun _ => (by omega : n ≤ i), fun x q' e => by cases e⟩
    | succ k =>
      refine ⟨fun e => by (cases e), fun x q' e => ?_⟩
      cases e
      refine ⟨(by omega : i < n), fun u H' y => ?_⟩
      obtain ⟨rfl, rfl⟩ := y
      exact ⟨ρ, .refl, R, .int _, lo0, n, rfl, by rw [incZ_eq]; push_cast; omega, by omega⟩
  | enum m q =>
    cases q with
    | lst n j =>
      obtain ⟨a, rfl, q, rfl, rfl⟩ := w
      refine ⟨fun e => ?_, fun x q' e => ?_⟩
      · unfold wkNext at e
        split at e
        · cases e
        · next z => exact lst_end R q z
        · cases e
      · unfold wkNext at e
        split at e
        · next y q1 z =>
          cases e
          obtain ⟨rfl, xs, v, hq, e0, t⟩ := lst_item R q z
          refine ⟨⟨xs, v, hq, e0⟩, fun u H' yy => ?_⟩
          obtain ⟨T, x', rfl, hn, rfl, yy⟩ := yy
          have := yy xs hq
          rw [e0] at this; cases this
          obtain ⟨ex, R'⟩ := R.tup (xs := [.int (m : Nat), v]) hn
          exact ⟨ρ, ex, R', .tup (.of upd_same) (.cons (.int _) (.cons (t.mono ex) .nil)) (fun z => nomatch z), a, rfl, q, rfl, rfl⟩
        · cases e
        · cases e
    | rest xs =>
      obtain ⟨a, rfl, r, rfl⟩ := w
      refine ⟨fun e => ?_, fun x q' e => ?_⟩
      · cases xs with
        | nil => exact rest_nil r
        | cons x xs => cases e
      · cases xs with
        | nil => cases e
        | cons y xs =>
          cases e
          obtain ⟨vs, v, q, e0, t, r'⟩ := rest_cons r
          refine ⟨⟨vs, v, q, e0⟩, fun u H' yy => ?_⟩
          obtain ⟨T, x', rfl, hn, rfl, yy⟩ := yy
          have := yy vs q
          rw [e0] at this; cases this
          obtain ⟨ex, R'⟩ := R.tup (xs := [.int (m : Nat), v]) hn
          exact ⟨ρ, ex, R', .tup (.of upd_same) (.cons (.int _) (.cons (t.mono ex) .nil)) (fun z => nomatch z), a, rfl, r'.mono ex.toExt0, rfl⟩
    | rng _ _ => exact w.elim
    | enum _ _ => exact w.elim
    | zip _ _ => exact w.elim
    | keys _ _ => exact w.elim
    | items _ _ => exact w.elim
    | values _ _ => exact w.elim
  | zip p q =>
    obtain ⟨f, g, a, b, rfl, hp, hq⟩ := w
    refine ⟨fun e => ?_, fun x q' e => ?_⟩
    · unfold wkNext at e
      split at e
      · next y q1 z =>
        obtain ⟨xs, v, qx, e0, t, hp'⟩ := half_item R hp z
        split at e
        · cases e
        · next z2 =>
          obtain ⟨ys, qy, l⟩ := half_end R hq z2
          exact ⟨xs, ys, qx, qy, .inr l⟩
        · cases e
      · next z =>
        obtain ⟨xs, qx, l⟩ := half_end R hp z
        split at e
        · next o z2 =>
          obtain ⟨ys, qy⟩ := half_any hq R (by rw [z2]; exact fun z => nomatch z)
          exact ⟨xs, ys, qx, qy, .inl l⟩
        · cases e
      · cases e
    · unfold wkNext at e
      split at e
      · next y q1 z =>
        obtain ⟨xs, v, qx, e0, t, hp'⟩ := half_item R hp z
        split at e
        · next y2 q2 z2 =>
          cases e
          obtain ⟨ys, v2, qy, e2, t2, hq'⟩ := half_item R hq z2
          refine ⟨⟨xs, ys, v, v2, qx, qy, e0, e2⟩, fun u H' yy => ?_⟩
          obtain ⟨T, x1, x2, rfl, hn, ⟨ob, od, rfl⟩, y1, y2⟩ := yy
          have w1 := y1 xs qx
          rw [e0] at w1; cases w1
          have w2 := y2 ys qy
          rw [e2] at w2; cases w2
          obtain ⟨ex, R'⟩ := R.any (o := .frz ob (.tup [v, v2])) hn
          exact ⟨ρ, ex, R', rw_new od (.cons (t.mono ex) (.cons (t2.mono ex) .nil)), f, g, a, b, rfl, hp'.mono ex.toExt0, hq'.mono ex.toExt0⟩
        · cases e
        · cases e
      · split at e <;> cases e
      · cases e
  | keys _ _ => exact w.elim
  | items n j =>
    obtain ⟨a, o, ks, rfl, q, f, rfl⟩ := w
    refine ⟨fun e => ?_, fun x q' e => ?_⟩
    · obtain ⟨kvs, ks', ⟨o', f'⟩, r, e1⟩ := lck_at R q (dctAt_end e)
      rw [f] at f'
      cases f'
      have l := r.length
      exact ⟨f, by rw [← l]; exact nthW_none e1⟩
    · obtain ⟨k, v, rfl, rfl, e0⟩ := dctAt_item e
      obtain ⟨kvs, ks', ⟨o', f'⟩, r, e1⟩ := lck_at R q e0
      rw [f] at f'
      cases f'
      obtain ⟨k', v', e2, rk, rv⟩ := r.nth e1
      have lt := (List.getElem?_eq_some_iff.mp e2).1
      refine ⟨⟨f, lt⟩, fun u H' yy => ?_⟩
      obtain ⟨T, k2, v2, e3, rfl, hn, rfl⟩ := yy
      rw [e2] at e3
      cases e3
      obtain ⟨ex, R'⟩ := R.tup (xs := [kV k', v']) hn
      have fa : upd H T (.tup [kV k', v']) a = some (.frz o (.dK ks)) := ex.frz _ _ _ f
      refine ⟨ρ, ex, R', .tup (.of upd_same) (.cons ?_ (.cons (rv.mono ex) .nil)) ?_, a, o, ks, rfl, q, fa, rfl⟩
      · cases rk with
        | int i => exact .int i
        | str cs => exact .str cs
      · cases rk with
        | int i => exact fun z => nomatch z
        | str cs => exact fun z => nomatch z
  | values _ _ => exact w.elim
/-! ### iterables -/
/-- an iterable's reading -/
def EvI (G : GM) (K : PySem.W.Frag) (Z : ZF K) (s : Sit) : TI := fun σ H R => ∃ ρ e h kx k, Now G K ρ e h σ H ∧ s e h kx k = true ∧
  (∀ q h' J H' ρ', k q h' = true → Ext K ρ H ρ' H' → RH G K ρ' h' H' → WkR G K ρ' H' q J 0 → R J H') ∧ FinX G ρ H kx Z
theorem _root_.L2.PI.imp {X : Cx} {tg e : Expr} {t t' : TI} (x : PI X tg e t) (i : ∀ σ H R, t' σ H R → t σ H R) : PI X tg e t' := ⟨fun pins s σ H R I h => x.run pins s σ H R I (i σ H R h)⟩
section
variable {Z : ZF X.K} {a b c tg : Expr} {pos p : Pos} {sa sb sc : Sem} {tc : Tst} {sl : Slt} {si : Sit} {sg : Stg} {s1 : Stm} {sts : List Stmt}
/-- a list, a tuple or a text -/
def iAny (K : PySem.W.Frag) (te : TE) : TI := fun σ H R => te σ H fun v H1 => (∃ a xs, v = .ref a ∧ SqL K H1 a xs ∧ R (Itl K a) H1) ∨ (∃ a xs, v = .ref a ∧ SqT K H1 a xs ∧ R (Itt K a) H1) ∨ ∃ x, v = .str x ∧ R (Its x) H1
theorem pi_any {te : TE} (he : PE X a te) : PI X tg a (iAny X.K te) := by
  refine ⟨fun pins s σ H R I h => ?_⟩
  refine thn (he.run pins s σ H _ I h) fun v s1 ⟨y, H1, I1, r1, q1⟩ => ?_
  have new : ∀ b ∈ [s1.heap.objs.size], FpOk X pins H1 b := fun b hb => by
    obtain rfl : b = s1.heap.objs.size := by simpa using hb
    exact I1.fpOk (Nat.le_refl _) (I1.hok.fresh (Nat.le_refl _))
  rcases q1 with ⟨l, xs, ex, hq, q⟩ | ⟨l, xs, ex, hq, q⟩ | ⟨x, ex, q⟩
  · subst ex
    cases r1
    obtain ⟨its, rv, pl, hz⟩ := I1.list hq
    exact wpAny_pyIter_list pl.isList ⟨s1.heap.objs.size, [s1.heap.objs.size], _, _, H1, rfl, I1.kept (t' := s1.toks) fun b o e => Heap.get?_push_of_some _ e, turn_list l _, ⟨_, Heap.get?_push_size _ rfl, rfl, rfl⟩, new, q⟩
  · subst ex
    cases r1
    obtain ⟨its, rv, pl, hz⟩ := I1.tuple hq
    exact wpAny_pyIter_tuple (show s1.heap.IsTuple l its.toArray from pl) ⟨s1.heap.objs.size, [s1.heap.objs.size], _, _, H1, rfl, I1.kept (t' := s1.toks) fun b o e => Heap.get?_push_of_some _ e, turn_tuple l _, ⟨_, Heap.get?_push_size _ rfl, rfl, rfl⟩, new, q⟩
  · subst ex
    obtain ⟨t, rfl⟩ := r1
    cases ha : x.cps.all (· < 128)
    · exact wpAny_pyIter_wide ha (pi_one (tk := s1.toks) I1 _ (turn_str _ x t "str_iterator" (.inr rfl)) ⟨_, Heap.get?_push_size _ rfl, rfl, rfl⟩ q)
    · exact wpAny_pyIter_ascii ha (pi_one (tk := s1.toks) I1 _ (turn_str _ x t "str_ascii_iterator" (.inl rfl)) ⟨_, Heap.get?_push_size _ rfl, rfl, rfl⟩ q)
theorem smallZ_ok {i : Int} (e : smallZ i = true) : -(2 ^ 62) ≤ i ∧ i < 2 ^ 62 := by
  unfold smallZ at e
  split at e
  · next l1 =>
    split at e
    · cases e
    · next l2 => have := ltZ_t l1; have := ltZ_f l2; omega
  · cases e
theorem rng2_inv {x y : FE.W} {h : FE.H} {k : Wk → FE.H → B} (run : rng2 x y h k = true) : ∃ i j, x = .int i ∧ y = .int j ∧ (smallZ i && smallZ j) = true ∧ k (.rng i (j - i).toNat) h = true := by
  cases x with
  | int i =>
    cases y with
    | int j =>
      obtain ⟨sm, run⟩ := bool2 (show (match (smallZ i && smallZ j) with | true => k (.rng i (j - i).toNat) h | false => stop 52) = true from run)
      exact ⟨i, j, rfl, rfl, sm, run⟩
    | non => cases run
    | bl c => cases run
    | str c => cases run
    | tup c => cases run
    | ob c => cases run
    | cls c => cases run
    | fn c => cases run
  | non => cases run
  | bl c => cases run
  | str c => cases run
  | tup c => cases run
  | ob c => cases run
  | cls c => cases run
  | fn c => cases run
theorem halfK_inv {x : FE.W} {v : V} {k : Wk → B} (R : RH G X.K ρ h H) (r : RW G X.K ρ H x v) (run : halfK x h k = true) : ∃ p f a xs, v = .ref a ∧ SqF X.K H f a xs ∧ HalfR G X.K ρ H f p a 0 ∧ k p = true := by
  cases x with
  | tup ws =>
    obtain ⟨l, us, rfl, q1, t1⟩ := rw_tup r
    exact ⟨.rest ws, false, l, us, rfl, q1, ⟨us, q1, t1⟩, run⟩
  | ob n =>
    have run : (match h.get n with | some (.lst _) => k (.lst n 0) | _ => stop 54) = true := run
    split at run
    · next ws g =>
      obtain ⟨l, rfl, q1⟩ := rw_ob r
      obtain ⟨us, ea, _⟩ := lst_at R g q1
      exact ⟨.lst n 0, true, l, us, rfl, .of ea, ⟨q1, rfl⟩, run⟩
    · cases run
  | non => cases run
  | bl c => cases run
  | int c => cases run
  | str c => cases run
  | cls c => cases run
  | fn c => cases run
theorem rng1_inv {w : FE.W} {h : FE.H} {k : Wk → FE.H → B} (run : rng1 w h k = true) : ∃ i, w = .int i ∧ smallZ i = true ∧ k (.rng 0 i.toNat) h = true := by
  cases w with
  | int i =>
    cases e : smallZ i with
    | false =>
      exact absurd run (by
        show ¬ ((match smallZ i with | true => _ | false => stop 51) = true)
        rw [e]; intro z; cases z)
    | true =>
      refine ⟨i, rfl, e, ?_⟩
      cases i with
      | ofNat m =>
        have run : (match smallZ (.ofNat m) with | true => k (.rng (.ofNat 0) m) h | false => stop 51) = true := run
        rw [e] at run
        exact run
      | negSucc m =>
        have run : (match smallZ (.negSucc m) with | true => k (.rng (.ofNat 0) 0) h | false => stop 51) = true := run
        rw [e] at run
        exact run
  | non => cases run
  | bl c => cases run
  | str c => cases run
  | tup c => cases run
  | ob c => cases run
  | cls c => cases run
  | fn c => cases run
theorem wkOf_lst {n : Nat} {w : Wk} (e : wkOf h (.ob n) = some w) : ∃ ws, (h.get n = some (.lst ws) ∧ w = .lst n 0) ∨ (∃ kvs, h.get n = some (.dct kvs) ∧ w = .keys n 0) := by
  have e : (match h.get n with | some (.lst _) => some (Wk.lst n 0) | some (.dct _) => some (Wk.keys n 0) | _ => none) = some w := e
  split at e
  · next ws g => cases e; exact ⟨ws, .inl ⟨g, rfl⟩⟩
  · next kvs g => cases e; exact ⟨[], .inr ⟨kvs, g, rfl⟩⟩
  · cases e
/-- .. of a list, a tuple or a text: iSeq does not take dicts -/
theorem ei_val (ha : PE X a (EvE G X.K Z sa)) : PI X tg a (EvI G X.K Z (iSeq sa)) :=
  (pi_any ha).imp fun σ H Q ⟨ρ, e, h, kx, k, n, run, fin, fx⟩ => by
    have run : sa e h kx (fun w h => wkSeq w h k) = true := run
    refine EvE.then n run fx fun x h1 v H1 ρ1 t1 n1 r1 run1 fx1 => ?_
    cases x with
    | tup ws =>
      obtain ⟨l, xs, rfl, q, r⟩ := rw_tup r1
      exact .inr (.inl ⟨l, xs, rfl, q, fin _ h1 _ H1 ρ1 run1 t1 n1.rh (.inl ⟨l, rfl, xs, q, r⟩)⟩)
    | str cs =>
      cases rw_str r1
      exact .inr (.inr ⟨toS cs, rfl, fin _ h1 _ H1 ρ1 run1 t1 n1.rh (.inr ⟨cs, rfl, rfl⟩)⟩)
    | ob i =>
      obtain ⟨l, rfl, q⟩ := rw_ob r1
      have run1 : (match h1.get i with | some (.lst _) => k (.lst i 0) h1 | _ => stop 50) = true := run1
      split at run1
      · next ws g =>
        obtain ⟨xs, ea, r⟩ := lst_at n1.rh g q
        exact .inl ⟨l, xs, rfl, .of ea, fin _ h1 _ H1 ρ1 run1 t1 n1.rh ⟨l, rfl, q, rfl⟩⟩
      · cases run1
    | non => cases run1
    | bl c => cases run1
    | int c => cases run1
    | cls c => cases run1
    | fn c => cases run1
theorem ei_rng1 (hg : Gl X "range") (hm : X.mg "range" = none) (ha : PA X [a] (EvA G X.K Z (aOne sa aNil))) (hs : starEach [a] X.env = [(false, eval a X.env)] := by rfl) : PI X tg (.Call (.Name "range" p) [a] [] pos) (EvI G X.K Z (FE.iRng1 sa)) :=
  (pi_range1 hg hm ha hs).imp fun σ H Q ⟨ρ, e, h, kx, k, n, run, fin, fx⟩ => by
    have run : sa e h kx (fun w h => rng1 w h k) = true := run
    refine EvA.then (k := fun ws h => match ws with | [w] => rng1 w h k | _ => false) n run fx fun ws h1 vs H1 ρ1 t1 n1 r1 run1 _ => ?_
    match ws, run1 with
    | [w], run1 =>
      cases r1 with
      | cons r1 r2 =>
        cases r2
        obtain ⟨i, rfl, sm, run1⟩ := rng1_inv run1
        cases rw_int r1
        obtain ⟨l1, l2⟩ := smallZ_ok sm
        exact ⟨i, rfl, l1, l2, fin _ h1 _ H1 ρ1 run1 t1 n1.rh ⟨0, _, rfl, rfl, rfl⟩⟩
    | [], run1 => cases run1
    | _ :: _ :: _, run1 => cases run1
theorem ei_rng2 (hg : Gl X "range") (hm : X.mg "range" = none) (ha : PA X [a, b] (EvA G X.K Z (aOne sa (aOne sb aNil)))) (hs : starEach [a, b] X.env = [(false, eval a X.env), (false, eval b X.env)] := by rfl) (hs2 : starEach [b] X.env = [(false, eval b X.env)] := by rfl) : PI X tg (.Call (.Name "range" p) [a, b] [] pos) (EvI G X.K Z (FE.iRng2 sa sb)) :=
  (pi_range2 hg hm ha hs hs2).imp fun σ H Q ⟨ρ, e, h, kx, k, n, run, fin, fx⟩ => by
    have run : sa e h kx (fun x h => sb e h kx fun y h => rng2 x y h k) = true := run
    refine EvA.then (k := fun ws h => match ws with | [x, y] => rng2 x y h k | _ => false) n run fx fun ws h1 vs H1 ρ1 t1 n1 r1 run1 _ => ?_
    match ws, run1 with
    | [x, y], run1 =>
      cases r1 with
      | cons r1 r2 =>
        cases r2 with
        | cons r2 r3 =>
          cases r3
          obtain ⟨i, j, rfl, rfl, sm, run1⟩ := rng2_inv run1
          cases rw_int r1
          cases rw_int r2
          obtain ⟨s1, s2⟩ := Bool.and_eq_true_iff.mp sm
          obtain ⟨l1, l2⟩ := smallZ_ok s1
          obtain ⟨l3, l4⟩ := smallZ_ok s2
          exact ⟨i, j, rfl, ⟨l1, l2, l3, l4⟩, fin _ h1 _ H1 ρ1 run1 t1 n1.rh ⟨i, _, rfl, by simp, rfl⟩⟩
    | [], run1 => cases run1
    | [_], run1 => cases run1
    | _ :: _ :: _ :: _, run1 => cases run1
theorem ei_zip {elts : List Expr} {kk : Nat} {tpos : Pos} (hg : Gl X "zip") (hm : X.mg "zip" = none) (ha : PA X [a, b] (EvA G X.K Z (aOne sa (aOne sb aNil)))) (hs : starEach [a, b] X.env = (false, eval a X.env) :: starEach [b] X.env := by rfl) (hpl : (backTo pos (starEach [b] X.env)).any (·.1) = false := by rfl) :
    PI X (.Tuple elts kk tpos) (.Call (.Name "zip" p) [a, b] [] pos) (EvI G X.K Z (FE.iZip sa sb)) :=
  (pi_zb hg hm ha hs hpl).imp fun σ H Q ⟨ρ, e, h, kx, k, n, run, fin, fx⟩ => by
    have run : sa e h kx (fun x h => sb e h kx fun y h => zipK x y h k) = true := run
    refine EvA.then (k := fun ws h => match ws with | [x, y] => zipK x y h k | _ => false) n run fx fun ws h1 vs H1 ρ1 t1 n1 r1 run1 _ => ?_
    match ws, run1 with
    | [x, y], run1 =>
      cases r1 with
      | cons r1 r2 =>
        cases r2 with
        | cons r2 r3 =>
          cases r3
          obtain ⟨p1, f, l, xs, rfl, q1, hr1, run1⟩ := halfK_inv n1.rh r1 run1
          obtain ⟨p2, g, m, ys, rfl, q2, hr2, run1⟩ := halfK_inv n1.rh r2 run1
          exact ⟨f, g, l, m, xs, ys, rfl, q1, q2, fin _ h1 _ H1 ρ1 run1 t1 n1.rh ⟨f, g, l, m, rfl, hr1, hr2⟩⟩
    | [], run1 => cases run1
    | [_], run1 => cases run1
    | _ :: _ :: _ :: _, run1 => cases run1
/-! ### for -/
theorem es_for (hp : PassesOwn (model X.prog X.w) X.A X.env X.xe) (hc : X.calm = true) (hi : PI X tg a (EvI G X.K Z si)) (hg : PG X tg (EvG G X.K Z sg)) (hb : PSs X sts (EvS G X.K Z s1)) (hs : ∀ x, foldedSetIterable a X.env x = pure x := by intro _; rfl) :
    PS X (.For tg a sts [] pos) (EvS G X.K Z (sFor sg si s1)) :=
  (ps_for hp hc hi hg hb hs).imp fun D σ H ⟨ρ, e, h, k, n, run, w⟩ => by
    have run : si e h k.ex (fun q h => forW sg s1 k.nx k.rt k.ex TURNS q e h) = true := run
    refine ⟨ρ, e, h, _, _, n, run, fun q h1 J H1 ρ1 run1 t1 R1 wr => ?_, w.ex⟩
    refine ⟨fun i m σ H => ∃ ρ e h q, Now G X.K ρ e h σ H ∧ forW sg s1 k.nx k.rt k.ex m q e h = true ∧ WkR G X.K ρ H q J i ∧ Wants G X.K ρ H k D Z, ⟨TURNS, ρ1, e, h1, q, n.on t1 R1, run1, wr, w.mono t1⟩, ?_⟩
    rintro i m σ H ⟨ρ, e, h, q, n, run, wr, w⟩
    cases m with
    | zero => cases run
    | succ m =>
      have run : wkGo (wkNext h q) (fun _ => k.nx e h) (fun x q => sg x e h k.ex fun e h => s1 e h (forW sg s1 k.nx k.rt k.ex m q) k.rt k.nx (forW sg s1 k.nx k.rt k.ex m q) k.ex) 303 = true := run
      obtain ⟨st1, st2⟩ := wk_step n.rh wr
      cases eq : wkNext h q with
      | none => rw [eq] at run; cases run
      | some o =>
        rw [eq] at run
        cases o with
        | none => exact .inl ⟨st1 eq, w.nx e h σ H ρ run .refl n⟩
        | some xq =>
          obtain ⟨x, q'⟩ := xq
          obtain ⟨go, yld⟩ := st2 x q' eq
          have run : sg x e h k.ex (fun e h => s1 e h (forW sg s1 k.nx k.rt k.ex m q') k.rt k.nx (forW sg s1 k.nx k.rt k.ex m q') k.ex) = true := run
          refine .inr ⟨go, fun σ' H' => ∃ ρ e h q, Now G X.K ρ e h σ' H' ∧ forW sg s1 k.nx k.rt k.ex m q e h = true ∧ WkR G X.K ρ H' q J (i + 1) ∧ Wants G X.K ρ H' k D Z, fun σ' H' z => ⟨m, Nat.lt_succ_self m, z⟩, fun v H' y => ?_⟩
          obtain ⟨ρ', ex, R', rv, wr'⟩ := yld v H' y
          have n' := n.on ex R'
          have w' := w.mono ex
          refine ⟨ρ', e, h, x, _, _, n', rv, run, fun e2 h2 σ2 H2 ρ2 r2 x2 n2 => ?_, w'.ex⟩
          have w2 := w'.mono x2
          have again : FinE G X.K ρ2 H2 (forW sg s1 k.nx k.rt k.ex m q') fun σ' H' => ∃ ρ e h q, Now G X.K ρ e h σ' H' ∧ forW sg s1 k.nx k.rt k.ex m q e h = true ∧ WkR G X.K ρ H' q J (i + 1) ∧ Wants G X.K ρ H' k D Z :=
            fun e3 h3 σ3 H3 ρ3 r3 x3 n3 => ⟨ρ3, e3, h3, q', n3, r3, wr'.mono (x2.trans x3), w2.mono x3⟩
          exact ⟨ρ2, e2, h2, ⟨forW sg s1 k.nx k.rt k.ex m q', k.rt, k.nx, forW sg s1 k.nx k.rt k.ex m q', k.ex⟩, n2, r2, ⟨again, w2.rt, w2.nx, again, w2.ex⟩⟩
end
end
end FE
end
section
set_option Elab.async false
set_option linter.all false
set_option maxRecDepth 100000
/-! FeEnum: enumerate over a tuple. -/
namespace FE
open PySem PySem.Spec PyProof.Rows L2
open PySem.SeqAt RZ
open PySem.AutoSeq1 (wpAny_loadPart')
set_option maxHeartbeats 1000000 in
theorem enum_newT (l : Addr) (xs : Array Value) (k : Nat) (dc : Option Addr) (sl : Array (Option Value)) :
    Meets (Builtin.«enumerate.__new__» ⟨[.type "enumerate", .ref l], []⟩) (fun _ R st => st.heap.get? l = some { cls := .type "tuple", dict := dc, data := .seq xs k, slots := sl } ∧
      R (.ok (.ret (.ref (st.heap.push { cls := .type "tuple_iterator", data := .fields #[.ref l, .int 0 0] }).objs.size)))
        { st with heap := (st.heap.push { cls := .type "tuple_iterator", data := .fields #[.ref l, .int 0 0] }).push { cls := .type "enumerate", data := .fields #[.none, .bool false, .ref st.heap.objs.size, rawInt 0, .none, .none] } }) :=
  .of_wp fun prog w A R st hyp => by
    obtain ⟨hp, gs, dr, tk, os⟩ := st
    obtain ⟨hl, q⟩ := hyp
    have sub := sub_enumerate
    have tt : Heap.IsTuple (Shared.heap ⟨hp, gs, dr, tk, os⟩) l xs := ⟨_, hl, rfl, k, rfl⟩
    wp_walk using wpAny_loadPart' hl
    refine wpAny_stack_any fun _ => wpAny_pure ?_
    split
    · rename_i c _ _ _ _ _
      cases (c == Value.type "enumerate") <;>
      · wp_walk using wpAny_loadPart' hl, wpAny_pyIter_tuple tt
        exact ⟨_, rfl, q⟩
    · wp_walk using wpAny_loadPart' hl, wpAny_pyIter_tuple tt
      exact ⟨_, rfl, q⟩
section
variable {prog : Program} {w : World} {A : Around} {E : Value → Shared → Prop} {s : Shared}
theorem call_enumT {l : Addr} {xs : Array Value} {Q : Value → Shared → Prop} (hL : s.heap.IsTuple l xs)
    (q : ∀ h', IsEnum h' (s.heap.objs.size + 1) s.heap.objs.size 0 .none → h'.IsTupleIter s.heap.objs.size l 0 → (∀ b o, s.heap.get? b = some o → h'.get? b = some o) → Q (.ref (s.heap.objs.size + 1)) { s with heap := h' }) :
    wpAny (model prog w) A (call (.type "enumerate") [.ref l]) Q E s := by
  obtain ⟨⟨c, dc, dt, sl⟩, hl, hc, k, hd⟩ := hL
  have hc : c = .type "tuple" := hc
  have hd : dt = .seq xs k := hd
  subst hc hd
  refine callType_new F.called_enumerate (by decide) (F.typeCall_enumerate_1 _) (F.newCall_enumerate_1 _) (fun ob => F.args_object_init_2 ob _) F.entry_enumerate_new (enum_newT l xs k dc sl) ⟨hl, ?_⟩
  have z : (s.heap.push { cls := .type "tuple_iterator", data := .fields #[.ref l, .int 0 0] }).objs.size = s.heap.objs.size + 1 := Heap.size_push ..
  show _ ∧ _
  rw [z]
  have en : IsEnum ((s.heap.push { cls := .type "tuple_iterator", data := .fields #[.ref l, .int 0 0] }).push { cls := .type "enumerate", data := .fields #[.none, .bool false, .ref s.heap.objs.size, rawInt 0, .none, .none] }) (s.heap.objs.size + 1) s.heap.objs.size 0 .none := by
    have y := Heap.get?_push_size (s.heap.push { cls := .type "tuple_iterator", data := .fields #[.ref l, .int 0 0] }) (o := { cls := .type "enumerate", data := .fields #[.none, .bool false, .ref s.heap.objs.size, rawInt 0, .none, .none] }) rfl
    rw [z] at y
    exact y
  exact ⟨⟨_, en, rfl⟩, q _ en ⟨_, Heap.get?_push_of_some _ (Heap.get?_push_size _ rfl), rfl, rfl⟩ fun b o x => Heap.get?_push_of_some _ (Heap.get?_push_of_some _ x)⟩
theorem draws_tup (hh : A.handled = none) {t it : Addr} {xs : Array Value} (ne : t ≠ it) : Draws prog w A it [it, t] xs.size (fun i v => xs[i]? = some v) (fun i h => h.IsTupleIter it t i ∧ h.IsTuple t xs) where
  live := fun i h ⟨⟨o, e, _⟩, _⟩ => ⟨o, e⟩
  frame := fun i h h' ⟨⟨o, e, r⟩, o2, e2, r2⟩ k => ⟨⟨o, k it (by simp) o e, r⟩, o2, k t (by simp) o2 e2, r2⟩
  item := fun i s Q E hi ⟨a, b⟩ q => by
    have e : xs[i]? = some xs[i] := by simp [hi]
    refine wpAny_nextOf_tuple_item a b e fun h' a' sb => ?_
    obtain ⟨o, e2, r⟩ := b
    exact q _ h' s.toks e ⟨a', o, (sb.2 t ne).trans e2, r⟩ sb
  done := fun s Q E ⟨a, b⟩ q => wpAny_nextOf_tuple_end hh a b (by simp) q
end
theorem turn_enumT {P : Program} {w : World} {K : PySem.W.Frag} {elts : List Expr} {kk : Nat} {tpos : Pos} (a e it : Addr) : Turn P w K (.Tuple elts kk tpos) (IteT K a) [e, it] e (fun i h => (∃ old, IsEnum h e it ((i : Nat) : Int) old) ∧ h.IsTupleIter it a i ∧ e ≠ it ∧ a ≠ it ∧ e ≠ a) where
  mem := by simp
  obj := fun i h st b hb => by
    obtain ⟨⟨old, he⟩, ⟨o, ho, hc, hd⟩, _⟩ := st
    rcases (by simpa using hb : b = e ∨ b = it) with rfl | rfl
    · exact ⟨_, he, fun v q => nomatch q⟩
    · exact ⟨o, ho, fun v q => by rw [hd] at q; cases q⟩
  keep := fun i h h' st k => let ⟨⟨old, he⟩, ⟨o, ho, r⟩, ne⟩ := st; ⟨⟨old, k e (by simp) _ he⟩, ⟨o, k it (by simp) o ho, r⟩, ne⟩
  item := by
    intro X hP hw hK hc i pins s σ H E I hf st hg
    subst hP hw hK
    obtain ⟨⟨old, he⟩, hit, ne1, ne2, ne3⟩ := st
    obtain ⟨xs, x, hq, hx⟩ := hg
    obtain ⟨its, rv, p, hz⟩ := I.tuple hq
    obtain ⟨u, hu, ru⟩ := rv.get hx
    have el : e < s.heap.objs.size := Heap.lt_size he
    have il : it < s.heap.objs.size := by obtain ⟨_, q, _⟩ := hit; exact Heap.lt_size q
    have lt : i < its.toArray.size := by
      rw [List.size_toArray]
      exact (List.getElem?_eq_some_iff.mp hu).1
    have D := draws_tup (prog := X.prog) (w := X.w) (A := X.A.in1) (by show X.A.in1.handled = none; exact I.ok.hd hc) (xs := its.toArray) ne2
    refine wpAny_pyNext_enum_itemD D he ⟨hit, p⟩ lt ne1 (by simp [ne1, ne3]) fun y h' tk py ho st' hT hsz hk => ?_
    have ey : y = u := by
      have z : its[i]? = some y := by simpa using py
      rw [hu] at z
      exact (Option.some.inj z).symm
    subst ey
    refine ⟨_, rfl, wpAny_letOwnedTupleGo_enum (s := { s with heap := h', toks := tk + 1 }) ho fun h'' he' sb => ?_⟩
    have hT2 : h''.get? s.heap.objs.size = some { cls := .type "tuple", data := .seq #[.int i tk, y] } := (sb.2 _ (Nat.ne_of_gt el)).trans hT
    have new : ObjOk X.prog X.w (upd H s.heap.objs.size (.tup [.int (i : Nat), x])) h'' s.heap.objs.size (.tup [.int (i : Nat), x]) :=
      ⟨by show 2 ≤ sizeLine; decide, [.int i tk, y], .cons ⟨_, rfl⟩ (.cons ru .nil), ⟨_, hT2, rfl, _, rfl⟩⟩
    have I1 : Inv X pins σ (upd H s.heap.objs.size (.tup [.int (i : Nat), x])) { s with heap := h'', toks := tk + 1 } :=
      I.turnedNew (ch := [e, it]) (fun b ob hb q => (sb.2 b fun z => hb (by simp [z])).trans (hk b ob (fun z => hb (by simp [z])) (fun z => hb (by simp [z])) q)) hf (Nat.le_refl _) new
    obtain ⟨⟨o2, ho2, r2⟩, _⟩ := st'
    refine ⟨.ref s.heap.objs.size, _, I1, rfl, ⟨_, x, rfl, I.hok.fresh (Nat.le_refl _), rfl, fun ys hy => by rw [I.tuple_inj hy hq]; exact hx⟩, ⟨⟨y, ?_⟩, ⟨o2, (sb.2 it (Ne.symm ne1)).trans ho2, r2⟩, ne1, ne2, ne3⟩, fun b hb => ?_⟩
    · have e1 : ((i + 1 : Nat) : Int) = (i : Int) + 1 := by omega
      rw [e1]; exact he'
    · have lb : b < s.heap.objs.size := by
        rcases (by simpa using hb : b = e ∨ b = it) with rfl | rfl
        · exact el
        · exact il
      rw [upd_ne (Nat.ne_of_lt lb)]
      exact (hf b hb).1
  done := by
    intro X hP hw hK hc i pins s σ H E I hf st hg
    subst hP hw hK
    obtain ⟨⟨old, he⟩, hit, ne1, ne2, ne3⟩ := st
    obtain ⟨xs, hq, hx⟩ := hg
    obtain ⟨its, rv, p, hz⟩ := I.tuple hq
    obtain ⟨f0, f1, f2, f3, f4, f5⟩ := hf it (by simp)
    have hl := rv.length
    have hT : s.TypeIs (.ref e) "enumerate" := ⟨_, he, rfl⟩
    unfold pyNext
    refine wpAny_bind (wpAny_attempt (wpAny_callSpecial?_slot (name := Str.ofString "__next__") hT F.slot_enumerate_next (wpAny_call_entry F.slot_enumerate_next hT F.entry_enumerate_next ?_ (F.args_enumerate_next_1 _))))
    show wpAny _ _ (field (.ref e) 2 >>= _) _ _ _
    refine wpAny_bind (wpAny_field he rfl (x := .ref it) rfl ?_)
    refine wpAny_bind (wpAny_nextOf_tuple_end (I.ok.hd hc) hit p (by simp; omega) fun h' ex eb hx' => ?_)
    obtain ⟨o, ho, hcl⟩ := hx'
    refine wpAny_bind (wpAny_isInstance (T := "StopIteration") (b := true) ⟨o, ho, hcl⟩ isSubtype_stop ?_)
    exact wpAny_pure ⟨rfl, I.turned (t' := s.toks) (fun b o hb q => eb b o hb q) f0 f1 f3 f4 f5⟩
  self := fun A i s Q E st h => let ⟨⟨_, he⟩, _⟩ := st; wpAny_pyIter_enum he h
def iEnumA (K : PySem.W.Frag) (ta : TA) : TI := fun σ H R => ta σ H fun vs H1 => ∃ a xs, vs = [.ref a] ∧ ((SqL K H1 a xs ∧ R (Ite K a) H1) ∨ (SqT K H1 a xs ∧ R (IteT K a) H1))
theorem pi_enumA {X : Cx} {e : Expr} {ta : TA} {p pos tpos : Pos} {elts : List Expr} {kk : Nat} (hg : Gl X "enumerate") (hm : X.mg "enumerate" = none) (ha : PA X [e] ta) (hs : starEach [e] X.env = [(false, eval e X.env)]) :
    PI X (.Tuple elts kk tpos) (.Call (.Name "enumerate" p) [e] [] pos) (iEnumA X.K ta) := by
  refine ⟨fun pins s σ H R I h => ?_⟩
  refine Call_ (ld_blt I hg hm boot_enumerate (PyProof.Rows.callWith_type1 (thn (ha.run pos pins s σ H _ I h) fun us s1 ⟨vs, H1, I1, r1, q1⟩ => ?_) hs rfl))
  obtain ⟨a, xs, ex, q⟩ := q1
  subst ex
  cases r1 with
  | cons r rr =>
    cases rr
    cases r
    have fp : ∀ b ∈ [s1.heap.objs.size + 1, s1.heap.objs.size], FpOk X pins H1 b := fun b hb => by
      have le : s1.heap.objs.size ≤ b := by
        rcases (by simpa using hb : b = s1.heap.objs.size + 1 ∨ b = s1.heap.objs.size) with rfl | rfl
        · exact Nat.le_add_right _ _
        · exact Nat.le_refl _
      exact I1.fpOk le (I1.hok.fresh le)
    rcases q with ⟨hq, q⟩ | ⟨hq, q⟩
    · obtain ⟨its, rv, pl, hz⟩ := I1.list hq
      refine call_enumerate_list pl.isList fun h' he hit hsz hk => wpAny_pyIter_enum he ?_
      exact ⟨s1.heap.objs.size + 1, [s1.heap.objs.size + 1, s1.heap.objs.size], _, _, H1, rfl, I1.kept (t' := s1.toks) hk, turn_enum a (s1.heap.objs.size + 1) s1.heap.objs.size, ⟨⟨.none, he⟩, hit, Nat.succ_ne_self _⟩, fp, q⟩
    · obtain ⟨its, rv, pl, hz⟩ := I1.tuple hq
      have al : a < s1.heap.objs.size := by obtain ⟨_, z, _⟩ := id pl; exact Heap.lt_size z
      refine call_enumT (show s1.heap.IsTuple a its.toArray from pl) fun h' he hit hk => wpAny_pyIter_enum he ?_
      exact ⟨s1.heap.objs.size + 1, [s1.heap.objs.size + 1, s1.heap.objs.size], _, _, H1, rfl, I1.kept (t' := s1.toks) hk, turn_enumT a (s1.heap.objs.size + 1) s1.heap.objs.size, ⟨⟨.none, he⟩, hit, Nat.succ_ne_self _, Nat.ne_of_lt al, Nat.ne_of_gt (Nat.lt_succ_of_lt al)⟩, fp, q⟩
theorem enumK_inv {x : FE.W} {h : FE.H} {k : Wk → FE.H → B} (run : enumK x h k = true) : (∃ xs, x = .tup xs ∧ k (.enum 0 (.rest xs)) h = true) ∨ ∃ i ws, x = .ob i ∧ h.get i = some (.lst ws) ∧ k (.enum 0 (.lst i 0)) h = true := by
  cases x with
  | tup xs => exact .inl ⟨xs, rfl, run⟩
  | ob i =>
    have run : (match h.get i with | some (.lst _) => k (.enum 0 (.lst i 0)) h | _ => stop 53) = true := run
    split at run
    · next ws g => exact .inr ⟨i, ws, rfl, g, run⟩
    · cases run
  | non => cases run
  | bl c => cases run
  | int c => cases run
  | str c => cases run
  | cls c => cases run
  | fn c => cases run
theorem ei_enum {X : Cx} {G : GM} {Z : ZF X.K} {e : Expr} {sa : Sem} {p pos tpos : Pos} {elts : List Expr} {kk : Nat} (hg : Gl X "enumerate") (hm : X.mg "enumerate" = none) (ha : PA X [e] (EvA G X.K Z (aOne sa aNil))) (hs : starEach [e] X.env = [(false, eval e X.env)] := by rfl) :
    PI X (.Tuple elts kk tpos) (.Call (.Name "enumerate" p) [e] [] pos) (EvI G X.K Z (FE.iEnum sa)) :=
  (pi_enumA hg hm ha hs).imp fun σ H Q ⟨ρ, e, h, kx, k, n, run, fin, fx⟩ => by
    have run : sa e h kx (fun w h => enumK w h k) = true := run
    refine EvA.then (k := fun ws h => match ws with | [x] => enumK x h k | _ => false) n run fx fun ws h1 vs H1 ρ1 t1 n1 r1 run1 _ => ?_
    match ws, run1 with
    | [x], run1 =>
      cases r1 with
      | cons r1 r2 =>
        cases r2
        rcases enumK_inv run1 with ⟨xs, rfl, run1⟩ | ⟨i, us, rfl, g, run1⟩
        · obtain ⟨l, us, rfl, q, t⟩ := rw_tup r1
          exact ⟨l, us, rfl, .inr ⟨q, fin _ h1 _ H1 ρ1 run1 t1 n1.rh ⟨l, rfl, ⟨us, q, t⟩, rfl⟩⟩⟩
        · obtain ⟨l, rfl, q⟩ := rw_ob r1
          obtain ⟨xs, ea, _⟩ := lst_at n1.rh g q
          exact ⟨l, xs, rfl, .inl ⟨.of ea, fin _ h1 _ H1 ρ1 run1 t1 n1.rh ⟨l, rfl, q, rfl, rfl⟩⟩⟩
    | [], run1 => cases run1
    | _ :: _ :: _, run1 => cases run1
end FE
end
section
set_option Elab.async false
set_option linter.all false
set_option maxRecDepth 100000
/-! FeTg: targets, displays with a star, stores. -/
namespace FE
open PySem PySem.Spec PyProof.Rows L2
open PySem.SeqAt
section
variable (G : GM) (K : PySem.W.Frag)
/-- a target that lets no exception out -/
def EvG0 (s : Stg) : TG := fun v σ H Q => ∃ ρ e h w kx k, Now G K ρ e h σ H ∧ RW G K ρ H w v ∧ s w e h kx k = true ∧ FinE G K ρ H k Q
def EvGs (s : Sts) : TGs := fun vs σ H Q => ∃ ρ e h ws kx k, Now G K ρ e h σ H ∧ RWs G K ρ H ws vs ∧ s ws e h kx k = true ∧ FinE G K ρ H k Q
end
theorem _root_.L2.PGs.imp {X : Cx} {e : List Expr} {t t' : TGs} (x : PGs X e t) (i : ∀ v σ H Q, t' v σ H Q → t v σ H Q) : PGs X e t' := ⟨fun pins s σ H v u Q I r h => x.run pins s σ H v u Q I r (i v σ H Q h)⟩
section
variable {X : Cx} {G : GM} {Z : ZF X.K} {a b c o : Expr} {es : List Expr} {st : Stmt} {pos : Pos} {sa sb so : Sem} {sl : Slt} {sg : Stg} {ss : Sts}
theorem eg_of (h : PG X a (EvG0 G X.K sg)) : PG X a (EvG G X.K Z sg) := h.imp fun v σ H Q ⟨ρ, e, h, w, kx, k, n, r, run, fin, _⟩ => ⟨ρ, e, h, w, kx, k, n, r, run, fin⟩
theorem eg0_name {i : Nat} {x : Str} (hN : X.N.Nodup) (hi : X.N[i]? = some x) (hx : Loc X.env.scope x) (hf : X.fn x = true ∨ X.env.scope.names.lookup x = some .local := by first | exact .inl rfl | exact .inr rfl | assumption) : PG X (.Name x pos) (EvG0 G X.K (gSlot i)) :=
  (pg_name hN hi hx hf).imp fun v σ H Q ⟨ρ, e, h, w, kx, k, n, r, run, fin⟩ => fin _ _ _ _ ρ run .refl (n.set i r)
theorem egs_nil : PGs X [] (EvGs G X.K FE.gNil) := pgs_nil.imp fun vs σ H Q ⟨ρ, e, h, ws, kx, k, n, r, run, fin⟩ => by
  cases r with
  | nil => exact ⟨rfl, fin _ _ _ _ ρ run .refl n⟩
  | cons _ _ => cases run
theorem egs_cons (h1 : PG X a (EvG0 G X.K sg)) (h2 : PGs X es (EvGs G X.K ss)) (hs : (assignEach (a :: es) X.env).map (·.2) = assign a X.env :: (assignEach es X.env).map (·.2) := by rfl) : PGs X (a :: es) (EvGs G X.K (FE.gCons sg ss)) :=
  (pgs_cons h1 h2 hs).imp fun vs σ H Q ⟨ρ, e, h, ws, kx, k, n, r, run, fin⟩ => by
    cases r with
    | nil => cases run
    | cons r rs =>
      exact ⟨_, _, rfl, ρ, e, h, _, kx, _, n, r, run, fun e1 h1 σ1 H1 ρ1 r1 x1 n1 => ⟨ρ1, e1, h1, _, kx, k, n1, rs.mono x1, r1, fin.mono x1⟩⟩
theorem eg0_tup {k0 n : Nat} (hc : X.calm = true) (h : PGs X es (EvGs G X.K ss)) (hl : (assignEach es X.env).length = n := by rfl) (hst : (assignEach es X.env).findIdx? (·.1) = none := by rfl) : PG X (.Tuple es k0 pos) (EvG0 G X.K (gTupN n ss)) :=
  (pg_tup hc h hl hst).imp fun v σ H Q ⟨ρ, e, h, w, kx, k, n0, r, run, fin⟩ => by
    cases w with
    | tup ws =>
      obtain ⟨l, xs, rfl, q, t⟩ := rw_tup r
      obtain ⟨len, run⟩ := bool2 (show (match Nat.beq ws.length n with | true => ss ws e h kx k | false => stop 62) = true from run)
      exact ⟨l, xs, rfl, q, by rw [← t.length]; exact Nat.eq_of_beq_eq_true len, ρ, e, h, ws, kx, k, n0, t, run, fin⟩
    | non => cases run
    | bl c => cases run
    | int c => cases run
    | str c => cases run
    | ob c => cases run
    | cls c => cases run
    | fn c => cases run
/-- xs[i] = v -/
theorem setL_inv {o i w : FE.W} {h : FE.H} {k : FE.H → B} (run : setL o i w h k = true) : ∃ m xs j p, o = .ob m ∧ h.get m = some (.lst xs) ∧ i = .int j ∧ ix xs.length j = some p ∧ k (h.put m (.lst (setNth xs p w))) = true := by
  cases o with
  | ob m =>
    cases i with
    | int j =>
      have run : (match h.get m with | some (.lst xs) => opt 63 (ix xs.length j) (fun j => k (h.put m (.lst (setNth xs j w)))) | _ => stop 67) = true := run
      split at run
      · next xs g =>
        obtain ⟨p, e, run⟩ := opt_inv run
        exact ⟨m, xs, j, p, rfl, g, rfl, e, run⟩
      · cases run
    | non => exact absurd run (by show ¬ ((match h.get m with | some (.lst xs) => stop 64 | _ => stop 67) = true); split <;> (intro z; cases z))
    | bl c => exact absurd run (by show ¬ ((match h.get m with | some (.lst xs) => stop 64 | _ => stop 67) = true); split <;> (intro z; cases z))
    | str c => exact absurd run (by show ¬ ((match h.get m with | some (.lst xs) => stop 64 | _ => stop 67) = true); split <;> (intro z; cases z))
    | tup c => exact absurd run (by show ¬ ((match h.get m with | some (.lst xs) => stop 64 | _ => stop 67) = true); split <;> (intro z; cases z))
    | ob c => exact absurd run (by show ¬ ((match h.get m with | some (.lst xs) => stop 64 | _ => stop 67) = true); split <;> (intro z; cases z))
    | cls c => exact absurd run (by show ¬ ((match h.get m with | some (.lst xs) => stop 64 | _ => stop 67) = true); split <;> (intro z; cases z))
    | fn c => exact absurd run (by show ¬ ((match h.get m with | some (.lst xs) => stop 64 | _ => stop 67) = true); split <;> (intro z; cases z))
  | non => cases run
  | bl c => cases run
  | int c => cases run
  | str c => cases run
  | tup c => cases run
  | cls c => cases run
  | fn c => cases run
theorem eg_subL (ho : PE X o (EvE G X.K Z so)) (hi : PE X b (EvE G X.K Z sb)) (hA : ∀ v0, assign (.Subscript o b pos) X.env v0 = (do let x0 ← holding [v0] (eval o X.env); let i0 ← holding [v0, x0] (eval b X.env); standAt pos; holding [v0, x0, i0] (setItem x0 i0 v0); release [v0, x0, i0] []) := by intro _; rfl) : PG X (.Subscript o b pos) (EvG G X.K Z (gSubL so sb)) :=
  (pg_sub ho hi set_list hA).imp fun v σ H Q ⟨ρ, e, h, w, kx, k, n, r, run, fin, fx⟩ => by
    have run : so e h kx (fun o h => sb e h kx fun j h => setL o j w h fun h => k e h) = true := run
    refine EvE.then n run fx fun x h1 v1 H1 ρ1 t1 n1 r1 run1 fx1 => ?_
    refine EvE.then n1 run1 fx1 fun y h2 v2 H2 ρ2 t2 n2 r2 run2 fx2 => ?_
    obtain ⟨m, xs, j, q, rfl, g, rfl, ei, run2⟩ := setL_inv run2
    obtain ⟨l, rfl, qa⟩ := rw_ob (r1.mono t2)
    cases rw_int r2
    obtain ⟨vs, ea, rs⟩ := lst_at n2.rh g qa
    rw [rs.length] at ei
    obtain ⟨ex, R'⟩ := n2.rh.put_lst g qa ea (rs.set q ((r.mono t1).mono t2))
    exact ⟨l, vs, j, q, rfl, rfl, ea, (ix_ok ei).1, fin e _ σ _ ρ2 run2 ((t1.trans t2).trans ex) (n2.on ex R')⟩
/-- two names, three names at once -/
theorem es_par2 {i j : Nat} {x y : Str} {px py pt : Pos} {kt k2 pt2} (hc : X.calm = true) (hN : X.N.Nodup) (hi : X.N[i]? = some x) (hj : X.N[j]? = some y) (hij : i ≠ j) (hx : X.env.scope.names.lookup x = some .local) (hy : X.env.scope.names.lookup y = some .local) (ha : PA X [a, b] (EvA G X.K Z sl))
    (hw : swappedStores [.Tuple [.Name x px, .Name y py] kt pt] (.Tuple [a, b] k2 pt2) X.env = pure (some [x, y])) (hs : swapsWithSole [.Tuple [.Name x px, .Name y py] kt pt] (.Tuple [a, b] k2 pt2) pos.line X.env = pure false := by rfl) :
    PS X (.Assign [.Tuple [.Name x px, .Name y py] kt pt] (.Tuple [a, b] k2 pt2) pos) (EvS G X.K Z (sPar [i, j] sl)) :=
  (ps_par hc hN hi hj hij hx hy ha hw hs).imp fun D σ H ⟨ρ, e, h, k, n, run, w⟩ => by
    have run : sl e h k.ex (fun ws h => opt 63 (esets [i, j] ws e) fun e => k.nx e h) = true := run
    refine EvA.then n run w.ex fun ws h1 vs H1 ρ1 t1 n1 r1 run1 _ => ?_
    obtain ⟨e', eq, run1⟩ := opt_inv run1
    cases r1 with
    | nil => cases eq
    | cons r1 rs =>
      cases rs with
      | nil => cases eq
      | cons r2 rs =>
        cases rs with
        | nil => cases eq; exact ⟨_, _, rfl, w.nx _ h1 _ H1 ρ1 run1 t1 ((n1.set i r1).set j r2)⟩
        | cons _ _ => cases eq
theorem es_par3 {i j l : Nat} {x y z : Str} {px py pz pt : Pos} {kt k2 pt2} (hc : X.calm = true) (hN : X.N.Nodup) (hi : X.N[i]? = some x) (hj : X.N[j]? = some y) (hl : X.N[l]? = some z) (hij : i ≠ j) (hil : i ≠ l) (hjl : j ≠ l)
    (hx : X.env.scope.names.lookup x = some .local) (hy : X.env.scope.names.lookup y = some .local) (hz : X.env.scope.names.lookup z = some .local) (ha : PA X [a, b, c] (EvA G X.K Z sl))
    (hw : swappedStores [.Tuple [.Name x px, .Name y py, .Name z pz] kt pt] (.Tuple [a, b, c] k2 pt2) X.env = pure (some [x, y, z])) (hs : swapsWithSole [.Tuple [.Name x px, .Name y py, .Name z pz] kt pt] (.Tuple [a, b, c] k2 pt2) pos.line X.env = pure false := by rfl) :
    PS X (.Assign [.Tuple [.Name x px, .Name y py, .Name z pz] kt pt] (.Tuple [a, b, c] k2 pt2) pos) (EvS G X.K Z (sPar [i, j, l] sl)) :=
  (ps_par3 hc hN hi hj hl hij hil hjl hx hy hz ha hw hs).imp fun D σ H ⟨ρ, e, h, k, n, run, w⟩ => by
    have run : sl e h k.ex (fun ws h => opt 63 (esets [i, j, l] ws e) fun e => k.nx e h) = true := run
    refine EvA.then n run w.ex fun ws h1 vs H1 ρ1 t1 n1 r1 run1 _ => ?_
    obtain ⟨e', eq, run1⟩ := opt_inv run1
    cases r1 with
    | nil => cases eq
    | cons r1 rs =>
      cases rs with
      | nil => cases eq
      | cons r2 rs =>
        cases rs with
        | nil => cases eq
        | cons r3 rs =>
          cases rs with
          | nil => cases eq; exact ⟨_, _, _, rfl, w.nx _ h1 _ H1 ρ1 run1 t1 (((n1.set i r1).set j r2).set l r3)⟩
          | cons _ _ => cases eq
/-- a star in a display -/
theorem ea_star {s2 : Slt} {p : Pos} (ha : PE X a (EvQ G X.K Z sl)) (hr : PA X es (EvA G X.K Z s2)) (hs : starEach (.Starred a p :: es) X.env = (true, eval a X.env) :: starEach es X.env := by rfl) : PA X (.Starred a p :: es) (EvA G X.K Z (aStar sl s2)) :=
  (StX.pa_star ha hr hs).imp fun σ H Q ⟨ρ, e, h, kx, k, n, run, fin, fx⟩ => by
    have run : sl e h kx (fun xs h => s2 e h kx fun ws h => k (xs ++ ws) h) = true := run
    refine ⟨ρ, e, h, kx, _, n, run, fun ws h1 v l xs H1 ρ1 run1 t1 R1 ev sq r1 => ?_, fx⟩
    subst ev
    refine ⟨l, xs, rfl, (sq.imp id And.left).symm, ?_⟩
    refine EvA.then (n.on t1 R1) run1 (fx.mono t1) fun us h2 vs H2 ρ2 t2 n2 r2 run2 _ => ?_
    exact fin _ h2 _ H2 ρ2 run2 (t1.trans t2) n2.rh ((r1.mono t2).append r2)
end
end FE
end
section
set_option Elab.async false
set_option linter.all false
set_option maxRecDepth 100000
/-! FeLc: list comprehensions of one clause. -/
namespace FE
open PySem PySem.Spec PyProof.Rows L2
open PySem.SeqAt
/-- no exception is let out -/
def NoZ (K : PySem.W.Frag) : ZF K := ⟨fun _ _ _ => False, fun _ _ => True, fun _ _ _ _ _ h => h⟩
section
variable {G : GM} {K : PySem.W.Frag} {ρ ρ' : Rho} {H H' : Hp} {h : FE.H} {e : FE.Env} {σ : L2.St}
theorem ewipe_len (e : FE.Env) : ∀ vs : List Nat, (ewipe e vs).length = e.length
  | [] => rfl
  | v :: vs => by unfold ewipe; rw [eset_len, ewipe_len e vs]
theorem RE.wipe (r : RE G K ρ H e σ) : ∀ vs : List Nat, RE G K ρ H (ewipe e vs) (L2.wipe σ vs)
  | [] => r
  | v :: vs => by
    have ih := RE.wipe r vs
    refine ⟨by rw [ewipe_len, wipe_length]; exact r.len, fun j u q => ?_⟩
    unfold ewipe at q
    rw [eget_eset] at q
    by_cases z : j = v ∧ v < (ewipe e vs).length
    · rw [if_pos z] at q; cases q
    · rw [if_neg z] at q
      obtain ⟨x, q1, q2⟩ := ih.val j u q
      refine ⟨x, ?_, q2⟩
      unfold L2.wipe
      by_cases y : v = j
      · subst y
        have : ¬ v < (ewipe e vs).length := fun l => z ⟨rfl, l⟩
        rw [ih.len] at this
        rw [List.getElem?_eq_none (Nat.le_of_not_lt this)] at q1
        cases q1
      · rw [List.getElem?_set_ne y]; exact q1
theorem wipe_set (σ : L2.St) (x : Option V) : ∀ (vs : List Nat) (i : Nat), i ∈ vs → L2.wipe (σ.set i x) vs = L2.wipe σ vs
  | v :: vs, i, h => by
    unfold L2.wipe
    by_cases z : i ∈ vs
    · rw [wipe_set σ x vs i z]
    · have e : i = v := (List.mem_cons.mp h).resolve_right z
      subst e
      have out : ∀ (vs : List Nat) (τ : L2.St), i ∉ vs → L2.wipe (τ.set i x) vs = (L2.wipe τ vs).set i x := fun vs => by
        induction vs with
        | nil => intro τ _; rfl
        | cons w ws ih =>
          intro τ hw
          have h1 : i ≠ w := fun q => hw (q ▸ List.mem_cons_self)
          have h2 : i ∉ ws := fun q => hw (List.mem_cons_of_mem _ q)
          unfold L2.wipe
          rw [ih τ h2, List.set_comm _ _ h1]
      rw [out vs σ z, List.set_set]
end
section
variable (G : GM) (K : PySem.W.Frag)
/-- a target that stores into these slots alone -/
def EvGv (vs : List Nat) (s : Stg) : TG := fun v σ H Q => ∃ ρ e h w kx k, Now G K ρ e h σ H ∧ RW G K ρ H w v ∧ s w e h kx k = true ∧
  ∀ e' h' σ' H' ρ', k e' h' = true → Ext K ρ H ρ' H' → Now G K ρ' e' h' σ' H' → L2.wipe σ' vs = L2.wipe σ vs → Q σ' H'
def EvGvs (vs : List Nat) (s : Sts) : TGs := fun us σ H Q => ∃ ρ e h ws kx k, Now G K ρ e h σ H ∧ RWs G K ρ H ws us ∧ s ws e h kx k = true ∧
  ∀ e' h' σ' H' ρ', k e' h' = true → Ext K ρ H ρ' H' → Now G K ρ' e' h' σ' H' → L2.wipe σ' vs = L2.wipe σ vs → Q σ' H'
/-- an expression whose value is a list that nobody else has -/
def EvN (Z : ZF K) (s : Slt) : TE := fun σ H Q => ∃ ρ e h kx k, Now G K ρ e h σ H ∧ s e h kx k = true ∧
  (∀ ws h' a xs H' ρ', k ws h' = true → Ext K ρ H ρ' H' → RH G K ρ' h' H' → H a = none → (∀ n, ρ' n ≠ some a) → H' a = some (.lst xs) → RWs G K ρ' H' ws xs → Q (.ref a) H') ∧ FinX G ρ H kx Z
end
section
variable {X : Cx} {G : GM} {Z : ZF X.K} {a b c o : Expr} {es : List Expr} {pos : Pos} {sa sb so : Sem} {sl : Slt} {sg : Stg} {ss : Sts} {vs : List Nat}
theorem egv_name {i : Nat} {x : Str} (hN : X.N.Nodup) (hi : X.N[i]? = some x) (hx : Loc X.env.scope x) (hf : X.fn x = true ∨ X.env.scope.names.lookup x = some .local) (hv : i ∈ vs) : PG X (.Name x pos) (EvGv G X.K vs (gSlot i)) :=
  (pg_name hN hi hx hf).imp fun v σ H Q ⟨ρ, e, h, w, kx, k, n, r, run, fin⟩ => fin _ _ _ _ ρ run .refl (n.set i r) (wipe_set σ _ vs i hv)
theorem egvs_nil : PGs X [] (EvGvs G X.K vs FE.gNil) := pgs_nil.imp fun us σ H Q ⟨ρ, e, h, ws, kx, k, n, r, run, fin⟩ => by
  cases r with
  | nil => exact ⟨rfl, fin _ _ _ _ ρ run .refl n rfl⟩
  | cons _ _ => cases run
theorem egvs_cons (h1 : PG X a (EvGv G X.K vs sg)) (h2 : PGs X es (EvGvs G X.K vs ss)) (hs : (assignEach (a :: es) X.env).map (·.2) = assign a X.env :: (assignEach es X.env).map (·.2)) : PGs X (a :: es) (EvGvs G X.K vs (FE.gCons sg ss)) :=
  (pgs_cons h1 h2 hs).imp fun us σ H Q ⟨ρ, e, h, ws, kx, k, n, r, run, fin⟩ => by
    cases r with
    | nil => cases run
    | cons r rs =>
      exact ⟨_, _, rfl, ρ, e, h, _, kx, _, n, r, run, fun e1 h1 σ1 H1 ρ1 r1 x1 n1 w1 => ⟨ρ1, e1, h1, _, kx, k, n1, rs.mono x1, r1, fun e2 h2 σ2 H2 ρ2 r2 x2 n2 w2 => fin e2 h2 σ2 H2 ρ2 r2 (x1.trans x2) n2 (w2.trans w1)⟩⟩
theorem egv_tup {k0 n : Nat} (hc : X.calm = true) (h : PGs X es (EvGvs G X.K vs ss)) (hl : (assignEach es X.env).length = n) (hst : (assignEach es X.env).findIdx? (·.1) = none) : PG X (.Tuple es k0 pos) (EvGv G X.K vs (gTupN n ss)) :=
  (pg_tup hc h hl hst).imp fun v σ H Q ⟨ρ, e, h, w, kx, k, n0, r, run, fin⟩ => by
    cases w with
    | tup ws =>
      obtain ⟨l, xs, rfl, q, t⟩ := rw_tup r
      obtain ⟨len, run⟩ := bool2 (show (match Nat.beq ws.length n with | true => ss ws e h kx k | false => stop 62) = true from run)
      exact ⟨l, xs, rfl, q, by rw [← t.length]; exact Nat.eq_of_beq_eq_true len, ρ, e, h, ws, kx, k, n0, t, run, fin⟩
    | non => cases run
    | bl c => cases run
    | int c => cases run
    | str c => cases run
    | ob c => cases run
    | cls c => cases run
    | fn c => cases run
theorem el_new (ha : PE X a (EvN G X.K Z sl)) : PE X a (EvL G X.K Z sl) :=
  ha.imp fun σ H Q ⟨ρ, e, h, kx, k, n, run, fin, fx⟩ => ⟨ρ, e, h, kx, k, n, run, fun ws h' a xs H' ρ' x1 x2 x3 _ _ x4 x5 => fin ws h' _ a xs H' ρ' x1 x2 x3 rfl (.of x4) x5, fx⟩
theorem ev_new (ha : PE X a (EvN G X.K Z sl)) : PE X a (EvE G X.K Z (cLst sl)) :=
  ha.imp fun σ H Q ⟨ρ, e, h, kx, k, n, run, fin, fx⟩ => by
    refine ⟨ρ, e, h, kx, _, n, run, fun ws h' a xs H' ρ' x1 x2 x3 hn un x4 x5 => ?_, fx⟩
    obtain ⟨_, hm, run1⟩ := newK_inv x1
    obtain ⟨ρ2, q, m1, m2, R2⟩ := x3.see un x4 x5 hm
    refine fin _ _ _ _ ρ2 run1 ⟨⟨⟨fun n b z => m1 n b (x2.map n b z), x2.tup, x2.pt⟩, x2.frz⟩, fun n b z => ?_, x2.there, x2.keep⟩ R2 (.ob q)
    rcases m2 n b z with z | rfl
    · exact x2.new n b z
    · exact .inr hn
theorem et_yes' {ifs : List Expr} (h : ifs = []) : PTs X ifs (EvT G X.K Z FE.tYes) := by
  subst h
  refine ⟨fun pins s σ H Q I q => pts_nil.run pins s σ H Q I ?_⟩
  obtain ⟨ρ, e, h, kx, k, n, run, fin, fx⟩ := q
  exact fin true h H ρ run .refl n.rh
theorem ets_nil : PTs X [] (EvT G X.K Z FE.tYes) := et_yes' rfl
theorem ets_one {sc : Tst} (h : PT X c (EvT G X.K Z sc)) : PTs X [c] (EvT G X.K Z sc) := pts_one h
theorem nox (ρ : Rho) (H : Hp) : FinX G ρ H noX (NoZ X.K) := ⟨fun c ws h' cls d H' ρ' r _ _ _ => (by cases r), trivial⟩
theorem lc_read {own : List (Str × Nat)} {si : Sit} {sc : Tst} {se : Sem} (hv : own.map (·.2) = vs) : ∀ (σ : L2.St) (H0 : Hp) (Q : VK), EvN G X.K Z (sLc vs sg si sc se) σ H0 Q → tLc (EvI G X.K Z si) (EvGv G X.K vs sg) (EvT G X.K (NoZ X.K) sc) (EvE G X.K (NoZ X.K) se) (own.map (·.2)) σ H0 Q :=
  fun σ H0 Q ⟨ρ0, e, h, kx, k, n, run, fin, fx⟩ => by
    have run : si e h kx (fun q h => walkL sg sc se (ewipe e vs) (fun acc h => k acc.reverse h) TURNS q [] h) = true := run
    refine ⟨ρ0, e, h, kx, _, n, run, fun q h1 J H1 ρ1 run1 t1 R1 wr => ?_, fx⟩
    intro D hD
    rw [hv]
    have re1 : RE G X.K ρ1 H1 (ewipe e vs) (L2.wipe σ vs) := (n.re.mono t1).wipe vs
    have ntD : ∀ {H : Hp} {xs : List V}, H D = some (.lst xs) → NF H D := fun q => no_tup q (fun _ z => nomatch z) fun _ _ z => nomatch z
    have first : Ext X.K ρ1 H1 ρ1 (upd H1 D (.lst [])) := ext_new hD (fun _ _ z => z) fun _ _ z => .inl z
    refine ⟨fun i m H => ∃ ρ h q acc xs, RH G X.K ρ h H ∧ Ext X.K ρ1 H1 ρ H ∧ (∀ n, ρ n ≠ some D) ∧ walkL sg sc se (ewipe e vs) (fun acc h => k acc.reverse h) m q acc h = true ∧ WkR G X.K ρ H q J i ∧ H D = some (.lst xs) ∧ RWs G X.K ρ H acc.reverse xs ∧ acc.length + m ≤ TURNS,
      ⟨TURNS, ρ1, h1, q, [], [], R1.unseen (fun n z => R1.live n D z hD) (.none hD), first, fun n z => R1.live n D z hD, run1, wr.mono first, upd_same, .nil, by simp⟩, ?_⟩
    rintro i m H ⟨ρ, h, q, acc, xs, R, ex, un, run, wr, eD, ra, len⟩
    cases m with
    | zero => cases run
    | succ m =>
      have run : wkGo (wkNext h q) (fun _ => k acc.reverse h) (fun x q => sg x (ewipe e vs) h noX fun σ' h => sc σ' h noX fun b h => match b with
        | true => se σ' h noX fun w h => walkL sg sc se (ewipe e vs) (fun acc h => k acc.reverse h) m q (w :: acc) h
        | false => walkL sg sc se (ewipe e vs) (fun acc h => k acc.reverse h) m q acc h) 83 = true := run
      have hD0 : H0 D = none := by
        cases z : H0 D with
        | none => rfl
        | some u => exact absurd hD (t1.there D (by rw [z]; exact fun z => nomatch z))
      obtain ⟨st1, st2⟩ := wk_step R wr
      cases eq : wkNext h q with
      | none => rw [eq] at run; cases run
      | some o =>
        rw [eq] at run
        cases o with
        | none => exact .inl ⟨st1 eq, fin acc.reverse h D xs H ρ run (t1.trans ex) R hD0 un eD ra⟩
        | some xq =>
          obtain ⟨x, q'⟩ := xq
          obtain ⟨go, yld⟩ := st2 x q' eq
          have run : sg x (ewipe e vs) h noX (fun σ' h => sc σ' h noX fun b h => match b with
            | true => se σ' h noX fun w h => walkL sg sc se (ewipe e vs) (fun acc h => k acc.reverse h) m q' (w :: acc) h
            | false => walkL sg sc se (ewipe e vs) (fun acc h => k acc.reverse h) m q' acc h) = true := run
          refine .inr ⟨go, fun H => ∃ ρ h q acc xs, RH G X.K ρ h H ∧ Ext X.K ρ1 H1 ρ H ∧ (∀ n, ρ n ≠ some D) ∧ walkL sg sc se (ewipe e vs) (fun acc h => k acc.reverse h) m q acc h = true ∧ WkR G X.K ρ H q J (i + 1) ∧ H D = some (.lst xs) ∧ RWs G X.K ρ H acc.reverse xs ∧ acc.length + m ≤ TURNS,
            fun H' z => ⟨m, Nat.lt_succ_self m, z⟩, fun v H' y => ?_⟩
          obtain ⟨ρ', x1, R', rv, wr'⟩ := yld v H' y
          have hDn : H D ≠ none := by rw [eD]; exact fun z => nomatch z
          refine ⟨ρ', ewipe e vs, h, x, noX, _, ⟨R', re1.mono (ex.trans x1)⟩, rv, run, fun e2 h2 σ2 H2 ρ2 r2 x2 n2 w2 => ⟨w2.trans ?_, ?_⟩⟩
          · have ww : ∀ (us : List Nat) (τ : L2.St), (∀ u ∈ us, u ∈ vs) → L2.wipe (L2.wipe τ us) vs = L2.wipe τ vs := fun us => by
              induction us with
              | nil => intro τ _; rfl
              | cons u us ih =>
                intro τ hu
                show L2.wipe ((L2.wipe τ us).set u none) vs = _
                rw [wipe_set _ _ _ _ (hu u List.mem_cons_self), ih τ fun z hz => hu z (List.mem_cons_of_mem _ hz)]
            exact ww vs σ fun _ z => z
          · refine ⟨ρ2, e2, h2, noX, _, n2, r2, fun b h3 H3 ρ3 r3 x3 R3 => ?_, nox ρ2 H2⟩
            have t3 := (x1.trans x2).trans x3
            cases b with
            | false =>
              simp only [Bool.false_eq_true, if_false]
              refine ⟨ρ3, h3, q', acc, xs, R3, ex.trans t3, t3.unseen hDn un, r3, wr'.mono (x2.trans x3), (t3.keep D hDn un).trans eD, ra.mono t3, ?_⟩
              omega
            | true =>
              simp only [if_true]
              refine ⟨ρ3, e2, h3, noX, _, n2.on x3 R3, r3, fun w h4 v4 H4 ρ4 r4 x4 R4 rv4 => ?_, nox ρ3 H3⟩
              have t4 := t3.trans x4
              have eD4 : H4 D = some (.lst xs) := (t4.keep D hDn un).trans eD
              have un4 := t4.unseen hDn un
              have e0 : Ext0 X.K ρ4 H4 ρ4 (upd H4 D (.lst (xs ++ [v4]))) := ext0_unseen (ntD eD4)
              have ra4 := (ra.mono t4).append (.cons rv4 .nil)
              have lx : xs.length = acc.length := by rw [← ra.length, List.length_reverse]
              refine ⟨xs, eD4, ?_, ρ4, h4, q', w :: acc, xs ++ [v4], R4.unseen un4 (ntD eD4), (ex.trans t4).over hD (ntD eD4), un4, r4, (wr'.mono ((x2.trans x3).trans x4)).mono0 e0, upd_same, by rw [List.reverse_cons]; exact ra4.mono0 e0, ?_⟩
              · rw [lx, sizeLine_eq]; have : TURNS = 100000 := rfl; omega
              · show acc.length + 1 + m ≤ TURNS; omega
theorem en_lc {elt tg iter : Expr} {ifs : List Expr} {scope : Scope} {own : List (Str × Nat)} {si : Sit} {sc : Tst} {se : Sem} (hc : X.calm = true) (hN : X.N.Nodup) (hi : PI X tg iter (EvI G X.K Z si)) (ok : BlkOk X.N X.env.scope scope own) (hv : own.map (·.2) = vs)
    (hg : ∀ (s : Shared) (H : Hp) (C : Addr) (cl : List (Str × Addr)) (fp : List Addr), PG (X.blk s H scope (compEnvC scope cl C X.env) fp) tg (EvGv G X.K vs sg)) (ht : ∀ (s : Shared) (H : Hp) (C : Addr) (cl : List (Str × Addr)) (fp : List Addr), PTs (X.blk s H scope (compEnvC scope cl C X.env) fp) ifs (EvT G X.K (NoZ X.K) sc))
    (he : ∀ (s : Shared) (H : Hp) (C : Addr) (cl : List (Str × Addr)) (fp : List Addr), PE (X.blk s H scope (compEnvC scope cl C X.env) fp) elt (EvE G X.K (NoZ X.K) se)) (hs : ∀ x, foldedSetIterable iter X.env x = pure x := by intro _; rfl) :
    PE X (.ListComp elt [⟨tg, iter, ifs, 0⟩] scope pos) (EvN G X.K Z (sLc vs sg si sc se)) :=
  (pe_lc hc hN hi ok hg ht he hs).imp (lc_read hv)
/-- name = [..], the name a local -/
theorem es_setLc {i : Nat} {y : Str} {py : Pos} {elt tg iter : Expr} {ifs : List Expr} {scope : Scope} {own : List (Str × Nat)} {spos : Pos} {si : Sit} {sc : Tst} {se : Sem} (hc : X.calm = true) (hN : X.N.Nodup) (hi : PI X tg iter (EvI G X.K Z si)) (ok : BlkOk X.N X.env.scope scope own) (hv : own.map (·.2) = vs)
    (hg : ∀ (s : Shared) (H : Hp) (C : Addr) (cl : List (Str × Addr)) (fp : List Addr), PG (X.blk s H scope (compEnvC scope cl C X.env) fp) tg (EvGv G X.K vs sg)) (ht : ∀ (s : Shared) (H : Hp) (C : Addr) (cl : List (Str × Addr)) (fp : List Addr), PTs (X.blk s H scope (compEnvC scope cl C X.env) fp) ifs (EvT G X.K (NoZ X.K) sc))
    (he : ∀ (s : Shared) (H : Hp) (C : Addr) (cl : List (Str × Addr)) (fp : List Addr), PE (X.blk s H scope (compEnvC scope cl C X.env) fp) elt (EvE G X.K (NoZ X.K) se)) (hy : X.N[i]? = some y := by rfl) (hyl : X.env.scope.names.lookup y = some .local := by rfl) (hs : ∀ x, foldedSetIterable iter X.env x = pure x := by intro _; rfl)
    (hsw : swapsWith (.ListComp elt [⟨tg, iter, ifs, 0⟩] scope pos) (some (.Name y py)) spos.line X.env = pure true := by rfl) : PS X (.Assign [.Name y py] (.ListComp elt [⟨tg, iter, ifs, 0⟩] scope pos) spos) (EvS G X.K Z (sAsg (gSlot i) (cLst (sLc vs sg si sc se)))) :=
  (ps_setLc hc hN hy hyl hsw hi ok hg ht he hs).imp fun D σ H ⟨ρ, e, h, k, n, run, w⟩ => by
    have run : sLc vs sg si sc se e h k.ex (fun ws h => newK h (.lst ws) fun v h => k.nx (eset e i (some v)) h) = true := run
    refine lc_read hv σ H _ ⟨ρ, e, h, k.ex, _, n, run, fun ws h' a xs H' ρ' x1 x2 x3 hn un x4 x5 => ?_, w.ex⟩
    obtain ⟨_, hm, run1⟩ := newK_inv x1
    obtain ⟨ρ2, q, m1, m2, R2⟩ := x3.see un x4 x5 hm
    have ex : Ext X.K ρ H ρ2 H' := ⟨⟨⟨fun n b z => m1 n b (x2.map n b z), x2.tup, x2.pt⟩, x2.frz⟩, fun n b z => by
      rcases m2 n b z with z | rfl
      · exact x2.new n b z
      · exact .inr hn, x2.there, x2.keep⟩
    exact w.nx _ _ _ _ ρ2 run1 ex ((n.on ex R2).set i (.ob q))

end
end FE
end
section
set_option Elab.async false
set_option linter.all false
set_option maxRecDepth 100000
/-! FeCall: calls of the program's own defs. -/
namespace FE
open PySem PySem.Spec PyProof.Rows L2
open PySem.SeqAt
section
variable (G : GM) (K : PySem.W.Frag) (P : FE.Prog)
/-- what def f promises at the level n: what the evaluator's run of it tells -/
def SpF (n f : Nat) : Sp := fun vs H Q E => ∃ ρ h k kx ws, RH G K ρ h H ∧ RWs G K ρ H ws vs ∧ callN P n f ws h kx k = true ∧ Fin G K ρ H k Q ∧
  ∀ c us h' cls d H' ρ', kx c us h' = true → Ext K ρ H ρ' H' → RH G K ρ' h' H' → ExR G K ρ' H' c us cls d → E cls d H'
/-- an exception may leave -/
def ZE (E : XK) : ZF K := ⟨E, fun _ _ => True, fun _ _ _ _ _ h => h⟩
end
section
variable {G : GM} {K : PySem.W.Frag} {P : FE.Prog} {n f : Nat}
theorem callN_inv {ws : List FE.W} {h : FE.H} {kx : KX} {k : KW} (run : callN P (n + 1) f ws h kx k = true) : ∃ fn, P.fns f = some fn ∧ ws.length = fn.ps ∧
    fn.body (callN P n) (startW fn.n ws) h (fun _ h => k .non h) k (fun _ _ => stop 403) (fun _ _ => stop 403) kx = true := by
  unfold callN at run
  split at run
  · next fn e =>
    split at run
    · next l => exact ⟨fn, e, Nat.eq_of_beq_eq_true l, run⟩
    · cases run
  · cases run
theorem padN_len : ∀ n, (padN n).length = n
  | 0 => rfl
  | n + 1 => by show (padN n).length + 1 = n + 1; rw [padN_len n]
theorem padN_none : ∀ n i, eget (padN n) i = none
  | 0, _ => rfl
  | n + 1, 0 => rfl
  | n + 1, i + 1 => padN_none n i
theorem RE.pad (ρ : Rho) (H : Hp) (m : Nat) : RE G K ρ H (padN m) (List.replicate m none) := ⟨by rw [padN_len, List.length_replicate], fun i w e => by rw [padN_none] at e; cases e⟩
theorem RE.start {ρ : Rho} {H : Hp} : ∀ {ws : List FE.W} {vs : List V} (m : Nat), RWs G K ρ H ws vs → vs.length ≤ m → RE G K ρ H (startW m ws) (vs.map some ++ List.replicate (m - vs.length) none)
  | [], _, m, .nil, _ => by cases m <;> exact RE.pad ρ H _
  | w :: ws, _, 0, .cons r rs, l => by simp at l
  | w :: ws, _, m + 1, .cons (v := v) (vs := vs) r rs, l => by
    have ih := RE.start (ws := ws) m rs (by simpa using l)
    have e : (m + 1) - (v :: vs).length = m - vs.length := by simp
    rw [e]
    refine ⟨?_, fun i u q => ?_⟩
    · show (startW m ws).length + 1 = _
      rw [ih.len]; simp
    · cases i with
      | zero =>
        have q : some w = some u := q
        cases q
        exact ⟨v, rfl, r⟩
      | succ i =>
        obtain ⟨x, e, t⟩ := ih.val i u q
        exact ⟨x, e, t⟩
/-- level 0 promises nothing -/
theorem fn_zero {PM : Program} {w : World} {mg : Str → Option Value} {base : Heap} {CX : CXT} {k : Nat} {fa : Addr} {fd : FuncData} {ps : List Str} : FnOk PM w K mg base CX k fa fd ps (SpF G K P 0 f) :=
  have no : ∀ {vs : List V} {H : Hp} {Q : VK} {E : XK}, SpF G K P 0 f vs H Q E → False := fun ⟨ρ, h, k, kx, ws, _, _, run, _⟩ => by cases run
  ⟨fun vs H Q E h => (no h).elim, fun A outer s H args us vs Q E _ _ _ _ h => (no h).elim⟩
/-- a def keeps its promise if its body is what the combinator says -/
theorem fn_succ {r : Nat} {PM : Program} {w : World} {mg : Str → Option Value} {base : Heap} {fa : Addr} {fd : FuncData} {x qual : Str} {params : Arguments} {body : List Stmt} {scope : Scope} {dvs : List V} {kws : List (Str × V)} {N ps : List Str} {fn : Fn}
    (F : FunD K x qual params body scope dvs kws fa fd) (S : FnScope N ps scope) (hP : P.fns f = some fn) (h1 : fn.ps = ps.length) (h2 : fn.n = N.length) (h3 : ps.length ≤ N.length)
    (hb : ∀ (cdv : Value) (A : Around) (outer : List PySem.Env) (s : Shared) (H : Hp) (E : XK), Room r (A.deeper (envOfC qual scope s.heap.objs.size fa cdv)) →
      PSs (cxOf (CX PM w) PM w K mg base N qual scope fa cdv A outer s H E) body (EvS G K (ZE K E) (fn.body (callN P n)))) : FnOk PM w K mg base (CX PM w) (r + 1) fa fd ps (SpF G K P (n + 1) f) := by
  have len : ∀ vs H Q E, SpF G K P (n + 1) f vs H Q E → vs.length = ps.length := fun vs H Q E ⟨ρ, h, k, kx, ws, _, r, run, _⟩ => by
    obtain ⟨fn', e, l, _⟩ := callN_inv run
    rw [hP] at e; cases e
    rw [← r.length, l, h1]
  refine F.ok S len fun cdv A outer s H vs Q E hr h => ⟨_, hb cdv A outer s H E hr, ?_⟩
  have lv := len _ _ _ _ h
  obtain ⟨ρ, h, k, kx, ws, R, r, run, fin, fx⟩ := h
  obtain ⟨fn', e, l, run⟩ := callN_inv run
  rw [hP] at e; cases e
  refine ⟨ρ, startW fn.n ws, h, ⟨fun _ h => k .non h, k, fun _ _ => stop 403, fun _ _ => stop 403, kx⟩, ⟨R, ?_⟩, run, ?_⟩
  · rw [h2]
    exact RE.start N.length r (by rw [lv]; exact h3)
  · exact ⟨fun e' h' σ' H' ρ' a b c => fin .non h' .non H' ρ' a b c.rh .non, fin, fun e' h' σ' H' ρ' a => (by cases a), fun e' h' σ' H' ρ' a => (by cases a), ⟨fx, trivial⟩⟩
end
section
variable {X : Cx} {G : GM} {Z : ZF X.K} {P : FE.Prog} {n f : Nat} {e : Expr} {es : List Expr} {sl : Slt} {fa : Addr} {fd : FuncData} {ps : List Str} {x : Str} {p pos : Pos}
theorem ev_call {r : Nat} (F : FnOk X.prog X.w X.K X.mg X.base (CX X.prog X.w) r fa fd ps (SpF G X.K P n f)) (hr : Room r X.A) (hg : Gl X x) (hm : X.mg x = some (.ref fa)) (hk : PySem.W.keepIn X.K (.ref fa) = true) (hb : Binds X.K fd ps []) (tk : Takes X fun cls d _ H => Z.e cls d H)
    (ha : PA X (e :: es) (EvA G X.K Z sl)) (hdb : (x == ("__debug__" : Str)) = false := by decide) (he : starEach (e :: es) X.env = (false, eval e X.env) :: starEach es X.env := by rfl) (hpl : (backTo pos (starEach es X.env)).any (·.1) = false := by rfl) :
    PE X (.Call (.Name x p) (e :: es) [] pos) (EvE G X.K Z (cCall (callN P n) f sl)) :=
  (pe_call F hr hg hm hk hb .nil (passes_call tk fun _ _ _ _ h => h) ha hdb he hpl).imp fun σ H Q ⟨ρ, e, h, kx, k, n0, run, fin, fx⟩ => by
    have run : sl e h kx (fun ws h => callN P n f ws h kx k) = true := run
    refine EvA.then n0 run fx fun ws h1 vs H1 ρ1 t1 n1 r1 run1 fx1 => ?_
    rw [List.append_nil]
    exact ⟨ρ1, h1, k, kx, ws, n1.rh, r1, run1, fin.mono t1, fx1.to⟩
theorem ev_call0 {r : Nat} (F : FnOk X.prog X.w X.K X.mg X.base (CX X.prog X.w) r fa fd ps (SpF G X.K P n f)) (hr : Room r X.A) (hg : Gl X x) (hm : X.mg x = some (.ref fa)) (hk : PySem.W.keepIn X.K (.ref fa) = true) (hb : Binds X.K fd ps []) (tk : Takes X fun cls d _ H => Z.e cls d H)
    (hdb : (x == ("__debug__" : Str)) = false := by decide) : PE X (.Call (.Name x p) [] [] pos) (EvE G X.K Z (cCall (callN P n) f aNil)) :=
  (pe_call0 F hr hg hm hk hb .nil (passes_call tk fun _ _ _ _ h => h) hdb).imp fun σ H Q ⟨ρ, e, h, kx, k, n0, run, fin, fx⟩ => by
    have run : callN P n f [] h kx k = true := run
    exact ⟨ρ, h, k, kx, [], n0.rh, .nil, run, fin, fx.to⟩
end
end FE
end
section
set_option Elab.async false
set_option linter.all false
set_option maxRecDepth 100000
/-! FeUse: the rules as the printed proofs use them. -/
namespace FE
open PySem PySem.Spec PyProof.Rows L2
open PySem.SeqAt
theorem tk_cx {PM : Program} {w : World} {K : PySem.W.Frag} {mg : Str → Option Value} {base : Heap} {N : List Str} {qual : Str} {scope : Scope} {fa : Addr} {cdv : Value} {A : Around} {outer : List PySem.Env} {s : Shared} {H : Hp} {E : XK} :
    Takes (cxOf (CX PM w) PM w K mg base N qual scope fa cdv A outer s H E) (fun cls d _ H => E cls d H) := takes_of rfl rfl rfl rfl
theorem tk_blk {X : Cx} {s : Shared} {H : Hp} {scope : Scope} {ce : PySem.Env} {fp : List Addr} : Takes (X.blk s H scope ce fp) (fun cls d _ H => (NoZ X.K).e cls d H) := fun u s' ⟨_, _, _, _, _, _, _, _, _, _, _, _, _, _, _, _, w⟩ => w.elim
section
variable {X : Cx} {G : GM} {Z : ZF X.K} {x : Str} {pos : Pos}
theorem evv (i : Nat) (hN : X.N[i]? = some x := by rfl) (hv : Vis X.env.scope x := by first | exact Or.inl rfl | exact Or.inr (Or.inl rfl) | exact Or.inr (Or.inr rfl)) (hd : (x == ("__debug__" : Str)) = false := by decide) (hcd : (x == ("__classdict__" : Str)) = false := by decide) :
    PE X (.Name x pos) (EvE G X.K Z (cVar i)) := ev_var hN hv hd hcd
theorem evi {i : Int} {j} : PE X (.Constant (.int i) j pos) (EvE G X.K Z (cCon (.int i))) := ev_con pe_int fun _ _ => .int i
theorem evb {b : Bool} {j} : PE X (.Constant (.bool b) j pos) (EvE G X.K Z (cCon (.bl b))) := ev_con pe_bl fun _ _ => .bl b
theorem evn {j} : PE X (.Constant .none j pos) (EvE G X.K Z (cCon .non)) := ev_con pe_non fun _ _ => .non
theorem evs {cs : List Nat} {j} (e : toS cs = x) : PE X (.Constant (.str x) j pos) (EvE G X.K Z (cCon (.str cs))) := by
  subst e
  exact ev_con pe_str fun _ _ => .str cs
theorem evgS {cs : List Nat} (hm : ∃ t, X.mg x = some (.str (toS cs) t)) (hg : Gl X x := by rfl) (hd : (x == ("__debug__" : Str)) = false := by decide) : PE X (.Name x pos) (EvE G X.K Z (cCon (.str cs))) :=
  let ⟨t, e⟩ := hm
  ev_con (pe_glob (v := .str (toS cs)) hg e ⟨t, rfl⟩ hd) fun _ _ => .str cs
theorem evgI {i : Int} (hm : ∃ t, X.mg x = some (.int i t)) (hg : Gl X x := by rfl) (hd : (x == ("__debug__" : Str)) = false := by decide) : PE X (.Name x pos) (EvE G X.K Z (cCon (.int i))) :=
  let ⟨t, e⟩ := hm
  ev_con (pe_glob (v := .int i) hg e ⟨t, rfl⟩ hd) fun _ _ => .int i
/-- a module's constant -/
theorem evg {w : FE.W} {v : V} {u : Value} (hm : X.mg x = some u) (r : RelV v u) (t : ∀ ρ H, RW G X.K ρ H w v) (hg : Gl X x := by rfl) (hd : (x == ("__debug__" : Str)) = false := by decide) : PE X (.Name x pos) (EvE G X.K Z (cCon w)) := ev_con (pe_glob hg hm r hd) t
theorem cty {T : String} (hm : X.mg x = none) (hg : Gl X x := by rfl) (hv : bootBuiltins x = some (.type T) := by rfl) (hn : x ≠ "__name__" := by decide) (hd : (x == ("__debug__" : Str)) = false := by decide) : PE X (.Name x pos) (tC (.ty T)) := pe_bltn hg hm hv rfl hn hd
end
end FE
end
section
set_option Elab.async false
set_option linter.all false
set_option maxRecDepth 100000
/-! FeTry1: except clauses in a row, some with a name. -/
namespace FE
open PySem PySem.Spec PyProof.Rows L2
/-- a clause: its class, the slot of its name, what its suite says -/
structure Cla where
  c : Value
  i : Option Nat
  ts : Addr → Value → Option Addr → TS
def outN (D : Ends) : Option Nat → Ends
  | none => D
  | some i => ⟨fun τ K => D.nx (τ.set i none) K, D.rt, fun τ K => D.bk (τ.set i none) K, fun τ K => D.ct (τ.set i none) K⟩
def inN (τ : L2.St) (a : Addr) : Option Nat → L2.St
  | none => τ
  | some i => τ.set i (some (.ref a))
/-- what the clauses want of an exception -/
def wCls (K : PySem.W.Frag) (out : WX) (D : Ends) : List Cla → WX
  | [] => out
  | k :: r => fun cl dc τ G => ∃ hit, PySem.W.exmOne K cl k.c = some hit ∧ (hit = true → ∀ x, G x = none → k.ts x cl dc (outN D k.i) (inN τ x k.i) G) ∧ (hit = false → wCls K out D r cl dc τ G)
/-- the clause's name is a local of ours -/
def NmOk (X : Cx) : Option Str → Option Nat → Prop
  | none, none => True
  | some n, some i => X.N[i]? = some n ∧ X.env.kindOf n = some .local
  | _, _ => False
inductive ClsOk (X : Cx) : List ExceptHandler → List Cla → Prop
  | nil : ClsOk X [] []
  | cons {x : Str} {k : Cla} {nm : Option Str} {st : Stmt} {sts : List Stmt} {p1 p2 : Pos} {hs : List ExceptHandler} {ks : List Cla} (hc : Names X x k.c) (hn : NmOk X nm k.i)
      (su : ∀ (a : Addr) (oe : Obj) (cl : Value) (dc : Option Addr) (pn : List (Addr × Obj)), Zc cl dc oe → (∃ vs, oe.data = .fields vs) → PSs (X.suite a ((a, oe) :: pn)) (st :: sts) (k.ts a cl dc)) (r : ClsOk X hs ks) :
      ClsOk X (.ExceptHandler (some (.Name x p1)) nm (st :: sts) p2 :: hs) (k :: ks)
section
variable {X : Cx} {pins : List (Addr × Obj)} {τ : L2.St} {G : Hp} {s : Shared}
/-- a suite's end is the clause's -/
theorem sp_off {a : Addr} {q : Addr × Obj} {D : Ends} {f : Flow} (ok : X.Ok) (h : SP (X.suite a (q :: (X.pn ++ pins))) [] D f s) : SP X pins D f s := by
  cases f with
  | ret u => obtain ⟨v, τ2, G2, J, r, z⟩ := h; exact ⟨v, τ2, G2, J.unsuite ok, r, z⟩
  | next => obtain ⟨τ2, G2, J, z⟩ := h; exact ⟨τ2, G2, J.unsuite ok, z⟩
  | brk => obtain ⟨τ2, G2, J, z⟩ := h; exact ⟨τ2, G2, J.unsuite ok, z⟩
  | cont => obtain ⟨τ2, G2, J, z⟩ := h; exact ⟨τ2, G2, J.unsuite ok, z⟩
theorem sp_tr {D : Ends} {f : Flow} {xe : Value → Shared → Prop} (ok : X.Ok) (h : SP (X.tr (X.pn ++ pins) xe) [] D f s) : SP X pins D f s := by
  cases f with
  | ret u => obtain ⟨v, τ2, G2, J, r, z⟩ := h; exact ⟨v, τ2, G2, J.ofTry ok, r, z⟩
  | next => obtain ⟨τ2, G2, J, z⟩ := h; exact ⟨τ2, G2, J.ofTry ok, z⟩
  | brk => obtain ⟨τ2, G2, J, z⟩ := h; exact ⟨τ2, G2, J.ofTry ok, z⟩
  | cont => obtain ⟨τ2, G2, J, z⟩ := h; exact ⟨τ2, G2, J.ofTry ok, z⟩
/-- the object that flies is no frame's -/
theorem not_frame {B h : Heap} {a : Addr} {o : Obj} {vs : Array Value} {l : List PySem.Env} (ff : h.FunFrames B l) (e : h.get? a = some o) (dd : o.data = .fields vs) : a ∉ frs l := fun hm => by
  obtain ⟨_, o2, e2, hnf⟩ := ff.mem hm
  rw [e] at e2
  cases e2
  exact hnf _ dd
theorem ps_try_cls {body : List Stmt} {h₀ : ExceptHandler} {hds : List ExceptHandler} {l : List Cla} {pos : Pos} {tb : WX → TS} {out : WX} (hs : X.stack = X.env :: X.outer) (hf : X.env.frame = some X.env.locals) (nd : X.N.Nodup) (tk : Takes X out)
    (hb : ∀ (W : WX) (pn : List (Addr × Obj)) (xe : Value → Shared → Prop), Takes (X.tr pn xe) W → PassesOwn (model X.prog X.w) X.A X.env xe → PSs (X.tr pn xe) body (tb W)) (hh : ClsOk X (h₀ :: hds) l) :
    PS X (.Try body (h₀ :: hds) [] [] pos) (fun D τ G => tb (wCls X.K out D l) D τ G) := by
  refine ⟨fun pins s τ G D I h => ?_⟩
  have ok := I.ok
  refine wpAny_Try_except (wpAny_mono ((hb (wCls X.K out D l) (X.pn ++ pins) (fun e s₁ => wpAny (model X.prog X.w) X.A (noteFrame e X.env) (fun _ s₂ => wpAny (model X.prog X.w) X.A (setFlight e none) (fun _ s₃ =>
    wpAny (model X.prog X.w) X.A (handleBy e X.env (h₀ :: hds)) (SP X pins D) X.xe s₃) X.xe s₂) X.xe s₁) (fun u s2 fly => ?_) PassesOwn.looking).run [] s τ G D (I.toTry _) h) (fun f s1 sp => ?_) (fun e s1 he => he))
  · obtain ⟨a, B, sI, pins2, τ2, G2, cl, dc, rfl, J2, nb, up, sky, na, os, ag, want⟩ := fly
    have J : Inv X pins τ2 G2 sI := J2.ofTry ok
    have top : X.A.frames = some (X.env :: X.outer) := by rw [ok.frames, hs]
    have sky2 : Sky B (X.env :: X.outer) a (Zc cl dc) X.env.locals s2.heap := by rw [← hs]; exact sky
    show wpAny (model X.prog X.w) X.A (noteFrame (.ref a) X.env) _ _ _
    refine Sky.land Zc.steady top hf sky2 fun h3 fl3 up3 => ?_
    have J3 : Inv X pins τ2 G2 { s2 with heap := h3 } := J.landed nb fl3.1 (up.trans up3) os ag
    obtain ⟨oe3, vs3, he3, hz3, hd3⟩ := fl3.there
    have apart := not_frame fl3.2.2.1 he3 hd3
    have nL : a ≠ X.env.locals := fun z => apart (List.mem_filterMap.mpr ⟨X.env, List.mem_cons_self, by rw [hf, z]⟩)
    have nF : a ∉ X.fs := fun hm => let ⟨e, he, q⟩ := List.mem_filterMap.mp hm; apart (List.mem_filterMap.mpr ⟨e, List.mem_cons_of_mem _ he, q⟩)
    have S3 := J3.suite he3 hd3 na nL nF
    have LT : PySem.W.Looks (model X.prog X.w) h3 (typeOf (.ref a)) cl := fun A Q E s k q => wpAny_typeOf_ref (k _ _ he3) (by rw [hz3.1]; exact q)
    have along : ∀ {hs2 : List ExceptHandler} {l2 : List Cla}, ClsOk X hs2 l2 → wCls X.K out D l2 cl dc τ2 G2 →
        wpAny (model X.prog X.w) X.A (handleBy (.ref a) X.env hs2) (SP X pins D) X.xe { s2 with heap := h3 } := by
      intro hs2 l2 hk
      induction hk with
      | nil =>
        intro want
        obtain ⟨-, -, -, oe, vs, T, oT, ts', he, hz, hd, h1, hr⟩ := id fl3
        have fin : wpAny (model X.prog X.w) X.A (setFlight (.ref a) X.env.frame) (fun _ s4 => wpAny (model X.prog X.w) X.A (throw (.ref a) : PySem.Sem Flow) (SP X pins D) X.xe s4) X.xe { s2 with heap := h3 } := by
          rw [hf]
          exact HandSPX.setFlight_upZ fl3 fun h4 hh4 up4 => wpAny_throw (tk _ _ ⟨a, B, sI, pins, τ2, G2, cl, dc, rfl, J, nb, (up.trans up3).trans up4, .inr (.inr (by rw [hs]; exact hh4)), na, os, ag, want⟩)
        refine wpAny_handleBy_nil ?_
        unfold PySem.passOn
        refine wpAny_bind (wpAny_field he hd h1 ?_)
        rw [if_neg (by simp : ¬ ((Value.ref T == Value.none) = true))]
        first
          | exact wpAny_bind (wpAny_pure (wpAny_bind fin))
          | exact wpAny_bind fin
      | @cons x k nm st sts p1 p2 hs3 ks hc hn su r ih =>
        intro want
        obtain ⟨hit, he1, yes, no⟩ := want
        have LM := PySem.W.exm_one (M := model X.prog X.w) (J3.kIn) LT he1
        have test : ∀ {Q : Value → Shared → Prop} {E : Value → Shared → Prop}, Q k.c { s2 with heap := h3 } → wpAny (model X.prog X.w) (X.A.mark (some (.ref a))) (eval (.Name x p1) X.env) Q E { s2 with heap := h3 } := fun q => by
          obtain ⟨hg, hdbg, hm | ⟨hm, hv, hnn⟩⟩ := hc
          · exact ld_glob (X := X.suite a ((a, oe3) :: (X.pn ++ pins))) S3 hg hm q hdbg
          · exact ld_blt (X := X.suite a ((a, oe3) :: (X.pn ++ pins))) S3 hg hm hv q hnn hdbg
        refine wpAny_handleBy_cons (codeAny_handlers_test (test (LM.here ?_))) (by intro q; cases q)
        cases hit with
        | false => exact ih (no rfl)
        | true =>
          have land : ∀ {P : Heap → Prop}, (∀ h4 oe4, Inv (X.suite a ((a, oe4) :: (X.pn ++ pins))) [] τ2 G2 { s2 with heap := h4 } → Zc cl dc oe4 → (∃ vs, oe4.data = .fields vs) → P h4) → ∀ h4, HandSPX.FlyingZ B (X.env :: X.outer) a (Zc cl dc) h4 → h3.UpToSlots h4 → P h4 := fun hP h4 fl4 up4 => by
            have J4 : Inv X pins τ2 G2 { s2 with heap := h4 } := J.landed nb fl4.1 ((up.trans up3).trans up4) os ag
            obtain ⟨oe4, vs4, he4, hz4, hd4⟩ := fl4.there
            exact hP h4 oe4 (J4.suite he4 hd4 na nL nF) hz4 ⟨_, hd4⟩
          obtain ⟨c, o, ts⟩ := k
          cases nm with
          | none =>
            cases o with
            | some i => exact hn.elim
            | none =>
              refine codeAny_handlers_suite (HandSPX.lands_againZ fl3 (land fun h4 oe4 S4 z4 d4 => ?_))
              exact wpAny_mono ((su a oe4 cl dc (X.pn ++ pins) z4 d4).run [] _ _ G2 _ S4 (yes rfl a na)) (fun f s6 q => sp_off ok q) fun _ _ z => z.elim
          | some n =>
            cases o with
            | none => exact hn.elim
            | some i =>
              obtain ⟨hi, hl⟩ := hn
              refine codeAny_handlers_suite_as (HandSPX.lands_againZ fl3 (land fun h4 oe4 S4 z4 d4 => ?_))
              refine store_ok (X := X.suite a ((a, oe4) :: (X.pn ++ pins))) (v := .ref a) S4 nd hi (.inl hl) rfl (fun s5 S5 => ?_) (.inr hl)
              refine wpAny_mono ((su a oe4 cl dc (X.pn ++ pins) z4 d4).run [] s5 _ G2 _ S5 (yes rfl a na)) (fun f s6 q => ?_) fun _ _ z => z.elim
              have q2 := sp_off ok q
              cases f with
              | ret u => obtain ⟨v6, τ6, G6, J6, r6, z6⟩ := q2; exact gone_ok J6 nd hi hl fun s7 J7 => ⟨_, _, _, J7, r6, z6⟩
              | next => obtain ⟨τ6, G6, J6, z6⟩ := q2; exact gone_ok J6 nd hi hl fun s7 J7 => ⟨_, _, J7, z6⟩
              | brk => obtain ⟨τ6, G6, J6, z6⟩ := q2; exact gone_ok J6 nd hi hl fun s7 J7 => ⟨_, _, J7, z6⟩
              | cont => obtain ⟨τ6, G6, J6, z6⟩ := q2; exact gone_ok J6 nd hi hl fun s7 J7 => ⟨_, _, J7, z6⟩
    exact along hh want
  · have q := sp_tr ok sp
    cases f with
    | next => exact wpAny_execs_nil q
    | ret u => exact q
    | brk => exact q
    | cont => exact q
end
end FE
end
section
set_option Elab.async false
set_option linter.all false
set_option maxRecDepth 100000
/-! FeTry2: try statements, as the evaluator runs them. -/
namespace FE
open PySem PySem.Spec PyProof.Rows L2
section
variable (G : GM) (K : PySem.W.Frag)
/-- what a caught exception holds -/
def Held (c : Nat) (ws : List FE.W) (d : Option Addr) : Rho → Hp → Prop := fun ρ H =>
  (G.xf c = [] ∧ ws = [] ∧ d = none) ∨ ∃ dx vs, d = some dx ∧ H dx = some (.xd (((G.xf c).map G.fld).zip vs)) ∧ (∀ n, ρ n ≠ some dx) ∧ vs.length = (G.xf c).length ∧ RWs G K ρ H ws vs
variable {K}
/-- the wish in a suite: as outside; the exception's values are known -/
def ZH (Z : ZF K) (c : Nat) (ws : List FE.W) (d : Option Addr) : ZF K := ⟨Z.e, Held G K c ws d, fun ρ H ρ' H' e h => by
  rcases h with h | ⟨dx, vs, e1, e2, u, l, r⟩
  · exact .inl h
  · have ne : H dx ≠ none := by rw [e2]; exact fun z => nomatch z
    exact .inr ⟨dx, vs, e1, (e.keep dx ne u).trans e2, e.unseen ne u, l, r.mono e⟩⟩
/-- the clause's name is the exception's -/
def Got (a : Addr) : Option Nat → L2.St → Prop
  | none, _ => True
  | some i, σ => σ[i]? = some (some (.ref a))
end
/-- a reading under what is known of the slots -/
def PhE (φ : L2.St → Prop) (t : TE) : TE := fun σ H Q => φ σ ∧ t σ H Q
def PhA (φ : L2.St → Prop) (t : TA) : TA := fun σ H Q => φ σ ∧ t σ H Q
def PhS (φ : L2.St → Prop) (t : TS) : TS := fun D σ H => φ σ ∧ t D σ H
section
variable {G : GM} {K : PySem.W.Frag} {ρ : Rho} {H : Hp} {σ : L2.St} {e : FE.Env}
theorem nones_len : ∀ n, (nones n).length = n
  | 0 => rfl
  | n + 1 => by show (nones n).length + 1 = n + 1; rw [nones_len n]
theorem nones_get : ∀ n i, eget (nones n) i = none
  | 0, _ => rfl
  | n + 1, 0 => rfl
  | n + 1, i + 1 => nones_get n i
theorem RE.nones {n : Nat} (h : σ.length = n) : RE G K ρ H (nones n) σ := ⟨(nones_len n).trans h.symm, fun i w q => by rw [nones_get] at q; cases q⟩
theorem RE.unset {i : Nat} (r : RE G K ρ H e σ) : RE G K ρ H (eset e i none) (σ.set i none) := by
  refine ⟨by rw [eset_len, List.length_set]; exact r.len, fun j u q => ?_⟩
  rw [eget_eset] at q
  by_cases z : j = i ∧ i < e.length
  · rw [if_pos z] at q; cases q
  · rw [if_neg z] at q
    obtain ⟨v, q1, q2⟩ := r.val j u q
    refine ⟨v, ?_, q2⟩
    by_cases y : j = i
    · subst y
      have : ¬ j < e.length := fun l => z ⟨rfl, l⟩
      rw [r.len] at this
      rw [List.getElem?_eq_none (Nat.le_of_not_lt this)] at q1
      cases q1
    · rw [List.getElem?_set_ne (Ne.symm y)]; exact q1
theorem FinE.out {k : KE} {P : L2.St → Hp → Prop} (f : FinE G K ρ H k P) (i : Nat) : FinE G K ρ H (fun σ h => k (eset σ i none) h) (fun σ H => P (σ.set i none) H) := fun e' h' σ' H' ρ' r x n => f _ h' _ H' ρ' r x ⟨n.rh, n.re.unset⟩
end
section
variable {X : Cx} {G : GM} {Z : ZF X.K}
theorem takes_all {out : WX} (t : Takes X out) : Takes X (fun cl dc _ H => ∀ σ : L2.St, σ.length = X.N.length → out cl dc σ H) := fun u s2 ⟨a, B, sI, pins, σ, H, cl, dc, e, I, nb, up, sky, na, os, ag, w⟩ => t u s2 ⟨a, B, sI, pins, σ, H, cl, dc, e, I, nb, up, sky, na, os, ag, w σ I.len⟩
/-- the clauses are what the combinator says -/
inductive HdOk (X : Cx) (G : GM) (Z : ZF X.K) : List ExceptHandler → Hnd → Prop
  | nil : HdOk X G Z [] hNil
  | cons {x : Str} {c : Nat} {C : Addr} {nm : Option Str} {o : Option Nat} {st : Stmt} {sts : List Stmt} {b : List FE.W → Stm} {p1 p2 : Pos} {hds : List ExceptHandler} {r : Hnd} (hc : Names X x (.ref C)) (gc : G.ca c = some C)
      (hE : ∀ c' D, G.ca c' = some D → PySem.W.exmOne X.K (.ref D) (.ref C) = some (Nat.beq c c')) (hn : NmOk X nm o)
      (su : ∀ (ws : List FE.W) (a : Addr) (oe : Obj) (d : Option Addr) (pn : List (Addr × Obj)), Zc (.ref C) d oe → (∃ vs, oe.data = .fields vs) → PSs (X.suite a ((a, oe) :: pn)) (st :: sts) (PhS (Got a o) (EvS G X.K (ZH G Z c ws d) (b ws)))) (hr : HdOk X G Z hds r) :
      HdOk X G Z (.ExceptHandler (some (.Name x p1)) nm (st :: sts) p2 :: hds) (hOn c o b r)
theorem hd_cls {hds : List ExceptHandler} {hs : Hnd} (h : HdOk X G Z hds hs) : ∃ l, ClsOk X hds l ∧ ∀ (D : Ends) (k : Ks4) (ρ : Rho) (H : Hp), Wants G X.K ρ H k D Z → ∀ c ws h' cl dc H' ρ', hs c ws (nones X.N.length) h' k.nx k.rt k.bk k.ct k.ex = true →
    Ext X.K ρ H ρ' H' → RH G X.K ρ' h' H' → ExR G X.K ρ' H' c ws cl dc → ∀ σ : L2.St, σ.length = X.N.length → wCls X.K (fun cl dc _ H => Z.e cl dc H) D l cl dc σ H' := by
  induction h with
  | nil => exact ⟨[], .nil, fun D k ρ H w c ws h' cl dc H' ρ' run x R er σ l => w.ex.to c ws h' cl dc H' ρ' run x R er⟩
  | @cons x c C nm o st sts b p1 p2 hds r hc gc hE hn su hr ih =>
    obtain ⟨l, ok, ih⟩ := ih
    refine ⟨⟨.ref C, o, fun a cl dc D σ H => ∃ ws, cl = .ref C ∧ PhS (Got a o) (EvS G X.K (ZH G Z c ws dc) (b ws)) D σ H⟩ :: l, .cons hc hn (fun a oe cl dc pn hz hd => ⟨fun pins s σ H D I ⟨ws, e, ev⟩ => ?_⟩) ok, ?_⟩
    · subst e
      exact (su ws a oe dc pn hz hd).run pins s σ H D I ev
    · intro D k ρ H w c' ws h' cl dc H' ρ' run t R er σ len
      obtain ⟨C', gc', ecl, held⟩ := er
      have run : (match Nat.beq c c' with | true => b ws (nones X.N.length) h' (outE o k.nx) k.rt (outE o k.bk) (outE o k.ct) k.ex | false => r c' ws (nones X.N.length) h' k.nx k.rt k.bk k.ct k.ex) = true := run
      refine ⟨Nat.beq c c', by rw [ecl]; exact hE c' C' gc', fun hit a na => ?_, fun no => ?_⟩
      · rw [hit] at run
        have e : c = c' := Nat.eq_of_beq_eq_true hit
        subst e
        rw [gc] at gc'; cases gc'
        have w1 := w.mono t
        have run : b ws (nones X.N.length) h' (outE o k.nx) k.rt (outE o k.bk) (outE o k.ct) k.ex = true := run
        refine ⟨ws, ecl, ?_, ρ', nones X.N.length, h', ⟨outE o k.nx, k.rt, outE o k.bk, outE o k.ct, k.ex⟩, ⟨R, RE.nones ?_⟩, run, ?_⟩
        · cases o with
          | none => trivial
          | some i =>
            have hi : i < X.N.length := by
              cases nm with
              | none => exact hn.elim
              | some n => exact (List.getElem?_eq_some_iff.mp hn.1).1
            show (σ.set i (some (.ref a)))[i]? = _
            rw [List.getElem?_set_self (by rw [len]; exact hi)]
        · cases o with
          | none => exact len
          | some i => show (σ.set i _).length = _; rw [List.length_set]; exact len
        · have fx : FinX G ρ' H' k.ex (ZH G Z c ws dc) := ⟨w1.ex.to, held⟩
          cases o with
          | none => exact ⟨w1.nx, w1.rt, w1.bk, w1.ct, fx⟩
          | some i => exact ⟨w1.nx.out i, w1.rt, w1.bk.out i, w1.ct.out i, fx⟩
      · rw [no] at run
        exact ih D k ρ H w c' ws h' cl dc H' ρ' run t R ⟨C', gc', ecl, held⟩ σ len
theorem es_try {body : List Stmt} {h₀ : ExceptHandler} {hds : List ExceptHandler} {pos : Pos} {sb : Stm} {hs : Hnd} {n : Nat} (hn : X.N.length = n) (ht : X.stack = X.env :: X.outer) (hf : X.env.frame = some X.env.locals) (nd : X.N.Nodup) (tk : Takes X (fun cl dc _ H => Z.e cl dc H))
    (hb : ∀ (E : XK) (pn : List (Addr × Obj)) (xe : Value → Shared → Prop), Takes (X.tr pn xe) (fun cl dc _ H => E cl dc H) → PassesOwn (model X.prog X.w) X.A X.env xe → PSs (X.tr pn xe) body (EvS G X.K (ZE X.K E) sb)) (hh : HdOk X G Z (h₀ :: hds) hs) :
    PS X (.Try body (h₀ :: hds) [] [] pos) (EvS G X.K Z (sTry n sb hs)) := by
  subst hn
  obtain ⟨l, ok, all⟩ := hd_cls hh
  refine (ps_try_cls (tb := fun W => EvS G X.K (ZE X.K fun cl dc H => ∀ σ : L2.St, σ.length = X.N.length → W cl dc σ H) sb) ht hf nd tk (fun W pn xe tw hp => hb _ pn xe (takes_all tw) hp) ok).imp fun D σ H ⟨ρ, e, h, k, n, run, w⟩ => ?_
  exact ⟨ρ, e, h, ⟨k.nx, k.rt, k.bk, k.ct, fun c ws h => hs c ws (nones X.N.length) h k.nx k.rt k.bk k.ct k.ex⟩, n, run, w.nx, w.rt, w.bk, w.ct, fun c ws h' cl dc H' ρ' r t R er => all D k ρ H w c ws h' cl dc H' ρ' r t R er, trivial⟩
end
/-! ### in a suite -/
section
variable {X : Cx} {G : GM} {Z : ZF X.K} {φ : L2.St → Prop} {a : Expr} {es : List Expr} {pos : Pos} {sa : Sem} {sl : Slt} {s1 s2 : Stm} {st : Stmt} {sts : List Stmt} {t : TE} {u : TS}
theorem ph_e (h : PE X a t) : PE X a (PhE φ t) := h.imp fun _ _ _ ⟨_, q⟩ => q
theorem ph_s (h : PS X st u) : PS X st (PhS φ u) := h.imp fun _ _ _ ⟨_, q⟩ => q
theorem ph_ss (h : PSs X sts u) : PSs X sts (PhS φ u) := h.imp fun _ _ _ ⟨_, q⟩ => q
theorem pha_nil : PA X [] (PhA φ (EvA G X.K Z aNil)) := ea_nil.imp fun _ _ _ ⟨_, q⟩ => q
theorem pha_one (ha : PE X a (PhE φ (EvE G X.K Z sa))) (hr : PA X es (PhA φ (EvA G X.K Z sl))) (hs : starEach (a :: es) X.env = (false, eval a X.env) :: starEach es X.env := by rfl) : PA X (a :: es) (PhA φ (EvA G X.K Z (aOne sa sl))) :=
  (pa_cons ha hr hs).imp fun σ H Q ⟨f, ρ, e, h, kx, k, n, run, fin, fx⟩ => by
    have run : sa e h kx (fun w h => sl e h kx fun ws h => k (w :: ws) h) = true := run
    refine ⟨f, EvE.then n run fx fun x h1 v H1 ρ1 t1 n1 r1 run1 fx1 => ⟨f, ?_⟩⟩
    refine EvA.then n1 run1 fx1 fun ws h2 vs H2 ρ2 t2 n2 r2 run2 fx2 => ?_
    exact fin _ h2 _ H2 ρ2 run2 (t1.trans t2) n2.rh (.cons (r1.mono t2) r2)
theorem ph_tup {x1} (h : PA X es (PhA φ (EvA G X.K Z sl))) : PE X (.Tuple es x1 pos) (PhE φ (EvE G X.K Z (cTup sl))) :=
  (pe_tupP h).imp fun σ H Q ⟨f, ρ, e, h, kx, k, n, run, fin, fx⟩ => by
    have run : sl e h kx (fun ws h => tupK ws h k) = true := run
    refine ⟨f, EvA.then n run fx fun ws h1 vs H1 ρ1 t1 n1 r1 run1 _ => ?_⟩
    obtain ⟨sm, run1⟩ := tupK_inv run1
    exact ⟨by rw [← r1.length]; exact sm, fun p ob hn d => tup_fin n1.rh hn r1 run1 (fin.mono t1) d⟩
theorem ph_lst (h : PA X es (PhA φ (EvA G X.K Z sl))) : PE X (.List es pos) (PhE φ (EvE G X.K Z (cLst sl))) :=
  (pe_lst h).imp fun σ H Q ⟨f, ρ, e, h, kx, k, n, run, fin, fx⟩ => by
    have run : sl e h kx (fun ws h => newK h (.lst ws) k) = true := run
    refine ⟨f, EvA.then n run fx fun ws h1 vs H1 ρ1 t1 n1 r1 run1 _ => ?_⟩
    obtain ⟨sm, _, _⟩ := newK_inv run1
    exact ⟨by rw [← r1.length]; exact okO_lst sm, fun p hn => new_lst n1.rh hn r1 run1 (fin.mono t1)⟩
theorem ph_ret (he : PE X a (PhE φ (EvE G X.K Z sa))) : PS X (.Return (some a) pos) (PhS φ (EvS G X.K Z (sRet sa))) :=
  (ps_ret he).imp fun D σ H ⟨f, ρ, e, h, k, n, run, w⟩ => ⟨f, ρ, e, h, k.ex, k.rt, n, run, w.rt, w.ex⟩
theorem ph_asg {tge : Expr} {tg : Stg} (he : PE X a (PhE φ (EvE G X.K Z sa))) (hg : PG X tge (EvG G X.K Z tg)) (hs : swapsWithSole [tge] a pos.line X.env = pure false := by rfl) (hw : swappedStores [tge] a X.env = pure none := by rfl)
    (h1 : (assignEach [tge] X.env).map (·.2) = [assign tge X.env] := by rfl) : PS X (.Assign [tge] a pos) (PhS φ (EvS G X.K Z (sAsg tg sa))) :=
  (ps_asg he hg hs hw h1).imp fun D σ H ⟨f, ρ, e, h, k, n, run, w⟩ => by
    have run : sa e h k.ex (fun v h => tg v e h k.ex k.nx) = true := run
    exact ⟨f, EvE.then n run w.ex fun x h1 v H1 ρ1 t1 n1 r1 run1 fx1 => ⟨ρ1, e, h1, x, _, _, n1, r1, run1, w.nx.mono t1, fx1⟩⟩
theorem phs_cons (h1 : PS X st (PhS φ (EvS G X.K Z s1))) (h2 : PSs X sts (EvS G X.K Z s2)) : PSs X (st :: sts) (PhS φ (EvS G X.K Z (bCons s1 s2))) :=
  (pss_cons h1 h2).imp fun D σ H ⟨f, ρ, e, h, k, n, run, w⟩ =>
    ⟨f, ρ, e, h, ⟨fun e h => s2 e h k.nx k.rt k.bk k.ct k.ex, k.rt, k.bk, k.ct, k.ex⟩, n, run, ⟨fun e' h' σ' H' ρ' r x y => ⟨ρ', e', h', k, y, r, w.mono x⟩, w.rt, w.bk, w.ct, w.ex⟩⟩
end
end FE
end
section
set_option Elab.async false
set_option linter.all false
set_option maxRecDepth 100000
/-! FeTry3: what a suite asks of the exception; raise. -/
namespace FE
open PySem PySem.Spec PyProof.Rows L2
section
variable {X : Cx} {G : GM} {Z : ZF X.K} {a C : Addr} {oe : Obj} {d : Option Addr} {pn : List (Addr × Obj)} {c i : Nat} {ws : List FE.W} {n m : Str} {p pos : Pos}
/-- caught.field, the only field -/
theorem ph_xf {f0 : Nat} (T : XfC X.K C) (gc : G.ca c = some C) (gx : G.xf c = [f0]) (gf : G.fld f0 = n) (hno : PySem.W.findIn X.K (.ref C) n = some none) (hz : Zc (.ref C) d oe) (hf : ∃ vs, oe.data = .fields vs)
    (hN : X.N[i]? = some m) (hv : Vis X.env.scope m) (hd : (m == ("__debug__" : Str)) = false := by decide) (hcd : (m == ("__classdict__" : Str)) = false := by decide)
    (hb : attributeBase (.Name m p) n X.env (eval (.Name m p) X.env) = eval (.Name m p) X.env := by rfl) :
    PE (X.suite a ((a, oe) :: pn)) (.Attribute (.Name m p) n pos) (PhE (Got a (some i)) (EvE G X.K (ZH G Z c ws d) (cXf ws 0))) :=
  (pe_xf T hno hz hf (pe_var (X := X.suite a ((a, oe) :: pn)) hN hv hd hcd) hb).imp fun σ H Q ⟨got, ρ, e, h, kx, k, n0, run, fin, fx⟩ => by
    have run : opt 220 (nthW ws 0) (fun w => k w h) = true := run
    obtain ⟨w, e1, run⟩ := opt_inv run
    refine ⟨.ref a, got, rfl, rfl, ?_⟩
    rcases fx.F with ⟨z, _, _⟩ | ⟨dx, vs, ed, eH, un, len, r⟩
    · rw [gx] at z; cases z
    · cases r with
      | nil => cases e1
      | @cons w' v ws' vs' r1 r2 =>
        cases e1
        refine ⟨dx, _, v, ed, eH, ?_, fin w h v H ρ run .refl n0.rh r1⟩
        rw [gx]
        show List.lookup n [(G.fld f0, v)] = some v
        rw [gf]
        simp [List.lookup]
/-- what a class must say, so that isinstance asks its instances rightly -/
structure IsC (K : PySem.W.Frag) (D : Addr) : Prop where
  cl : (PySem.W.clsIn K D).isSome = true
  ga : PySem.W.findIn K (.ref D) "__getattribute__" = some (some (.builtin "BaseException.__getattribute__"))
  gg : PySem.W.findIn K (.ref D) "__getattr__" = some none
  ex : PySem.W.subIn K (.ref D) (.type "BaseException") = some true
  ca : PySem.W.findIn K (.ref D) "__class__" = some (some (.builtin "object.__class__"))
  gs : PySem.W.specialIn K (.builtin "object.__class__") "__get__" = some (some (.builtin "getset_descriptor.__get__"))
  tk : PySem.W.takesIn K (.builtin "object.__class__") = some true
  ob : PySem.W.mroIn K D (.type "object") = some true
/-- the object of an exception that is held -/
theorem inst_held {H : Hp} {ρ : Rho} {s : Shared} {pins : List (Addr × Obj)} {σ : L2.St} (I : Inv (X.suite a ((a, oe) :: pn)) pins σ H s) (hz : Zc (.ref C) d oe) (hf : ∃ vs, oe.data = .fields vs) (hh : Held G X.K c ws d ρ H) : ∃ od, PySem.W.InstAt s.heap a oe C od := by
  obtain ⟨hget, _⟩ := I.pin (a, oe) (List.mem_append_left _ List.mem_cons_self)
  obtain ⟨vs, hv⟩ := hf
  obtain ⟨oc, od, oda, osl⟩ := oe
  obtain ⟨h1, h2⟩ := hz
  dsimp only at h1 h2 hv
  subst h1 h2 hv
  rcases hh with ⟨_, _, e⟩ | ⟨dx, vs', ed, eH, _, _, _⟩
  · subst e
    exact ⟨none, hget, rfl, rfl, trivial⟩
  · subst ed
    have hx : ObjOk X.prog X.w H s.heap dx (.xd _) := I.hok dx _ eH
    obtain ⟨mA, ⟨od', es, ep, e, cc⟩, r⟩ := hx
    exact ⟨some od', hget, rfl, rfl, e⟩
/-- isinstance(caught, T), T one class -/
theorem ph_is1 {ce : Expr} {cv : V} {cu : Value} {b : Bool} (T : IsC X.K C) (hz : Zc (.ref C) d oe) (hf : ∃ vs, oe.data = .fields vs) (hg : Gl X "isinstance") (hm : X.mg "isinstance" = none)
    (hN : X.N[i]? = some m) (hv : Vis X.env.scope m) (hc : PE (X.suite a ((a, oe) :: pn)) ce (tC cv)) (hcu : ∀ u, RelV cv u → u = cu) (hk : PySem.W.kitOne X.K (.ref C) cu = some b) (hd : (m == ("__debug__" : Str)) = false := by decide) (hcd : (m == ("__classdict__" : Str)) = false := by decide)
    (hs : starEach (.Name m p :: [ce]) X.env = (false, eval (.Name m p) X.env) :: starEach [ce] X.env := by rfl) (hs2 : starEach (ce :: []) X.env = (false, eval ce X.env) :: starEach [] X.env := by rfl) (hpl : (backTo pos (starEach [ce] X.env)).any (·.1) = false := by rfl) {p2 : Pos} :
    PE (X.suite a ((a, oe) :: pn)) (.Call (.Name "isinstance" p2) [.Name m p, ce] [] pos) (PhE (Got a (some i)) (EvE G X.K (ZH G Z c ws d) (cCon (.bl b)))) := by
  have call : CallR (X.suite a ((a, oe) :: pn)) (.builtin "isinstance") (fun xs H Q => xs = [.ref a, cv] ∧ (∃ ρ, Held G X.K c ws d ρ H) ∧ Q (.bl b) H) := by
    intro pins s σ H xs us Q I r ⟨ex, ⟨ρ, hh⟩, q⟩
    subst ex
    cases r with
    | cons rx rr =>
      cases rr with
      | cons rt rr =>
        cases rr
        cases rx
        have ec := hcu _ rt
        subst ec
        obtain ⟨od, J⟩ := inst_held I hz hf hh
        exact PySem.W.kia_one (PySem.W.kitx_exc T.cl T.ga T.gg T.ex T.ca T.gs T.tk T.ob) I.kIn J hk (fun z => nomatch z) fun tk => ⟨.bl b, H, I.kept (t' := tk) fun _ _ z => z, rfl, q⟩
  exact (pe_callB (X := X.suite a ((a, oe) :: pn)) call hg hm (by rfl) (pa_cons (X := X.suite a ((a, oe) :: pn)) (pe_var (X := X.suite a ((a, oe) :: pn)) hN hv hd hcd) (pa_cons (X := X.suite a ((a, oe) :: pn)) hc pa_nil hs2) hs) (by decide) (by decide) hs hpl).imp fun σ H Q ⟨got, ρ, e, h, kx, k, n0, run, fin, fx⟩ =>
    ⟨.ref a, got, rfl, ⟨ρ, fx.F⟩, fin (.bl b) h (.bl b) H ρ run .refl n0.rh (.bl b)⟩
/-- C(), an own class without an own __init__ -/
theorem pmk_own0 {bmB : List Value} {B newId initId : String} {x : Str} (F : ExcBaseFacts B newId initId bmB) (q : PySem.W.excIn X.K C bmB newId = true) (gC : X.mg x = some (.ref C)) (kC : PySem.W.keepIn X.K (.ref C) = true) (r : Raises X (.ref C)) (hg : Gl X x)
    (hdb : (x == ("__debug__" : Str)) = false := by decide) : PMk X (.Call (.Name x p) [] [] pos) (fun _ H Q => Q (.ref C) none H) := by
  intro pins s σ H Q I h
  refine wpAny_Call_Name_kw (ld_glob I hg gC ?_ hdb)
  refine PySem.W.callWith_K0 I.kIn kC ?_
  obtain ⟨bm, N, nm, qn, bs, hdct, sn, sub, ab, col, dd, k0, k1, k2, k3, k5, mN, hC, hN, hni, T⟩ := exc_obj I.kIn q
  exact wpAny_call_exc_subT F T hC hN hni (fun h' e hm => mk_of I hm r h (I.hok.gone hm.new)) (Nat.zero_le _)
theorem es_raise0 {e : Expr} (hc : X.calm = true) (tk : Takes X (fun cl dc _ H => Z.e cl dc H)) (gc : G.ca c = some C) (gx : G.xf c = []) (he : PMk X e (fun _ H Q => Q (.ref C) none H)) : PS X (.Raise (some e) none pos) (EvS G X.K Z (sRaise c aNil)) :=
  (ps_raise hc tk he).imp fun D σ H ⟨ρ, e, h, k, n, run, w⟩ => w.ex.to c [] h _ _ H ρ run .refl n.rh ⟨C, gc, rfl, .inl ⟨gx, rfl, rfl⟩⟩
end
end FE
end
section
set_option Elab.async false
set_option linter.all false
set_option maxRecDepth 100000
/-! FeTry4: isinstance(caught, (A, B)); and, not in suites. -/
namespace FE
open PySem PySem.Spec PyProof.Rows L2
section
variable {X : Cx} {G : GM} {Z : ZF X.K} {φ : L2.St → Prop} {e b c : Expr} {es : List Expr} {pos : Pos} {sa sb : Sem} {rest : List Expr}
theorem ph_not (ha : PE X e (PhE φ (EvE G X.K Z sa))) : PE X (.UnaryOp .Not e pos) (PhE φ (EvE G X.K Z (cNot sa))) :=
  (pe_notT ha).imp fun σ H Q ⟨f, ρ, en, h, kx, k, n, run, fin, fx⟩ => by
    have run : sa en h kx (fun x h => opt 71 (truthy h x) fun b => k (.bl (!b)) h) = true := run
    refine ⟨f, EvE.then n run fx fun x h1 v H1 ρ1 t1 n1 r1 run1 fx1 => ?_⟩
    obtain ⟨b, e1, run1⟩ := opt_inv run1
    exact ⟨b, tru_at n1.rh r1 e1, fin_bl' n1.rh (fin.mono t1) run1⟩
theorem ph_and (ha : PE X e (PhE φ (EvE G X.K Z sa))) (hb : PE X (.BoolOp .And (b :: rest) pos) (PhE φ (EvE G X.K Z sb))) : PE X (.BoolOp .And (e :: b :: rest) pos) (PhE φ (EvE G X.K Z (cAnd sa sb))) :=
  (pe_andT ha hb).imp fun σ H Q ⟨f, ρ, en, h, kx, k, n, run, fin, fx⟩ => by
    have run : sa en h kx (fun x h => opt 74 (truthy h x) fun t => match t with | true => sb en h kx k | false => k x h) = true := run
    refine ⟨f, EvE.then n run fx fun x h1 v H1 ρ1 t1 n1 r1 run1 fx1 => ?_⟩
    obtain ⟨b, e1, run1⟩ := opt_inv run1
    refine ⟨b, tru_at n1.rh r1 e1, ?_⟩
    cases b with
    | true => exact ⟨f, ρ1, en, h1, kx, k, n1, run1, fin.mono t1, fx1⟩
    | false => exact fin x h1 v H1 ρ1 run1 t1 n1.rh r1
theorem ph_bool1 {op : BoolOp} (ha : PE X e (PhE φ (EvE G X.K Z sa))) : PE X (.BoolOp op [e] pos) (PhE φ (EvE G X.K Z sa)) := pe_one ha
theorem pac_nil : PA X [] (fun _ H Q => Q [] H) := pa_nil
theorem pac_cons {v : V} {vs : List V} (h : PE X e (tC v)) (r : PA X es (fun _ H Q => Q vs H)) (hs : starEach (e :: es) X.env = (false, eval e X.env) :: starEach es X.env := by rfl) : PA X (e :: es) (fun _ H Q => Q (v :: vs) H) := pa_cons h r hs
end
section
variable {X : Cx} {G : GM} {Z : ZF X.K} {a C : Addr} {oe : Obj} {d : Option Addr} {pn : List (Addr × Obj)} {c i : Nat} {ws : List FE.W} {m : Str} {p pos : Pos}
theorem refs_vals : ∀ {cs : List Addr} {us : List Value}, Vals (cs.map V.ref) us → us = cs.map Value.ref
  | [], _, .nil => rfl
  | c :: cs, _, .cons r rs => by
    cases r
    rw [refs_vals rs] <;> rfl
/-- isinstance(caught, (A, ..)), own classes -/
theorem ph_isN {ts : List Expr} {x1} {tpos : Pos} {cs : List Addr} {b : Bool} (T : IsC X.K C) (hz : Zc (.ref C) d oe) (hf : ∃ vs, oe.data = .fields vs) (hg : Gl X "isinstance") (hm : X.mg "isinstance" = none)
    (hN : X.N[i]? = some m) (hv : Vis X.env.scope m) (hc : PA (X.suite a ((a, oe) :: pn)) ts (fun _ H Q => Q (cs.map V.ref) H)) (hk : PySem.W.kitAny X.K (.ref C) (cs.map Value.ref) = some b) (hl : cs.length ≤ 1000) (hd : (m == ("__debug__" : Str)) = false := by decide) (hcd : (m == ("__classdict__" : Str)) = false := by decide)
    (hs : starEach (.Name m p :: [.Tuple ts x1 tpos]) X.env = (false, eval (.Name m p) X.env) :: starEach [.Tuple ts x1 tpos] X.env := by rfl) (hs2 : starEach (.Tuple ts x1 tpos :: []) X.env = (false, eval (.Tuple ts x1 tpos) X.env) :: starEach [] X.env := by rfl) (hpl : (backTo pos (starEach [.Tuple ts x1 tpos] X.env)).any (·.1) = false := by rfl) {p2 : Pos} :
    PE (X.suite a ((a, oe) :: pn)) (.Call (.Name "isinstance" p2) [.Name m p, .Tuple ts x1 tpos] [] pos) (PhE (Got a (some i)) (EvE G X.K (ZH G Z c ws d) (cCon (.bl b)))) := by
  have call : CallR (X.suite a ((a, oe) :: pn)) (.builtin "isinstance") (fun xs H Q => ∃ t, xs = [.ref a, .ref t] ∧ H t = some (.tup (cs.map V.ref)) ∧ (∃ ρ, Held G X.K c ws d ρ H) ∧ Q (.bl b) H) := by
    intro pins s σ H xs us Q I r ⟨t, ex, ht, ⟨ρ, hh⟩, q⟩
    subst ex
    cases r with
    | cons rx rr =>
      cases rr with
      | cons rt rr =>
        cases rr
        cases rx
        cases rt
        obtain ⟨od, J⟩ := inst_held I hz hf hh
        obtain ⟨_, its, rv, o, h1, h2, n, h3⟩ := (show ObjOk X.prog X.w H s.heap t (.tup (cs.map V.ref)) from I.hok t _ ht)
        have e3 := refs_vals rv
        subst e3
        obtain ⟨oc, od2, dt, sl⟩ := o
        simp only at h2 h3
        subst h2 h3
        exact PySem.W.kia_tup (PySem.W.kitx_exc T.cl T.ga T.gg T.ex T.ca T.gs T.tk T.ob) I.kIn J h1 hk (fun z => nomatch z) fun tk => ⟨.bl b, H, I.kept (t' := tk) fun _ _ z => z, rfl, q⟩
  refine (pe_callB (X := X.suite a ((a, oe) :: pn)) call hg hm (by rfl) (pa_cons (X := X.suite a ((a, oe) :: pn)) (pe_var (X := X.suite a ((a, oe) :: pn)) hN hv hd hcd) (pa_cons (X := X.suite a ((a, oe) :: pn)) (pe_tup hc) pa_nil hs2) hs) (by decide) (by decide) hs hpl).imp fun σ H Q ⟨got, ρ, e, h, kx, k, n0, run, fin, fx⟩ =>
    ⟨.ref a, got, ?_⟩
  refine ⟨by rw [List.length_map, sizeLine_eq]; omega, fun t hn => ?_⟩
  obtain ⟨ex, R2⟩ := n0.rh.tup (xs := cs.map V.ref) hn
  exact ⟨t, rfl, upd_same, ⟨ρ, (fx.mono ex).F⟩, fin (.bl b) h (.bl b) _ ρ run ex R2 (.bl b)⟩
end
end FE
end
section
set_option Elab.async false
set_option linter.all false
set_option maxRecDepth 100000
/-! FeDc: dicts made, dict comprehensions. -/
namespace FE
open PySem PySem.Spec PyProof.Rows L2
open PySem.SeqAt
section
variable {G : GM} {K : PySem.W.Frag} {ρ : Rho} {H : Hp} {h : FE.H}
theorem Ks.snoc {k v : FE.W} {kk : Key} {vv : V} (rk : KeyR k kk) (rv : RW G K ρ H v vv) : ∀ {kvs : List (FE.W × FE.W)} {ks : List (Key × V)}, Ks G K ρ H kvs ks → Ks G K ρ H (kvs ++ [(k, v)]) (ks ++ [(kk, vv)])
  | _, _, .nil => .cons rk rv .nil
  | _, _, .cons a b r => .cons a b (Ks.snoc rk rv r)
theorem drepl_ok {k v : FE.W} {kk : Key} {vv : V} (rk : KeyR k kk) (rv : RW G K ρ H v vv) {kvs : List (FE.W × FE.W)} {ks : List (Key × V)} (r : Ks G K ρ H kvs ks) : ∀ {l : List (FE.W × FE.W)}, drepl (eqW h DEEP) k v kvs = some l → Ks G K ρ H l (ks.map fun kv => if kv.1 = kk then (kv.1, vv) else kv) := by
  induction r with
  | nil => intro l e; cases e; exact .nil
  | @cons a u a' u' kvs ks ra ru _ ih =>
    intro l e
    unfold drepl at e
    rw [key_eq ra rk] at e
    simp only at e
    split at e
    · next r' q =>
      cases e
      rw [List.map_cons]
      by_cases z : a' = kk
      · simp only [z, decide_true, if_true]
        exact .cons (z ▸ ra) rv (ih q)
      · simp only [z, decide_false, if_false]
        exact .cons ra ru (ih q)
    · cases e
theorem dput_ok {k v : FE.W} {kk : Key} {vv : V} (rk : KeyR k kk) (rv : RW G K ρ H v vv) {kvs : List (FE.W × FE.W)} {ks : List (Key × V)} (r : Ks G K ρ H kvs ks) {l : List (FE.W × FE.W)} (e : dput (eqW h DEEP) k v kvs = some l) : Ks G K ρ H l (L2.putK ks kk vv) := by
  have get : ∀ {o : Option FE.W}, dget (eqW h DEEP) k kvs = some o → o.isSome = (valV ks kk).isSome := by
    clear e
    induction r with
    | nil => intro o e; cases e; rfl
    | @cons a u a' u' kvs ks ra ru _ ih =>
      intro o e
      unfold dget at e
      rw [key_eq ra rk] at e
      by_cases z : a' = kk
      · simp only [z, decide_true] at e
        cases e
        rw [valV_pos z]; rfl
      · simp only [z, decide_false] at e
        rw [valV_neg (p := (a', u')) z]
        exact ih e
  unfold L2.putK
  rw [valV_any]
  unfold dput at e
  split at e
  · next w q => rw [← get q, if_pos (show (some w).isSome = true from rfl)]; exact drepl_ok rk rv r e
  · next q => rw [← get q, if_neg (show ¬ ((none : Option FE.W).isSome = true) from Bool.false_ne_true)]; cases e; exact r.snoc rk rv
  · cases e
end
section
variable {X : Cx} {G : GM} {Z : ZF X.K} {a b c o : Expr} {es : List Expr} {pos : Pos} {sg : Stg} {vs : List Nat}
theorem dputH_ok {ρ : Rho} {H : Hp} {h : FE.H} {k v : FE.W} {x vv : V} {kvs l : List (FE.W × FE.W)} {ks : List (Key × V)} (rk : RW G X.K ρ H k x) (rv : RW G X.K ρ H v vv) (r : Ks G X.K ρ H kvs ks) (e : dputH h k v kvs = some l) : ∃ kk, x = kV kk ∧ Ks G X.K ρ H l (L2.putK ks kk vv) := by
  unfold dputH at e
  split at e
  · next ik =>
    obtain ⟨kk, kr, rfl⟩ := isKey_of ik rk
    exact ⟨kk, rfl, dput_ok kr rv r e⟩
  · cases e
theorem okO_dct {kvs : List (FE.W × FE.W)} (e : okO (.dct kvs) = true) : kvs.length ≤ sizeLine := Nat.le_of_ble_eq_true e
theorem see_dct {ρ : Rho} {H : Hp} {h : FE.H} {p : Addr} {kvs : List (FE.W × FE.W)} {ks : List (Key × V)} (R : RH G X.K ρ h H) (u : ∀ n, ρ n ≠ some p) (e : H p = some (.dK ks)) (r : Ks G X.K ρ H kvs ks) (hm : h.n < MOST) :
    ∃ ρ', ρ' h.n = some p ∧ (∀ n a, ρ n = some a → ρ' n = some a) ∧ (∀ n a, ρ' n = some a → ρ n = some a ∨ a = p) ∧ RH G X.K ρ' ⟨Nat.succ h.n, T.put (.dct kvs) 40 h.t h.n⟩ H := by
  have old : ∀ n a, ρ n = some a → (if n = h.n then some p else ρ n) = some a := fun n a q => by
    have : n ≠ h.n := fun z => by rw [z, (R.top h.n (Nat.le_refl _)).1] at q; cases q
    simp [this, q]
  have e0 : Ext0 X.K ρ H (fun n => if n = h.n then some p else ρ n) H := ⟨⟨old, fun _ _ z => z, fun _ _ z => z⟩, fun _ _ _ z => z⟩
  refine ⟨fun n => if n = h.n then some p else ρ n, by simp, old, fun n a q => ?_, ?_⟩
  · by_cases z : n = h.n
    · simp only [z, if_true] at q; cases q; exact .inr rfl
    · simp only [z, if_false] at q; exact .inl q
  · constructor
    · intro n w' q
      rw [get_new hm] at q
      by_cases z : n = h.n
      · rw [if_pos z] at q
        cases q
        exact ⟨p, by simp [z], ks, e, r.mono0 e0⟩
      · rw [if_neg z] at q
        obtain ⟨a, q', t⟩ := R.obj n w' q
        refine ⟨a, by simp [z, q'], ?_⟩
        cases w' with
        | lst ws => obtain ⟨ys, q, t⟩ := t; exact ⟨ys, q, t.mono0 e0⟩
        | dct kvs => obtain ⟨ys, q, t⟩ := t; exact ⟨ys, q, t.mono0 e0⟩
        | ins c fs => obtain ⟨C, dx, vs, q0, q, t⟩ := t; exact ⟨C, dx, vs, q0, q, t.mono0 e0⟩
        | exc c fs => exact t
        | urn tk => exact t
        | cells => exact t
        | lck kvs => obtain ⟨ob, ks, q, t⟩ := t; exact ⟨ob, ks, q, t.mono0 e0⟩
    · intro n m a e1 e2
      by_cases z1 : n = h.n
      · by_cases z2 : m = h.n
        · rw [z1, z2]
        · simp only [z1, if_true] at e1
          simp only [z2, if_false] at e2
          cases e1
          exact absurd e2 (u m)
      · by_cases z2 : m = h.n
        · simp only [z1, if_false] at e1
          simp only [z2, if_true] at e2
          cases e2
          exact absurd e1 (u n)
        · simp only [z1, z2, if_false] at e1 e2
          exact R.inj _ _ _ e1 e2
    · intro n hn'
      have hn' : h.n + 1 ≤ n := hn'
      have : n ≠ h.n := by omega
      refine ⟨by simp [this, (R.top n (by omega)).1], ?_⟩
      rw [get_new hm, if_neg this]
      exact (R.top n (by omega)).2
    · show h.n + 1 ≤ MOST; omega
    · intro n a q
      by_cases z : n = h.n
      · simp only [z, if_true] at q
        cases q
        rw [e]; exact fun z => nomatch z
      · simp only [z, if_false] at q
        exact R.live n a q
theorem putK_len (ks : List (Key × V)) (k : Key) (v : V) : (L2.putK ks k v).length ≤ ks.length + 1 := length_putK ks k v
theorem wipe_twice (σ : L2.St) (vs : List Nat) : L2.wipe (L2.wipe σ vs) vs = L2.wipe σ vs := by
  have ww : ∀ (us : List Nat), (∀ u ∈ us, u ∈ vs) → L2.wipe (L2.wipe σ us) vs = L2.wipe σ vs := fun us => by
    induction us with
    | nil => intro _; rfl
    | cons u us ih =>
      intro hu
      show L2.wipe ((L2.wipe σ us).set u none) vs = _
      rw [wipe_set _ _ _ _ (hu u List.mem_cons_self), ih fun z hz => hu z (List.mem_cons_of_mem _ hz)]
  exact ww vs fun _ z => z
theorem dc_read {own : List (Str × Nat)} {si : Sit} {sc : Tst} {sk sv : Sem} (hv : own.map (·.2) = vs) : ∀ (σ : L2.St) (H0 : Hp) (Q : VK), EvE G X.K Z (sDc vs sg si sc sk sv) σ H0 Q →
    tDc (EvI G X.K Z si) (EvGv G X.K vs sg) (EvT G X.K (NoZ X.K) sc) (EvE G X.K (NoZ X.K) sk) (EvE G X.K (NoZ X.K) sv) (own.map (·.2)) σ H0 Q :=
  fun σ H0 Q ⟨ρ0, e, h, kx, k, n, run, fin, fx⟩ => by
    have run : si e h kx (fun q h => walkD sg sc sk sv (ewipe e vs) (fun acc h => newK h (.dct acc) k) TURNS q [] h) = true := run
    refine ⟨ρ0, e, h, kx, _, n, run, fun q h1 J H1 ρ1 run1 t1 R1 wr => ?_, fx⟩
    intro D hD
    rw [hv]
    have re1 : RE G X.K ρ1 H1 (ewipe e vs) (L2.wipe σ vs) := (n.re.mono t1).wipe vs
    have ntD : ∀ {H : Hp} {xs : List (Key × V)}, H D = some (.dK xs) → NF H D := fun q => no_tup q (fun _ z => nomatch z) fun _ _ z => nomatch z
    have first : Ext X.K ρ1 H1 ρ1 (upd H1 D (.dK [])) := ext_new hD (fun _ _ z => z) fun _ _ z => .inl z
    refine ⟨fun i m H => ∃ ρ h q acc xs, RH G X.K ρ h H ∧ Ext X.K ρ1 H1 ρ H ∧ (∀ n, ρ n ≠ some D) ∧ walkD sg sc sk sv (ewipe e vs) (fun acc h => newK h (.dct acc) k) m q acc h = true ∧ WkR G X.K ρ H q J i ∧ H D = some (.dK xs) ∧ Ks G X.K ρ H acc xs ∧ xs.length + m ≤ TURNS,
      ⟨TURNS, ρ1, h1, q, [], [], R1.unseen (fun n z => R1.live n D z hD) (.none hD), first, fun n z => R1.live n D z hD, run1, wr.mono first, upd_same, .nil, by simp⟩, ?_⟩
    rintro i m H ⟨ρ, h, q, acc, xs, R, ex, un, run, wr, eD, ra, len⟩
    cases m with
    | zero => cases run
    | succ m =>
      have run : wkGo (wkNext h q) (fun _ => newK h (.dct acc) k) (fun x q => sg x (ewipe e vs) h noX fun σ' h => sc σ' h noX fun b h => match b with
        | true => sk σ' h noX fun x h => sv σ' h noX fun y h => opt 77 (dputH h x y acc) fun acc => walkD sg sc sk sv (ewipe e vs) (fun acc h => newK h (.dct acc) k) m q acc h
        | false => walkD sg sc sk sv (ewipe e vs) (fun acc h => newK h (.dct acc) k) m q acc h) 83 = true := run
      have hD0 : H0 D = none := by
        cases z : H0 D with
        | none => rfl
        | some u => exact absurd hD (t1.there D (by rw [z]; exact fun z => nomatch z))
      obtain ⟨st1, st2⟩ := wk_step R wr
      cases eq : wkNext h q with
      | none => rw [eq] at run; cases run
      | some o =>
        rw [eq] at run
        cases o with
        | none =>
          refine .inl ⟨st1 eq, ?_⟩
          obtain ⟨_, hm, run1⟩ := newK_inv (show newK h (.dct acc) k = true from run)
          obtain ⟨ρ2, q2, m1, m2, R2⟩ := see_dct R un eD ra hm
          have t2 := t1.trans ex
          refine fin _ _ _ _ ρ2 run1 ⟨⟨⟨fun n b z => m1 n b (t2.map n b z), t2.tup, t2.pt⟩, t2.frz⟩, fun n b z => ?_, t2.there, t2.keep⟩ R2 (.ob q2)
          rcases m2 n b z with z | rfl
          · exact t2.new n b z
          · exact .inr hD0
        | some xq =>
          obtain ⟨x, q'⟩ := xq
          obtain ⟨go, yld⟩ := st2 x q' eq
          have run : sg x (ewipe e vs) h noX (fun σ' h => sc σ' h noX fun b h => match b with
            | true => sk σ' h noX fun x h => sv σ' h noX fun y h => opt 77 (dputH h x y acc) fun acc => walkD sg sc sk sv (ewipe e vs) (fun acc h => newK h (.dct acc) k) m q' acc h
            | false => walkD sg sc sk sv (ewipe e vs) (fun acc h => newK h (.dct acc) k) m q' acc h) = true := run
          refine .inr ⟨go, fun H => ∃ ρ h q acc xs, RH G X.K ρ h H ∧ Ext X.K ρ1 H1 ρ H ∧ (∀ n, ρ n ≠ some D) ∧ walkD sg sc sk sv (ewipe e vs) (fun acc h => newK h (.dct acc) k) m q acc h = true ∧ WkR G X.K ρ H q J (i + 1) ∧ H D = some (.dK xs) ∧ Ks G X.K ρ H acc xs ∧ xs.length + m ≤ TURNS,
            fun H' z => ⟨m, Nat.lt_succ_self m, z⟩, fun v H' y => ?_⟩
          obtain ⟨ρ', x1, R', rv, wr'⟩ := yld v H' y
          have hDn : H D ≠ none := by rw [eD]; exact fun z => nomatch z
          refine ⟨ρ', ewipe e vs, h, x, noX, _, ⟨R', re1.mono (ex.trans x1)⟩, rv, run, fun e2 h2 σ2 H2 ρ2 r2 x2 n2 w2 => ⟨w2.trans (wipe_twice σ vs), ?_⟩⟩
          refine ⟨ρ2, e2, h2, noX, _, n2, r2, fun b h3 H3 ρ3 r3 x3 R3 => ?_, nox ρ2 H2⟩
          have t3 := (x1.trans x2).trans x3
          cases b with
          | false =>
            simp only [Bool.false_eq_true, if_false]
            exact ⟨ρ3, h3, q', acc, xs, R3, ex.trans t3, t3.unseen hDn un, r3, wr'.mono (x2.trans x3), (t3.keep D hDn un).trans eD, ra.mono t3, by omega⟩
          | true =>
            simp only [if_true]
            refine ⟨ρ3, e2, h3, noX, _, n2.on x3 R3, r3, fun w h4 v4 H4 ρ4 r4 x4 R4 rv4 => ?_, nox ρ3 H3⟩
            refine ⟨ρ4, e2, h4, noX, _, (n2.on x3 R3).on x4 R4, r4, fun w5 h5 v5 H5 ρ5 r5 x5 R5 rv5 => ?_, nox ρ4 H4⟩
            have t5 := (t3.trans x4).trans x5
            obtain ⟨acc', ep, r5⟩ := opt_inv r5
            obtain ⟨kk, rfl, rp⟩ := dputH_ok (rv4.mono x5) rv5 (ra.mono t5) ep
            have eD5 : H5 D = some (.dK xs) := (t5.keep D hDn un).trans eD
            have un5 := t5.unseen hDn un
            have e0 : Ext0 X.K ρ5 H5 ρ5 (upd H5 D (.dK (L2.putK xs kk v5))) := ext0_unseen (ntD eD5)
            have pl := putK_len xs kk v5
            refine ⟨xs, kk, rfl, eD5, ?_, ρ5, h5, q', acc', L2.putK xs kk v5, R5.unseen un5 (ntD eD5), (ex.trans t5).over hD (ntD eD5), un5, r5, (wr'.mono (((x2.trans x3).trans x4).trans x5)).mono0 e0, upd_same, rp.mono0 e0, ?_⟩
            · rw [sizeLine_eq]; have : TURNS = 100000 := rfl; omega
            · omega
theorem ev_dc {kx vx tg iter : Expr} {ifs : List Expr} {scope : Scope} {own : List (Str × Nat)} {si : Sit} {sc : Tst} {sk sv : Sem} (hc : X.calm = true) (hN : X.N.Nodup) (hi : PI X tg iter (EvI G X.K Z si)) (ok : BlkOk X.N X.env.scope scope own) (hv : own.map (·.2) = vs)
    (hg : ∀ (s : Shared) (H : Hp) (C : Addr) (cl : List (Str × Addr)) (fp : List Addr), PG (X.blk s H scope (compEnvC scope cl C X.env) fp) tg (EvGv G X.K vs sg)) (ht : ∀ (s : Shared) (H : Hp) (C : Addr) (cl : List (Str × Addr)) (fp : List Addr), PTs (X.blk s H scope (compEnvC scope cl C X.env) fp) ifs (EvT G X.K (NoZ X.K) sc))
    (hk : ∀ (s : Shared) (H : Hp) (C : Addr) (cl : List (Str × Addr)) (fp : List Addr), PE (X.blk s H scope (compEnvC scope cl C X.env) fp) kx (EvE G X.K (NoZ X.K) sk)) (he : ∀ (s : Shared) (H : Hp) (C : Addr) (cl : List (Str × Addr)) (fp : List Addr), PE (X.blk s H scope (compEnvC scope cl C X.env) fp) vx (EvE G X.K (NoZ X.K) sv))
    (hs : ∀ x, foldedSetIterable iter X.env x = pure x := by intro _; rfl) : PE X (.DictComp kx vx [⟨tg, iter, ifs, 0⟩] scope pos) (EvE G X.K Z (sDc vs sg si sc sk sv)) :=
  (pe_dc hc hN hi ok hg ht hk he hs).imp (dc_read hv)
theorem ps_setDc {i : Nat} {y : Str} {py : Pos} {kx vx tg iter : Expr} {ifs : List Expr} {scope : Scope} {own : List (Str × Nat)} {spos : Pos} {wi : TI} {g : TG} {tt : TT} {tk tv : TE} (hc : X.calm = true) (hN : X.N.Nodup) (hy : X.N[i]? = some y) (hyl : X.env.scope.names.lookup y = some .local)
    (hsw : swapsWith (.DictComp kx vx [⟨tg, iter, ifs, 0⟩] scope pos) (some (.Name y py)) spos.line X.env = pure true) (hi : PI X tg iter wi) (ok : BlkOk X.N X.env.scope scope own)
    (hg : ∀ (s : Shared) (H : Hp) (C : Addr) (cl : List (Str × Addr)) (fp : List Addr), PG (X.blk s H scope (compEnvC scope cl C X.env) fp) tg g) (ht : ∀ (s : Shared) (H : Hp) (C : Addr) (cl : List (Str × Addr)) (fp : List Addr), PTs (X.blk s H scope (compEnvC scope cl C X.env) fp) ifs tt)
    (hk : ∀ (s : Shared) (H : Hp) (C : Addr) (cl : List (Str × Addr)) (fp : List Addr), PE (X.blk s H scope (compEnvC scope cl C X.env) fp) kx tk) (he : ∀ (s : Shared) (H : Hp) (C : Addr) (cl : List (Str × Addr)) (fp : List Addr), PE (X.blk s H scope (compEnvC scope cl C X.env) fp) vx tv) (hs : ∀ x, foldedSetIterable iter X.env x = pure x) :
    PS X (.Assign [.Name y py] (.DictComp kx vx [⟨tg, iter, ifs, 0⟩] scope pos) spos) (tAsg (tDc wi g tt tk tv (own.map (·.2))) (gName i)) := by
  refine ⟨fun pins s σ H D I want => ?_⟩
  rw [exec_Assign_Name_used _ _ _ _ hsw]
  refine wpAny_bind (wpAny_standAt (wpAny_bind ?_))
  show wpAny _ X.A (do let _ ← comprehension (.DictComp kx vx [⟨tg, iter, ifs, 0⟩] scope pos) scope X.env (firstIterPos [⟨tg, iter, ifs, 0⟩] pos) newDict false (eval iter X.env) (some (assign (.Name y py) X.env))) _ _ s
  have want : tDc wi g tt tk tv (own.map (·.2)) σ H (fun x H1 => gName i x σ H1 D.nx) := want
  refine wpAny_bind (thn (dc_core (Qf := fun _ s' => SP X pins D .next s') hc hN I hi ok hg ht hk he hs want fun L C s' m H' I' q hn f => ?_) fun _ s' hq => wpAny_pure (wpAny_pure hq))
  show wpAny _ _ (assign (.Name y py) X.env (.ref L)) _ _ _
  refine wpAny_assign_Name (store_ok2 (v := V.ref L) I' hN hy (.inl hyl) rfl (fun s2 I2 ⟨a, sb, ha⟩ => ?_) (.inr hyl))
  obtain ⟨f0, f1, f2, f3, f4, f5⟩ := f
  have ne : C ≠ a := by
    rcases ha with z | z
    · subst z; exact f1
    · exact fun w => f4 y a z w.symm
  exact ⟨m, hn.sameBut sb ne, fun h3 sb3 => ⟨_, H', I2.turned (t' := s2.toks) (fun b o hb w => (sb3.2 b hb).trans w) f0 f1 f3 f4 f5, q⟩⟩
/-- name = {..}, the name a local -/
theorem es_setDc {i : Nat} {y : Str} {py : Pos} {kx vx tg iter : Expr} {ifs : List Expr} {scope : Scope} {own : List (Str × Nat)} {spos : Pos} {si : Sit} {sc : Tst} {sk sv : Sem} (hc : X.calm = true) (hN : X.N.Nodup) (hi : PI X tg iter (EvI G X.K Z si)) (ok : BlkOk X.N X.env.scope scope own) (hv : own.map (·.2) = vs)
    (hg : ∀ (s : Shared) (H : Hp) (C : Addr) (cl : List (Str × Addr)) (fp : List Addr), PG (X.blk s H scope (compEnvC scope cl C X.env) fp) tg (EvGv G X.K vs sg)) (ht : ∀ (s : Shared) (H : Hp) (C : Addr) (cl : List (Str × Addr)) (fp : List Addr), PTs (X.blk s H scope (compEnvC scope cl C X.env) fp) ifs (EvT G X.K (NoZ X.K) sc))
    (hk : ∀ (s : Shared) (H : Hp) (C : Addr) (cl : List (Str × Addr)) (fp : List Addr), PE (X.blk s H scope (compEnvC scope cl C X.env) fp) kx (EvE G X.K (NoZ X.K) sk)) (he : ∀ (s : Shared) (H : Hp) (C : Addr) (cl : List (Str × Addr)) (fp : List Addr), PE (X.blk s H scope (compEnvC scope cl C X.env) fp) vx (EvE G X.K (NoZ X.K) sv))
    (hy : X.N[i]? = some y := by rfl) (hyl : X.env.scope.names.lookup y = some .local := by rfl) (hs : ∀ x, foldedSetIterable iter X.env x = pure x := by intro _; rfl) (hsw : swapsWith (.DictComp kx vx [⟨tg, iter, ifs, 0⟩] scope pos) (some (.Name y py)) spos.line X.env = pure true := by rfl) :
    PS X (.Assign [.Name y py] (.DictComp kx vx [⟨tg, iter, ifs, 0⟩] scope pos) spos) (EvS G X.K Z (sAsg (gSlot i) (sDc vs sg si sc sk sv))) :=
  (ps_setDc hc hN hy hyl hsw hi ok hg ht hk he hs).imp fun D σ H ⟨ρ, e, h, k, n, run, w⟩ => by
    have run : sDc vs sg si sc sk sv e h k.ex (fun v h => k.nx (eset e i (some v)) h) = true := run
    exact dc_read hv σ H _ ⟨ρ, e, h, k.ex, _, n, run, fun x h' v H' ρ' x1 x2 x3 x4 => w.nx _ _ _ _ ρ' x1 x2 ((n.on x2 x3).set i x4), w.ex⟩
end
end FE
end
section
set_option Elab.async false
set_option linter.all false
set_option maxRecDepth 100000
/-! FeRev: t[::-1] of a tuple. -/
namespace FE
open PySem PySem.Spec PyProof.Rows L2
open PySem.SeqAt
theorem rev_pick {α : Type} (xs : List α) : (List.range xs.length).filterMap (fun k : Nat => xs.toArray[((xs.length : Int) - 1 + (k : Int) * (-1)).toNat]?) = xs.reverse := by
  apply List.ext_getElem?
  intro i
  have e : (List.range xs.length).filterMap (fun k : Nat => xs.toArray[((xs.length : Int) - 1 + (k : Int) * (-1)).toNat]?) = (List.range xs.length).filterMap (fun k : Nat => xs.reverse[k]?) := by
    have cg : ∀ (l : List Nat) (a b : Nat → Option α), (∀ k ∈ l, a k = b k) → l.filterMap a = l.filterMap b := fun l a b => by
      induction l with
      | nil => intro _; rfl
      | cons k l ih =>
        intro h
        rw [List.filterMap_cons, List.filterMap_cons, h k List.mem_cons_self, ih fun j hj => h j (List.mem_cons_of_mem _ hj)]
    refine cg _ _ _ fun k hk => ?_
    have hk : k < xs.length := List.mem_range.mp hk
    rw [List.getElem?_toArray, List.getElem?_reverse hk]
    congr 1
    omega
  rw [e]
  have f : ∀ ys : List α, (List.range ys.length).filterMap (fun k : Nat => ys[k]?) = ys := fun ys => by
    induction ys with
    | nil => rfl
    | cons y ys ih =>
      rw [List.length_cons, List.range_succ_eq_map, List.filterMap_cons]
      simp only [List.getElem?_cons_zero, List.filterMap_map]
      congr 1
  have g := f xs.reverse
  rw [List.length_reverse] at g
  rw [g]
theorem adj_rev (n : Nat) : Builtin.Slice.sliceAdjust none none (-1) (n : Int) = ((n : Int) - 1, -1) := rfl
theorem places_rev (n : Nat) : Builtin.Slice.slicePlaces ((n : Int) - 1) (-1) (-1) = n := by
  unfold Builtin.Slice.slicePlaces
  rw [if_neg (by decide)]
  have e : (-(-1) : Int) = 1 := rfl
  rw [e, Int.ediv_one]
  split <;> omega
section
variable {prog : Program} {w : World} {A : Around} {E : Value → Shared → Prop} {s : Shared}
theorem applied_rev {sl : Addr} {vs : Value} {n : Nat} {Q : Int × Int × Nat → Shared → Prop} (hs : s.heap.IsSliceOf sl .none .none vs) (ps : IsPart vs (some (-1))) (q : Q ((n : Int) - 1, -1, n) s) :
    wpAny (model prog w) A (Builtin.Slice.sliceApplied (.ref sl) (pure (n : Int))) Q E s := by
  obtain ⟨os, hos, hcs, hds⟩ := id hs
  unfold Builtin.Slice.sliceApplied Builtin.Slice.sliceFields
  refine wpAny_bind (wpAny_bind (wpAny_field hos hds (x := .none) rfl (wpAny_bind (wpAny_field hos hds (x := .none) rfl (wpAny_bind (wpAny_field hos hds (x := vs) rfl (wpAny_pure ?_)))))))
  refine wpAny_bind (HT.slicePart_ ps ?_)
  show wpAny _ _ (if ((-1 : Int) == 0) = true then _ else _) _ _ s
  rw [if_neg (by decide)]
  refine wpAny_bind (slicePart_none (wpAny_bind (slicePart_none (wpAny_bind (wpAny_pure ?_)))))
  show wpAny _ _ (pure ((Builtin.Slice.sliceAdjust none none (-1) (n : Int)).1, (-1 : Int), Builtin.Slice.slicePlaces (Builtin.Slice.sliceAdjust none none (-1) (n : Int)).1 (Builtin.Slice.sliceAdjust none none (-1) (n : Int)).2 (-1))) _ _ s
  rw [adj_rev]
  show wpAny _ _ (pure ((n : Int) - 1, (-1 : Int), Builtin.Slice.slicePlaces ((n : Int) - 1) (-1) (-1))) _ _ s
  rw [places_rev]
  exact wpAny_pure q
theorem item_rev {t sl : Addr} {its : List Value} {vs : Value} {Q : Value → Shared → Prop} (ht : IsTup s.heap t its.toArray) (hs : s.heap.IsSliceOf sl .none .none vs) (ps : IsPart vs (some (-1))) (hsz : its.length ≤ sizeLine)
    (q : Q (.ref s.heap.objs.size) { s with heap := s.heap.push { cls := .type "tuple", data := .seq its.reverse.toArray } }) : wpAny (model prog w) A (getItem (.ref t) (.ref sl)) Q E s := by
  obtain ⟨os, hos, hcs, hds⟩ := id hs
  have hT : s.TypeIs (.ref sl) "slice" := ⟨os, hos, hcs⟩
  have sz : sizeOk (.seq its.reverse.toArray) := by
    show its.reverse.toArray.size ≤ sizeLine
    rw [List.size_toArray, List.length_reverse]; exact hsz
  have n0 : its.toArray.size = its.length := List.size_toArray
  unfold getItem
  try with_reducible refine wpAny_holding ?_
  first | refine wpAny_bind (wpAny_pure ?_) | skip
  refine wpAny_bind (wpAny_sequenceKey ht.typeIs (by decide) ?_)
  refine wpAny_bind (wpAny_callSpecial?_slot (name := Str.ofString "__getitem__") ht.typeIs PyProof.Rows.slot_tuple_getitem (wpAny_call_entry PyProof.Rows.slot_tuple_getitem ht.typeIs entry_tuple_getitem ?_ (args_tuple_getitem _ _)))
  show wpAny _ _ (Builtin.Tuple.tupleItemsOf (.ref t) >>= _) _ _ s
  refine wpAny_bind (tupleItemsOf_ ht ?_)
  refine wpAny_bind (wpAny_typeOf hT ?_)
  rw [if_pos (by decide)]
  refine wpAny_bind (applied_rev hs ps ?_)
  rw [n0]
  have no : ¬ ((((its.length : Int) - 1) == 0 && (-1 : Int) == 1 && its.length == its.length) = true) := by
    rw [show ((-1 : Int) == 1) = false from rfl, Bool.and_false, Bool.false_and]
    exact Bool.false_ne_true
  show wpAny _ _ (if (((its.length : Int) - 1) == 0 && (-1 : Int) == 1 && its.length == its.length) = true then _ else _) _ _ s
  rw [if_neg no, rev_pick]
  first
    | exact wpAny_bind (m := Builtin.Tuple.tupleExact _) (wpAny_newObj_type (wpAny_pure ⟨_, rfl, wpAny_pure q⟩) sz)
    | exact wpAny_bind (m := Builtin.Tuple.tupleExact _) (wpAny_newObj_type (wpAny_bind (wpAny_pure (wpAny_pure ⟨_, rfl, wpAny_pure q⟩))) sz)
    | exact wpAny_bind (wpAny_bind (m := Builtin.Tuple.tupleExact _) (wpAny_newObj_type (wpAny_pure (wpAny_pure ⟨_, rfl, wpAny_pure q⟩)) sz))
    | exact wpAny_bind (wpAny_bind (m := Builtin.Tuple.tupleExact _) (wpAny_newObj_type (wpAny_pure ⟨_, rfl, wpAny_pure q⟩) sz))
end
section
variable {X : Cx} {G : GM} {Z : ZF X.K} {a : Expr} {pos : Pos} {sa : Sem}
def tRevA (K : PySem.W.Frag) (te : TE) : TE := fun σ H Q => te σ H fun x H1 => ∃ a xs, x = .ref a ∧ ((SqL K H1 a xs ∧ ∀ p, H1 p = none → Q (.ref p) (upd H1 p (.lst xs.reverse))) ∨ (SqT K H1 a xs ∧ QT xs.reverse H1 Q))
theorem vals_reverse : ∀ {xs : List V} {us : List Value}, Vals xs us → Vals xs.reverse us.reverse
  | _, _, .nil => .nil
  | _, _, .cons r rs => by
    rw [List.reverse_cons, List.reverse_cons]
    exact (vals_reverse rs).append (.cons r .nil)
theorem pe_revA {te : TE} {k0 : Nat} {p1 p2 p3 : Pos} (he : PE X a te) : PE X (.Subscript a (.Slice none none (some (.UnaryOp .USub (.Constant (.int 1) k0 p1) p2)) p3) pos) (tRevA X.K te) := by
  refine ⟨fun pins s σ H Q I h => ?_⟩
  refine Subscript_ (thn (he.run pins s σ H _ I h) fun v s1 ⟨x, H1, I1, r1, q1⟩ => ?_)
  obtain ⟨l, xs, ex, q⟩ := q1
  subst ex
  cases r1
  have step : PO X (some (.UnaryOp .USub (.Constant (.int 1) k0 p1) p2)) (tPart (tUn (rU fun i => .int (-i)) (tC (.int 1)))) := po_some (pe_un un_neg pe_int)
  refine wpAny_Slice ?_
  rw [evalPart_none]
  refine wpAny_pure ?_
  refine wpAny_pure ?_
  refine thn (step.run pins s1 σ H1 (fun o H4 => o = some (-1) ∧ H4 = H1) I1 ⟨1, rfl, -1, rfl, rfl, rfl⟩) fun vs s4 ⟨o, H4, I4, ps, eo, e4⟩ => ?_
  subst eo e4
  have I5 : Inv X pins σ H4 { s4 with heap := s4.heap.push { cls := .type "slice", data := .fields #[.none, .none, vs] } } := I4.kept (t' := s4.toks) fun b ob q => Heap.get?_push_of_some _ q
  show wpAny (model X.prog X.w) X.A (subscriptTail a (.Slice none none (some (.UnaryOp .USub (.Constant (.int 1) k0 p1) p2)) p3) (.ref l) (.ref s4.heap.objs.size)) (EP X pins σ Q) X.xe { s4 with heap := s4.heap.push { cls := .type "slice", data := .fields #[.none, .none, vs] } }
  rcases q with ⟨hx, q⟩ | ⟨hx, q⟩
  · obtain ⟨its, r, ht, hz⟩ := I5.list hx
    have hlen := r.length
    refine tail_any (ops := [.ref l, .ref s4.heap.objs.size]) ht.isList.typeIs (PySem.slot_list_getitem.lookup) ?_ (by with_unfolding_all rfl)
    refine wpAny_getItem_list_slice ht.isList (Heap.IsSliceOf.new _ .none .none vs) .none .none ps (by decide) ?_ (by rw [List.size_toArray]; omega)
    rw [PySem.W.krv_pick]
    refine ⟨.ref _, _, I5.laid (t' := s4.toks) (o := .lst xs.reverse) (fun b ob q => Heap.get?_push_of_some _ q) (Nat.le_refl _) ?_, rfl, q _ (I5.hok.fresh (Nat.le_refl _))⟩
    exact ⟨by rw [List.length_reverse]; exact hz, its.reverse, 0, vals_reverse r, Heap.get?_push_size _ rfl⟩
  · obtain ⟨its, r, ht, hz⟩ := I5.tuple hx
    have hlen := r.length
    refine tail_any (ops := [.ref l, .ref s4.heap.objs.size]) ht.typeIs (PyProof.Rows.slot_tuple_getitem.lookup) ?_ (by with_unfolding_all rfl)
    refine item_rev ht (Heap.IsSliceOf.new _ .none .none vs) ps (by omega) ?_
    exact fin_pt I5 (by rw [List.length_reverse]; exact hz) (vals_reverse r) q
theorem ev_revA {k0 : Nat} {p1 p2 p3 : Pos} (ha : PE X a (EvE G X.K Z sa)) : PE X (.Subscript a (.Slice none none (some (.UnaryOp .USub (.Constant (.int 1) k0 p1) p2)) p3) pos) (EvE G X.K Z (cRevA sa)) :=
  (pe_revA ha).imp fun σ H Q ⟨ρ, e, h, kx, k, n, run, fin, fx⟩ => by
    have run : sa e h kx (fun x h => revA x h k) = true := run
    refine EvE.then n run fx fun x h1 v H1 ρ1 t1 n1 r1 run1 fx1 => ?_
    have lst : (∃ i, x = .ob i) → lstW x h1 (fun xs h => newK h (.lst xs.reverse) k) = true → ∃ a xs, v = .ref a ∧ ((SqL X.K H1 a xs ∧ ∀ p, H1 p = none → Q (.ref p) (upd H1 p (.lst xs.reverse))) ∨ (SqT X.K H1 a xs ∧ QT xs.reverse H1 Q)) := fun _ run1 => by
      obtain ⟨i, ws, rfl, g, run1⟩ := lstW_inv run1
      obtain ⟨b, rfl, q⟩ := rw_ob r1
      obtain ⟨xs, ea, r⟩ := lst_at n1.rh g q
      exact ⟨b, xs, rfl, .inl ⟨.of ea, fun p hn => new_lst n1.rh hn r.reverse run1 (fin.mono t1)⟩⟩
    cases x with
    | tup ws =>
      obtain ⟨b, xs, rfl, q, r⟩ := rw_tup r1
      exact ⟨b, xs, rfl, .inr ⟨q, fun p ob hn d => tup_fin n1.rh hn r.reverse run1 (fin.mono t1) d⟩⟩
    | ob i => exact lst ⟨i, rfl⟩ run1
    | non => cases run1
    | bl c => cases run1
    | int c => cases run1
    | str c => cases run1
    | cls c => cases run1
    | fn c => cases run1
end
end FE
end
section
set_option Elab.async false
set_option linter.all false
set_option maxRecDepth 100000
/-! FeUse2: rules for errors as the printed proofs use them; what is not told. -/
namespace FE
open PySem PySem.Spec PyProof.Rows L2
open PySem.SeqAt
section
variable {X : Cx} {G : GM} {Z : ZF X.K} {st : Stmt} {e : Expr}
theorem es_stop {k : Nat} : PS X st (EvS G X.K Z (sStop k)) := ⟨fun pins s σ H D I ⟨ρ, e, h, ks, n, run, w⟩ => by cases run⟩
end
/-- an own error class -/
structure ExK (K : PySem.W.Frag) (mg : Str → Option Value) (G : GM) (x : Str) (c : Nat) (C : Addr) : Prop where
  at_ : mg x = some (.ref C)
  gc : G.ca c = some C
  kp : PySem.W.keepIn K (.ref C) = true
  ex : PySem.W.subIn K (.ref C) (.type "BaseException") = some true
  ty : PySem.W.typeIn K (.ref C) = some (.type "type")
  is_ : IsC K C
  em : ∀ c' D, G.ca c' = some D → PySem.W.exmOne K (.ref D) (.ref C) = some (Nat.beq c c')
/-- .. without an own __init__ -/
structure Ex0 (K : PySem.W.Frag) (mg : Str → Option Value) (G : GM) (x : Str) (c : Nat) (C : Addr) : Prop extends ExK K mg G x c C where
  xf : G.xf c = []
  made : ∃ B newId initId bmB, ExcBaseFacts B newId initId bmB ∧ PySem.W.excIn K C bmB newId = true
section
variable {X : Cx} {G : GM} {Z : ZF X.K} {x : Str} {c : Nat} {C : Addr} {p pos pos2 : Pos}
theorem es_raiseU (E : Ex0 X.K X.mg G x c C) (tk : Takes X (fun cl dc _ H => Z.e cl dc H)) (hc : X.calm = true := by rfl) (hg : Gl X x := by rfl) (hd : (x == ("__debug__" : Str)) = false := by decide) : PS X (.Raise (some (.Call (.Name x p) [] [] pos)) none pos2) (EvS G X.K Z (sRaise c aNil)) :=
  let ⟨_, _, _, _, F, q⟩ := E.made
  es_raise0 hc tk E.gc E.xf (pmk_own0 F q E.at_ E.kp (raises_own E.ex E.ty) hg hd)
theorem hd_cl {nm : Option Str} {o : Option Nat} {st : Stmt} {sts : List Stmt} {b : List FE.W → Stm} {p1 p2 : Pos} {hds : List ExceptHandler} {r : Hnd} (E : ExK X.K X.mg G x c C)
    (su : ∀ (ws : List FE.W) (a : Addr) (oe : Obj) (d : Option Addr) (pn : List (Addr × Obj)), Zc (.ref C) d oe → (∃ vs, oe.data = .fields vs) → PSs (X.suite a ((a, oe) :: pn)) (st :: sts) (PhS (Got a o) (EvS G X.K (ZH G Z c ws d) (b ws)))) (hr : HdOk X G Z hds r)
    (hg : Gl X x := by rfl) (hd : (x == ("__debug__" : Str)) = false := by decide) (hn : NmOk X nm o := by first | exact trivial | exact ⟨rfl, rfl⟩) : HdOk X G Z (.ExceptHandler (some (.Name x p1)) nm (st :: sts) p2 :: hds) (hOn c o b r) :=
  .cons ⟨hg, hd, .inl E.at_⟩ E.gc E.em hn su hr
theorem kitAny_nil {K : PySem.W.Frag} {t : Value} : PySem.W.kitAny K t ([].map Value.ref) = some false := rfl
theorem kitAny_f {K : PySem.W.Frag} {t : Value} {C : Addr} {r : List Addr} {b : Bool} (h : PySem.W.kitOne K t (.ref C) = some false) (q : PySem.W.kitAny K t (r.map Value.ref) = some b) : PySem.W.kitAny K t ((C :: r).map Value.ref) = some b := by
  show (match PySem.W.kitOne K t (.ref C) with | some true => some true | some false => PySem.W.kitAny K t (r.map Value.ref) | none => none) = some b
  rw [h]; exact q
theorem kitAny_t {K : PySem.W.Frag} {t : Value} {C : Addr} {r : List Addr} (h : PySem.W.kitOne K t (.ref C) = some true) : PySem.W.kitAny K t ((C :: r).map Value.ref) = some true := by
  show (match PySem.W.kitOne K t (.ref C) with | some true => some true | some false => PySem.W.kitAny K t (r.map Value.ref) | none => none) = some true
  rw [h]
/-- a class's name -/
theorem cown {y : Str} {a : Addr} {oe : Obj} {pn : List (Addr × Obj)} {D : Addr} (hm : X.mg y = some (.ref D)) (hg : Gl X y := by rfl) (hd : (y == ("__debug__" : Str)) = false := by decide) : PE (X.suite a ((a, oe) :: pn)) (.Name y pos) (tC (.ref D)) := pe_glob (X := X.suite a ((a, oe) :: pn)) hg hm rfl hd
theorem ref_only {C : Addr} : ∀ u, RelV (.ref C) u → u = .ref C := fun _ h => h
theorem ty_only {T : String} : ∀ u, RelV (.ty T) u → u = .type T := fun _ h => h
end
end FE
end
section
set_option Elab.async false
set_option linter.all false
set_option maxRecDepth 100000
/-! FeLaw: what the law's first defs promise. -/
namespace FE
open PySem PySem.Spec PyProof.Rows L2
/-- _law_take -/
def spTake : Sp := fun vs H Q _ => ∃ (a : Addr) (u v c : Int) (b : Nat), vs = [.ref a, .int b] ∧ H a = some (.lst [.int u, .int v, .int c]) ∧ 0 ≤ c ∧ c < 1000000 ∧ 0 < b ∧ b < 1000000 ∧
  ∀ (d : Nat) (u' c' : Int), d < b → 0 ≤ c' → c' ≤ c + 1 → Q (.int d) (upd H a (.lst [.int u', .int v, .int c']))
/-- _law_box -/
def spBox (K : PySem.W.Frag) : Sp := fun vs H Q _ => ∃ (a : Addr) (xs : List Int), vs = [.ref a, .int 0] ∧ SqL K H a (xs.map V.int) ∧ ∀ (u v : Int) (p : Addr), H p = none → Q (.ref p) (upd H p (.lst [.int u, .int v, .int 0]))
/-- _law_cells -/
def spCells (K : PySem.W.Frag) : Sp := fun vs H Q _ => ∃ (a : Addr) (xs : List Int), vs = [.ref a, .int 1] ∧ SqL K H a (xs.map V.int) ∧ xs.length ≤ 63 ∧
  ∀ (ys : List Int) (H' : Hp) (p : Addr), ys.length ≤ 63 → (∀ b, H b ≠ none → H' b = H b) → H p = none → H' p = some (.lst (ys.map V.int)) → Q (.ref p) H'
/-- the script, if it is an object of the module -/
def ScrK (G : GM) (K : PySem.W.Frag) : Prop := ∀ a, G.fa 0 = some a → ∃ xs : List Int, (∀ H, SqL K H a (xs.map V.int)) ∧ xs.length ≤ 63
section
variable {G : GM} {K : PySem.W.Frag} {P : FE.Prog} {n f : Nat} {vs : List V} {H : Hp} {Q : VK} {E : XK}
theorem two_args {b : CallT → Stm} (hP : P.fns f = some ⟨2, 2, [], b⟩) (sp : SpF G K P (n + 1) f vs H Q E) : ∃ ρ h k kx w0 w1 x0 x1, vs = [x0, x1] ∧ RH G K ρ h H ∧ RW G K ρ H w0 x0 ∧ RW G K ρ H w1 x1 ∧
    b (callN P n) [some w0, some w1] h (fun _ h => k .non h) k (fun _ _ => stop 403) (fun _ _ => stop 403) kx = true ∧ Fin G K ρ H k Q := by
  obtain ⟨ρ, h, k, kx, ws, R, r, run, fin, fx⟩ := sp
  obtain ⟨fn, e, l, run⟩ := callN_inv run
  rw [hP] at e; cases e
  match ws, l, r, run with
  | [w0, w1], _, .cons r0 (.cons r1 .nil), run => exact ⟨ρ, h, k, kx, w0, w1, _, _, rfl, R, r0, r1, run, fin⟩
theorem below_all {f : Nat → B} : ∀ {b : Nat}, belowAll f b = true → ∀ d, d < b → f d = true
  | 0, _, d, h => absurd h (Nat.not_lt_zero d)
  | b + 1, e, d, h => by
    unfold belowAll at e
    split at e
    · next z =>
      by_cases y : d = b
      · subst y; exact z
      · exact below_all e d (by omega)
    · cases e
theorem take_inv {x y : FE.W} {h : FE.H} {k : KW} (run : takeW x y h k = true) : ∃ m t b, x = .ob m ∧ y = .int (.ofNat b) ∧ h.get m = some (.urn t) ∧ t < 1000000 ∧ 0 < b ∧ b < 1000000 ∧ ∀ d, d < b → k (.int (.ofNat d)) (h.put m (.urn (Nat.succ t))) = true := by
  cases x with
  | ob m =>
    unfold takeW at run
    simp only at run
    split at run
    · next t g =>
      split at run
      · next b =>
        split at run
        · next e1 =>
          split at run
          · next e2 =>
            split at run
            · next e3 => exact ⟨m, t, _, rfl, rfl, g, Nat.blt_eq.mp e1, Nat.blt_eq.mp e2, Nat.blt_eq.mp e3, below_all run⟩
            · cases run
          · cases run
        · cases run
      · cases run
    · cases run
  | _ => cases run
theorem take_sp (hP : P.fns f = some ⟨2, 2, [], takeB⟩) (hsp : SpF G K P (n + 1) f vs H Q E) : spTake vs H Q E := by
  obtain ⟨ρ, h, k, kx, w0, w1, x0, x1, rfl, R, r0, r1, run, fin⟩ := two_args hP hsp
  obtain ⟨m, t, b, rfl, rfl, g, lt, b0, b1, all⟩ := take_inv (show takeW w0 w1 h k = true from run)
  obtain ⟨a, qa, u, v, c, ea, c0, c1⟩ := R.obj m _ g
  cases r1
  cases r0 with
  | ob q =>
    rw [qa] at q; cases q
    refine ⟨a, u, v, c, b, rfl, ea, c0, by omega, b0, b1, fun d u' c' hd h0 h1 => ?_⟩
    have nt : NF H a := no_tup ea (fun _ z => nomatch z) fun _ _ z => nomatch z
    obtain ⟨ex, R2⟩ := R.put (o := .lst [.int u', .int v, .int c']) (w := .urn (Nat.succ t)) g qa nt (fun _ => ⟨u', v, c', upd_same, h0, by show c' ≤ ((t + 1 : Nat) : Int); omega⟩)
    exact fin _ _ _ _ ρ (all d hd) ex R2 (.int _)
theorem box_sp (hP : P.fns f = some ⟨2, 2, [], boxB⟩) (hsp : SpF G K P (n + 1) f vs H Q E) : spBox K vs H Q E := by
  obtain ⟨ρ, h, k, kx, w0, w1, x0, x1, rfl, R, r0, r1, run, fin⟩ := two_args hP hsp
  have run : isCellO w0 h (isZero w1 (newK h (.urn 0) k)) = true := run
  cases w0 with
  | ob m =>
    have run : (match h.get m with | some .cells => isZero w1 (newK h (.urn 0) k) | _ => stop 230) = true := run
    split at run
    · next g =>
      obtain ⟨a, qa, _, xs, sq, _⟩ := R.obj m _ g
      cases r0 with
      | ob q =>
        rw [qa] at q; cases q
        cases r1 with
        | int i =>
          have hz : i = 0 ∧ newK h (.urn 0) k = true := by
            match i, run with
            | .ofNat 0, run => exact ⟨rfl, run⟩
          obtain ⟨rfl, run2⟩ := hz
          refine ⟨a, xs, rfl, sq, fun u v p hp => ?_⟩
          obtain ⟨_, hm, run3⟩ := newK_inv run2
          obtain ⟨ρ', e1, ex, R2⟩ := R.new (o := .lst [.int u, .int v, .int 0]) hp hm (w := .urn 0) (fun ρ' ex => ⟨u, v, 0, upd_same, Int.le_refl 0, Int.le_refl 0⟩)
          exact fin _ _ _ _ ρ' run3 ex R2 (.ob e1)
        | _ => cases run
    · cases run
  | _ => cases run
theorem sqL_kept {H' : Hp} {a : Addr} {xs : List V} (kp : ∀ b, H b ≠ none → H' b = H b) (q : SqL K H a xs) : SqL K H' a xs := by
  rcases q with (z | ⟨o, z⟩) | z
  · exact .inl (.inl ((kp a (by rw [z]; exact fun y => nomatch y)).trans z))
  · exact .inl (.inr ⟨o, (kp a (by rw [z]; exact fun y => nomatch y)).trans z⟩)
  · exact .inr z
theorem RH.grow {ρ : Rho} {h : FE.H} {H' : Hp} (R : RH G K ρ h H) (kp : ∀ b, H b ≠ none → H' b = H b) : Ext K ρ H ρ H' ∧ RH G K ρ h H' := by
  have ex : Ext K ρ H ρ H' := ⟨⟨⟨fun _ _ z => z, fun a xs q => by
    rcases q with (z | ⟨o, z⟩) | z
    · exact .inl (.inl ((kp a (by rw [z]; exact fun y => nomatch y)).trans z))
    · exact .inl (.inr ⟨o, (kp a (by rw [z]; exact fun y => nomatch y)).trans z⟩)
    · exact .inr z, fun a xs ⟨ob, d, e⟩ => ⟨ob, d, (kp a (by rw [e]; exact fun y => nomatch y)).trans e⟩⟩, fun a ob u z => (kp a (by rw [z]; exact fun y => nomatch y)).trans z⟩, fun _ _ z => .inl z, fun a ha => by rw [kp a ha]; exact ha, fun a ha _ => kp a ha⟩
  refine ⟨ex, fun n o q => ?_, R.inj, R.top, R.most, fun n a q => by rw [kp a (R.live n a q)]; exact R.live n a q⟩
  obtain ⟨a, qa, t⟩ := R.obj n o q
  refine ⟨a, qa, ?_⟩
  have e := kp a (R.live n a qa)
  cases o with
  | lst ws => obtain ⟨ys, z, r⟩ := t; exact ⟨ys, e.trans z, r.mono ex⟩
  | dct kvs => obtain ⟨ys, z, r⟩ := t; exact ⟨ys, e.trans z, r.mono ex⟩
  | ins c fs => obtain ⟨C, dx, us, z0, z, r⟩ := t; exact ⟨C, dx, us, z0, e.trans z, r.mono ex⟩
  | exc c fs => exact t
  | urn tk => obtain ⟨u, v, c, z, r⟩ := t; exact ⟨u, v, c, e.trans z, r⟩
  | cells => obtain ⟨z0, xs, z, r⟩ := t; exact ⟨by rw [e]; exact z0, xs, sqL_kept kp z, r⟩
  | lck kvs => obtain ⟨ob, ks, z, r⟩ := t; exact ⟨ob, ks, e.trans z, r.mono ex⟩
theorem RH.seeO {ρ : Rho} {h : FE.H} {p : Addr} {w : O} (R : RH G K ρ h H) (un : ∀ n, ρ n ≠ some p) (hp : H p ≠ none) (hm : h.n < MOST) (ob : ∀ ρ', Ext0 K ρ H ρ' H → ObjR G K ρ' H p w) :
    ∃ ρ', ρ' h.n = some p ∧ (∀ n a, ρ n = some a → ρ' n = some a) ∧ (∀ n a, ρ' n = some a → ρ n = some a ∨ a = p) ∧ RH G K ρ' ⟨Nat.succ h.n, T.put w 40 h.t h.n⟩ H := by
  have top := R.top h.n (Nat.le_refl _)
  have new_ : ∀ n a, ρ n = some a → n ≠ h.n := fun n a q z => by rw [z, top.1] at q; cases q
  have old : ∀ n a, ρ n = some a → (if n = h.n then some p else ρ n) = some a := fun n a q => by rw [if_neg (new_ n a q)]; exact q
  have e0 : Ext0 K ρ H (fun n => if n = h.n then some p else ρ n) H := ⟨⟨old, fun _ _ z => z, fun _ _ z => z⟩, fun _ _ _ z => z⟩
  have back : ∀ n a, (if n = h.n then some p else ρ n) = some a → (n = h.n ∧ a = p) ∨ (n ≠ h.n ∧ ρ n = some a) := fun n a q => by
    by_cases z : n = h.n
    · rw [if_pos z] at q; exact .inl ⟨z, (Option.some.inj q).symm⟩
    · rw [if_neg z] at q; exact .inr ⟨z, q⟩
  refine ⟨fun n => if n = h.n then some p else ρ n, if_pos rfl, old, fun n a q => (back n a q).elim (fun z => .inr z.2) fun z => .inl z.2, fun n o q => ?_, fun n m a e1 e2 => ?_, fun n hn => ?_, ?_, fun n a q => ?_⟩
  · rw [get_new hm] at q
    by_cases z : n = h.n
    · rw [if_pos z] at q
      cases q
      exact ⟨p, if_pos z, ob _ e0⟩
    · rw [if_neg z] at q
      obtain ⟨a, qa, t⟩ := R.obj n o q
      refine ⟨a, old n a qa, ?_⟩
      cases o with
      | lst ws => obtain ⟨ys, z, r⟩ := t; exact ⟨ys, z, r.mono0 e0⟩
      | dct kvs => obtain ⟨ys, z, r⟩ := t; exact ⟨ys, z, r.mono0 e0⟩
      | ins c fs => obtain ⟨C, dx, us, z0, z, r⟩ := t; exact ⟨C, dx, us, z0, z, r.mono0 e0⟩
      | exc c fs => exact t
      | urn tk => exact t
      | cells => exact t
      | lck kvs => obtain ⟨ob, ks, z, r⟩ := t; exact ⟨ob, ks, z, r.mono0 e0⟩
  · rcases back n a e1 with ⟨y1, y2⟩ | ⟨y1, y2⟩
    · rcases back m a e2 with ⟨z1, z2⟩ | ⟨z1, z2⟩
      · rw [y1, z1]
      · subst y2; exact absurd z2 (un m)
    · rcases back m a e2 with ⟨z1, z2⟩ | ⟨z1, z2⟩
      · subst z2; exact absurd y2 (un n)
      · exact R.inj _ _ _ y2 z2
  · have hn : h.n + 1 ≤ n := hn
    have ne : n ≠ h.n := by omega
    refine ⟨(if_neg ne).trans (R.top n (by omega)).1, ?_⟩
    rw [get_new hm, if_neg ne]
    exact (R.top n (by omega)).2
  · show h.n + 1 ≤ MOST
    omega
  · rcases back n a q with ⟨_, z⟩ | ⟨_, z⟩
    · rw [z]; exact hp
    · exact R.live n a z
theorem cells_sp (sk : ScrK G K) (hP : P.fns f = some ⟨2, 2, [], cellsB⟩) (hsp : SpF G K P (n + 1) f vs H Q E) : spCells K vs H Q E := by
  obtain ⟨ρ, h, k, kx, w0, w1, x0, x1, rfl, R, r0, r1, run, fin⟩ := two_args hP hsp
  have run : isCells w0 h (isOne w1 (newK h .cells k)) = true := run
  have one : ∀ {r : B}, isOne w1 r = true → x1 = .int 1 ∧ r = true := fun {r} z => by
    cases r1 with
    | int i => match i, z with
      | .ofNat 1, z => exact ⟨rfl, z⟩
    | _ => cases z
  have scr : ∃ a xs, x0 = .ref a ∧ SqL K H a (List.map V.int xs) ∧ xs.length ≤ 63 ∧ isOne w1 (newK h .cells k) = true := by
    cases r0 with
    | @ob m a qa =>
      have run : (match h.get m with | some .cells => isOne w1 (newK h .cells k) | _ => stop 230) = true := run
      split at run
      · next g =>
        obtain ⟨a', qa', _, xs, sq, l⟩ := R.obj m _ g
        rw [qa] at qa'; cases qa'
        exact ⟨a, xs, rfl, sq, l, run⟩
      · cases run
    | @fn m a qa =>
      cases m with
      | zero =>
        obtain ⟨xs, sq, l⟩ := sk a qa
        exact ⟨a, xs, rfl, sq H, l, run⟩
      | succ m => cases run
    | _ => cases run
  obtain ⟨a, xs, rfl, sq, l, run⟩ := scr
  obtain ⟨rfl, run⟩ := one run
  refine ⟨a, xs, rfl, sq, l, fun ys H' p y63 kp hp ep => ?_⟩
  obtain ⟨_, hm, run⟩ := newK_inv run
  obtain ⟨ex, R2⟩ := R.grow kp
  have pn : H' p ≠ none := by rw [ep]; exact fun z => nomatch z
  obtain ⟨ρ', e1, m1, m2, R3⟩ := R2.seeO (w := .cells) (fun n z => R.live n p z hp) pn hm (fun ρ' e0 => ⟨pn, ys, .inl (.inl ep), y63⟩)
  exact fin _ _ _ _ ρ' run ⟨⟨⟨m1, ex.tup, ex.pt⟩, ex.frz⟩, fun n b z => (m2 n b z).elim .inl fun y => .inr (by rw [y]; exact hp), ex.there, ex.keep⟩ R3 (.ob e1)
end
end FE
end
section
set_option Elab.async false
set_option linter.all false
set_option maxRecDepth 100000
/-! FeKw: calls with keywords, all parameters given. -/
namespace FE
open PySem PySem.Spec PyProof.Rows L2
open PySem.SeqAt
section
variable {K : PySem.W.Frag}
theorem vals_nth : ∀ {zs : List V} {ws : List Value} {i : Nat}, Vals zs ws → (∃ z w, nthW zs i = some z ∧ nthW ws i = some w ∧ RelV z w) ∨ (nthW zs i = none ∧ nthW ws i = none)
  | _, _, _, .nil => .inr ⟨by cases ‹Nat› <;> rfl, by cases ‹Nat› <;> rfl⟩
  | _, _, 0, .cons r _ => .inl ⟨_, _, rfl, rfl, r⟩
  | _, _, i + 1, .cons _ r => vals_nth (i := i) r
theorem vals_perm {zs : List V} {ws : List Value} (r : Vals zs ws) : ∀ p : List Nat, Vals (permL zs p) (permL ws p)
  | [] => .nil
  | i :: p => by
    unfold permL
    rcases vals_nth (i := i) r with ⟨z, w, e1, e2, q⟩ | ⟨e1, e2⟩
    · rw [e1, e2]; exact .cons q (vals_perm r p)
    · rw [e1, e2]; exact vals_perm r p
theorem rws_nth {G : GM} {ρ : Rho} {H : Hp} : ∀ {ws : List FE.W} {zs : List V} {i : Nat}, RWs G K ρ H ws zs → (∃ w z, nthW ws i = some w ∧ nthW zs i = some z ∧ RW G K ρ H w z) ∨ (nthW ws i = none ∧ nthW zs i = none)
  | _, _, _, .nil => .inr ⟨by cases ‹Nat› <;> rfl, by cases ‹Nat› <;> rfl⟩
  | _, _, 0, .cons r _ => .inl ⟨_, _, rfl, rfl, r⟩
  | _, _, i + 1, .cons _ r => rws_nth (i := i) r
theorem rws_perm {G : GM} {ρ : Rho} {H : Hp} {ws : List FE.W} {zs : List V} (r : RWs G K ρ H ws zs) : ∀ p : List Nat, RWs G K ρ H (permL ws p) (permL zs p)
  | [] => .nil
  | i :: p => by
    unfold permL
    rcases rws_nth (i := i) r with ⟨z, w, e1, e2, q⟩ | ⟨e1, e2⟩
    · rw [e1, e2]; exact .cons q (rws_perm r p)
    · rw [e1, e2]; exact rws_perm r p
theorem kb_of {x qual : Str} {params : Arguments} {body : List Stmt} {scope : Scope} {f : Addr} {fd : FuncData} {ks ps : List Str} {n : Nat} (F : FunD K x qual params body scope [] [] f fd) (p : List Nat)
    (h : ∀ (kV doc pm : Value) (an : Option Addr) (cdv ct : Value) (us ws : List Value), us.length = n → ws.length = ks.length → bindArgs (PySem.W.fnOf x qual params body scope .none kV doc pm an cdv ct) ⟨us, ks.zip ws⟩ = pure (ps.zip (permL (us ++ ws) p))) :
    KBn K fd ps n ks (fun us ws => permL (us ++ ws) p) (fun us ws => permL (us ++ ws) p) := by
  obtain ⟨oc, od, dV, kV, doc, pm, an, cdv, ct, osl, rfl, lk, hcd, hD, hK⟩ := F.ex
  rcases hD with ⟨_, rfl⟩ | ⟨e, _⟩
  · exact ⟨fun s us ws X l1 l2 => .of_eq (h kV doc pm an cdv ct us ws l1 l2), fun r1 r2 => vals_perm (r1.append r2) p⟩
  · exact absurd rfl e
end
section
variable {X : Cx} {CX : CXT} {k n : Nat} {f : Addr} {fd : FuncData} {ps ks : List Str} {sp : Sp} {E : XK} {x : Str} {p pos : Pos} {kws : List Keyword} {tk : TA} {g : List Value → List Value → List Value} {gV : List V → List V → List V}
/-- f(k = v, ..) -/
theorem pe_callN0 (F : FnOk X.prog X.w X.K X.mg X.base CX k f fd ps sp) (hr : Room k X.A) (hg : Gl X x) (hm : X.mg x = some (.ref f)) (hk : PySem.W.keepIn X.K (.ref f) = true) (hb : KBn X.K fd ps 0 ks g gV) (hx : Passes CX X E) (hkw : PK X kws tk)
    (hall : (backToKw pos (keywordEach kws X.env)).all (·.1.isSome) = true := by rfl) (hks : (backToKw pos (keywordEach kws X.env)).filterMap (·.1) = ks := by rfl) (hdb : (x == ("__debug__" : Str)) = false := by decide)
    (hpl : ((backTo pos (starEach [] X.env)).any (·.1) || (backToKw pos (keywordEach kws X.env)).any (·.1.isNone)) = false := by rfl) : PE X (.Call (.Name x p) [] kws pos) (fun σ H Q => tk σ H fun zs H2 => zs.length = ks.length ∧ sp (gV [] zs) H2 Q E) := by
  refine ⟨fun pins s σ H Q I h => wpAny_Call_Name_kw (ld_glob I hg hm ?_ hdb)⟩
  refine PySem.W.callWith_KW0 (h₀ := X.base) I.ok.mod.kin hk hall (thn (hkw.run pos pins s σ H _ I h) fun ws s2 ⟨zs, H2, I2, rz, l2, q2⟩ => ⟨I2.kIn, ?_⟩) hpl
  rw [hks]
  exact run_fnN (us := []) (vs := []) F hr hb hx I2 .nil rz rfl l2 q2
end
section
variable {X : Cx} {G : GM} {Z : ZF X.K} {P : FE.Prog} {n f m : Nat} {e : Expr} {es : List Expr} {sa : Sem} {sl sk : Slt} {fa : Addr} {fd : FuncData} {ps ks : List Str} {x : Str} {p pos kpos : Pos} {nm : Option Str} {kws : List Keyword} {pm : List Nat}
theorem ek_nil : PK X [] (EvA G X.K Z aNil) := ⟨fun pos pins s σ H Q I ⟨ρ, e, h, kx, k, n, run, fin, _⟩ => (pk_nil (X := X)).run pos pins s σ H Q I (fin [] h [] H ρ run .refl n.rh .nil)⟩
theorem ek_one (ha : PE X e (EvE G X.K Z sa)) (hr : PK X kws (EvA G X.K Z sl)) : PK X (⟨nm, e, kpos⟩ :: kws) (EvA G X.K Z (aOne sa sl)) := ⟨fun pos pins s σ H Q I ⟨ρ, e, h, kx, k, n, run, fin, fx⟩ => (pk_cons ha hr).run pos pins s σ H Q I (by
    have run : sa e h kx (fun w h => sl e h kx fun ws h => k (w :: ws) h) = true := run
    refine EvE.then n run fx fun x h1 v H1 ρ1 t1 n1 r1 run1 fx1 => ?_
    refine EvA.then n1 run1 fx1 fun ws h2 vs H2 ρ2 t2 n2 r2 run2 fx2 => ?_
    exact fin _ h2 _ H2 ρ2 run2 (t1.trans t2) n2.rh (.cons (r1.mono t2) r2))⟩
theorem callP_inv {C : CallT} {us ws : List FE.W} {h : FE.H} {kx : KX} {k : KW} (run : callP C f n pm us ws h kx k = true) : us.length = n ∧ n + ws.length = pm.length ∧ C f (permL (us ++ ws) pm) h kx k = true := by
  unfold callP at run
  split at run
  · next e1 =>
    split at run
    · next e2 => exact ⟨Nat.eq_of_beq_eq_true e1, Nat.eq_of_beq_eq_true e2, run⟩
    · cases run
  · cases run
theorem ev_callK {r : Nat} (F : FnOk X.prog X.w X.K X.mg X.base (CX X.prog X.w) r fa fd ps (SpF G X.K P n f)) (hr : Room r X.A) (hg : Gl X x) (hm : X.mg x = some (.ref fa)) (hk : PySem.W.keepIn X.K (.ref fa) = true) (hb : KBn X.K fd ps 0 ks (fun us ws => permL (us ++ ws) pm) (fun us ws => permL (us ++ ws) pm)) (tk : Takes X fun cls d _ H => Z.e cls d H)
    (ha : PK X kws (EvA G X.K Z sl)) (hp : pm.length = ks.length := by rfl)
    (hall : (backToKw pos (keywordEach kws X.env)).all (·.1.isSome) = true := by rfl) (hks : (backToKw pos (keywordEach kws X.env)).filterMap (·.1) = ks := by rfl) (hdb : (x == ("__debug__" : Str)) = false := by decide)
    (hpl : ((backTo pos (starEach [] X.env)).any (·.1) || (backToKw pos (keywordEach kws X.env)).any (·.1.isNone)) = false := by rfl) : PE X (.Call (.Name x p) [] kws pos) (EvE G X.K Z (cCallP (callN P n) f 0 pm aNil sl)) :=
  (pe_callN0 F hr hg hm hk hb (passes_call tk fun _ _ _ _ h => h) ha hall hks hdb hpl).imp fun σ H Q ⟨ρ, e, h, kx, k, n0, run, fin, fx⟩ => by
    have run : sl e h kx (fun ws h => callP (callN P n) f 0 pm [] ws h kx k) = true := run
    refine EvA.then n0 run fx fun ws h1 vs H1 ρ1 t1 n1 r1 run1 fx1 => ?_
    obtain ⟨_, l2, run1⟩ := callP_inv run1
    exact ⟨by rw [← r1.length, ← hp, ← l2, Nat.zero_add], ρ1, h1, k, kx, _, n1.rh, rws_perm r1 pm, run1, fin.mono t1, fx1.to⟩
theorem ev_callKN {r : Nat} (F : FnOk X.prog X.w X.K X.mg X.base (CX X.prog X.w) r fa fd ps (SpF G X.K P n f)) (hr : Room r X.A) (hg : Gl X x) (hm : X.mg x = some (.ref fa)) (hk : PySem.W.keepIn X.K (.ref fa) = true) (hb : KBn X.K fd ps m ks (fun us ws => permL (us ++ ws) pm) (fun us ws => permL (us ++ ws) pm)) (tk : Takes X fun cls d _ H => Z.e cls d H)
    (hes : PA X (e :: es) (EvA G X.K Z sk)) (ha : PK X kws (EvA G X.K Z sl)) (hp : pm.length = m + ks.length := by rfl)
    (hall : (backToKw pos (keywordEach kws X.env)).all (·.1.isSome) = true := by rfl) (hks : (backToKw pos (keywordEach kws X.env)).filterMap (·.1) = ks := by rfl) (hdb : (x == ("__debug__" : Str)) = false := by decide)
    (he : starEach (e :: es) X.env = (false, eval e X.env) :: starEach es X.env := by rfl)
    (hpl : ((backTo pos (starEach (e :: es) X.env)).any (·.1) || (backToKw pos (keywordEach kws X.env)).any (·.1.isNone)) = false := by rfl) : PE X (.Call (.Name x p) (e :: es) kws pos) (EvE G X.K Z (cCallP (callN P n) f m pm sk sl)) :=
  (pe_callN F hr hg hm hk hb (passes_call tk fun _ _ _ _ h => h) hes ha hall hks hdb he hpl).imp fun σ H Q ⟨ρ, e, h, kx, k, n0, run, fin, fx⟩ => by
    have run : sk e h kx (fun us h => sl e h kx fun ws h => callP (callN P n) f m pm us ws h kx k) = true := run
    refine EvA.then n0 run fx fun us h0 xs H0 ρ0 t0 m0 r0 run0 fx0 => ?_
    refine EvA.then m0 run0 fx0 fun ws h1 vs H1 ρ1 t1 n1 r1 run1 fx1 => ?_
    obtain ⟨l1, l2, run1⟩ := callP_inv run1
    exact ⟨by rw [← r0.length, l1], by rw [← r1.length]; omega, ρ1, h1, k, kx, _, n1.rh, rws_perm ((r0.mono t1).append r1) pm, run1, (fin.mono t0).mono t1, fx1.to⟩
end
end FE
end
section
set_option Elab.async false
set_option linter.all false
set_option maxRecDepth 100000
/-! FeB1: int(..). -/
namespace FE
open PySem PySem.Spec PyProof.Rows L2
section
variable {X : Cx} {G : GM} {Z : ZF X.K} {a : Expr} {sa : Sem} {p pos : Pos}
theorem ev_int (hg : Gl X "int") (hm : X.mg "int" = none) (ha : PE X a (EvE G X.K Z sa)) (hs : starEach (a :: []) X.env = (false, eval a X.env) :: starEach [] X.env := by rfl) : PE X (.Call (.Name "int" p) [a] [] pos) (EvE G X.K Z (cB1 .int sa)) :=
  (pe_callTy call_int1 hg hm (by rfl) (pa_1 ha hs) (by decide) (by decide) hs).imp fun σ H Q ⟨ρ, e, h, kx, k, n, run, fin, fx⟩ => by
    have run : sa e h kx (fun w h => b1W .int w h k) = true := run
    refine EvE.then n run fx fun x h1 v H1 ρ1 t1 n1 r1 run1 _ => ?_
    cases r1 with
    | int i => exact .inl ⟨i, rfl, fin (.int i) h1 (.int i) H1 ρ1 run1 t1 n1.rh (.int i)⟩
    | bl b => exact .inr ⟨b, rfl, by cases b <;> exact fin _ h1 _ H1 ρ1 run1 t1 n1.rh (.int _)⟩
    | _ => cases run1
end
end FE
end
section
set_option Elab.async false
set_option linter.all false
set_option maxRecDepth 100000
/-! FeSort: sorted. -/
namespace FE
open PySem PySem.Spec PyProof.Rows L2
open PySem.SeqAt
/-! ### insertion, by a number -/
section
variable {α β : Type}
def insK (g : α → Nat) (p : α) : List α → List α
  | [] => [p]
  | q :: qs => match Nat.blt (g q) (g p) with
    | true => p :: q :: qs
    | false => q :: insK g p qs
def sortK (g : α → Nat) : List α → List α → List α
  | acc, [] => acc
  | acc, p :: r => sortK g (insK g p acc) r
theorem insK_map {g : α → Nat} {k : β → Nat} (f : α → β) (h : ∀ x, k (f x) = g x) (p : α) : ∀ l : List α, (insK g p l).map f = insK k (f p) (l.map f)
  | [] => rfl
  | q :: qs => by
    show (match Nat.blt (g q) (g p) with | true => p :: q :: qs | false => q :: insK g p qs).map f = match Nat.blt (k (f q)) (k (f p)) with | true => f p :: f q :: qs.map f | false => f q :: insK k (f p) (qs.map f)
    rw [h, h]
    cases Nat.blt (g q) (g p) with
    | true => rfl
    | false => rw [← insK_map f h p qs]; rfl
theorem sortK_map {g : α → Nat} {k : β → Nat} (f : α → β) (h : ∀ x, k (f x) = g x) : ∀ (l acc : List α), (sortK g acc l).map f = sortK k (acc.map f) (l.map f)
  | [], _ => rfl
  | p :: r, acc => by
    show (sortK g (insK g p acc) r).map f = sortK k (insK k (f p) (acc.map f)) (r.map f)
    rw [sortK_map f h r, insK_map f h]
abbrev ltN (g : α → Nat) (x y : α) : Bool := decide (g y < g x)
theorem ltN_swo (g : α → Nat) : SrtO.Swo (ltN g) := ⟨fun x y h => by have := of_decide_eq_true h; exact decide_eq_false (by omega), fun x y z h1 h2 => by
  have a := of_decide_eq_false h1; have b := of_decide_eq_false h2; exact decide_eq_false (by omega)⟩
theorem insK_perm (g : α → Nat) (p : α) : ∀ l : List α, (insK g p l).Perm (p :: l)
  | [] => List.Perm.refl _
  | q :: qs => by
    unfold insK
    cases Nat.blt (g q) (g p) with
    | true => exact List.Perm.refl _
    | false => exact ((insK_perm g p qs).cons q).trans (List.Perm.swap p q qs)
theorem insK_srtd (g : α → Nat) (p : α) : ∀ l : List α, SrtO.Srtd (ltN g) l → SrtO.Srtd (ltN g) (insK g p l)
  | [], _ => List.pairwise_singleton _ _
  | q :: qs, h => by
    have h : List.Pairwise (fun x y => ltN g y x = false) (q :: qs) := h
    obtain ⟨h1, h2⟩ := List.pairwise_cons.mp h
    unfold insK
    cases e : Nat.blt (g q) (g p) with
    | true =>
      have e := Nat.blt_eq.mp e
      refine List.pairwise_cons.mpr ⟨fun y hy => ?_, h⟩
      rcases List.mem_cons.mp hy with z | hy
      · subst z; exact decide_eq_false (by omega)
      · have := of_decide_eq_false (h1 y hy)
        exact decide_eq_false (by omega)
    | false =>
      have e : ¬ g q < g p := fun z => by rw [Nat.blt_eq.mpr z] at e; cases e
      refine List.pairwise_cons.mpr ⟨fun y hy => ?_, insK_srtd g p qs h2⟩
      rcases List.mem_cons.mp ((insK_perm g p qs).mem_iff.mp hy) with z | hy
      · subst z; exact decide_eq_false (by omega)
      · exact h1 y hy
theorem insK_cls (g : α → Nat) (p x : α) : ∀ l : List α, SrtO.Srtd (ltN g) l → (insK g p l).filter (SrtO.eqv (ltN g) x) = (l ++ [p]).filter (SrtO.eqv (ltN g) x)
  | [], _ => rfl
  | q :: qs, h => by
    have h : List.Pairwise (fun x y => ltN g y x = false) (q :: qs) := h
    obtain ⟨h1, h2⟩ := List.pairwise_cons.mp h
    unfold insK
    cases e : Nat.blt (g q) (g p) with
    | false =>
      show (q :: insK g p qs).filter _ = (q :: (qs ++ [p])).filter _
      rw [List.filter_cons, List.filter_cons, insK_cls g p x qs h2]
    | true =>
      have e := Nat.blt_eq.mp e
      show (p :: q :: qs).filter _ = ((q :: qs) ++ [p]).filter _
      rw [List.filter_append, List.filter_cons]
      by_cases c : SrtO.eqv (ltN g) x p = true
      · rw [if_pos c]
        have none_ : (q :: qs).filter (SrtO.eqv (ltN g) x) = [] := by
          refine List.filter_eq_nil_iff.mpr fun y hy c2 => ?_
          have ep : g x = g p := by
            simp [SrtO.eqv] at c; omega
          have ey : g x = g y := by
            simp [SrtO.eqv] at c2; omega
          rcases List.mem_cons.mp hy with z | hy
          · subst z; omega
          · have := of_decide_eq_false (h1 y hy); omega
        rw [none_, List.filter_cons, if_pos c]; rfl
      · rw [if_neg c, List.filter_cons (x := p), if_neg c]; simp
theorem sortK_ok (g : α → Nat) : ∀ (l acc : List α), SrtO.Srtd (ltN g) acc → SrtO.Srtd (ltN g) (sortK g acc l) ∧ SrtO.Stb (ltN g) (sortK g acc l) (acc ++ l)
  | [], acc, h => ⟨h, by rw [List.append_nil]; exact SrtO.Stb.refl _⟩
  | p :: r, acc, h => by
    obtain ⟨a, b⟩ := sortK_ok g r (insK g p acc) (insK_srtd g p acc h)
    refine ⟨a, b.trans ⟨?_, fun x => ?_⟩⟩
    · exact ((insK_perm g p acc).append_right r).trans (by
        show (p :: acc ++ r).Perm (acc ++ p :: r)
        exact List.perm_middle.symm)
    · rw [List.filter_append, insK_cls g p x acc h, ← List.filter_append, List.append_assoc]; rfl
end
/-! ### the model's comparisons -/
section
open PySem.W
variable {prog : Program} {w : World} {A : Around} {s : Shared} {Q : Bool → Shared → Prop} {b fin : Bool}
theorem kat_lts {us vs : List Value} {r : Bool} (h : Lts A s us vs r) : ∀ {i : Nat}, fin = decide (us.length < vs.length) → Q r s → KatLex prog w A b fin Q (us.zip vs) (i + 1) s := by
  induction h with
  | end_ => intro i e q; rw [List.zip_nil_right]; refine kat_nil ?_; rw [e, show decide (_ < ([] : List Value).length) = false from decide_eq_false (Nat.not_lt_zero _)]; exact q
  | short => intro i e q; refine kat_nil ?_; rw [e, show decide (([] : List Value).length < (_ :: _ : List Value).length) = true from decide_eq_true (Nat.succ_pos _)]; exact q
  | same h _ ih => intro i e q; exact kat_cons (h prog w _ _ (kat_yes (ih (e.trans (by simp)) q)))
  | other h l =>
    intro i e q
    refine kat_cons (h prog w _ _ (kat_no ?_))
    rw [show (b && (i + 1 == 0)) = false from by cases b <;> rfl]
    exact kat_one _ _ (l prog w _ _ q)
end
def kdOf : Nat → SortKind
  | 1 => oneType'
  | 2 => oneType'
  | 3 => tuples' true
  | 4 => tuples' true
  | _ => tuples' false
section
open PySem.W
variable {X : Cx} {G : GM} {pins : List (Addr × Obj)} {σ : L2.St} {H : Hp} {s : Shared} {ρ : Rho} {h : FE.H}
/-- the first items of two tuples -/
theorem lt_first {A : Around} {n : Nat} {a c : FE.W} {r bb : Bool} {x y : V} {u v : Value} {Q : Bool → Shared → Prop} (I : Inv X pins σ H s) (R : RH G X.K ρ h H) (hu : A.units + n < cLine)
    (e : ltW h n a c = some r) (ra : RW G X.K ρ H a x) (rc : RW G X.K ρ H c y) (rx : RelV x u) (ry : RelV y v) (hb : bb = true → (∃ i j, a = .int i ∧ c = .int j) ∨ (∃ i j, a = .str i ∧ c = .str j)) (q : Q r s) : wpAny (model X.prog X.w) A (oneLt' bb u v) Q (fun _ _ => False) s := by
  cases bb with
  | false => exact kat_one _ _ (lt_at I R n e ra rc rx ry hu X.prog X.w _ _ q)
  | true =>
    cases n with
    | zero => cases e
    | succ n =>
      rcases hb rfl with ⟨i, j, rfl, rfl⟩ | ⟨i, j, rfl, rfl⟩
      · have e : some (ltZ i j) = some r := e
        cases ra; cases rc
        obtain ⟨tx, rfl⟩ := rx
        obtain ⟨ty, rfl⟩ := ry
        refine oneLt_any_int ?_
        rw [← ltZ_eq, Option.some.inj e]; exact q
      · have e : some (ltS i j) = some r := e
        cases ra; cases rc
        obtain ⟨tx, rfl⟩ := rx
        obtain ⟨ty, rfl⟩ := ry
        refine oneLt_any_str ?_
        rw [ltS_eq] at e
        have e := Option.some.inj e
        subst e
        exact q
theorem cmp_at {A : Around} {n t : Nat} {a c : FE.W} {r : Bool} {x y : V} {u v : Value} (I : Inv X pins σ H s) (R : RH G X.K ρ h H) (hu : A.units + n < cLine) (e : ltW h (n + 1) a c = some r) (ta : sortTag a = t + 1) (tc : sortTag c = t + 1) (ra : RW G X.K ρ H a x) (rc : RW G X.K ρ H c y) (rx : RelV x u) (ry : RelV y v) :
    wpAny (model X.prog X.w) A (keyLt' (kdOf (t + 1)) u v) (fun r' s' => s' = s ∧ r' = r) (fun _ _ => False) s := by
  have e : ltStep (eqW h n) (ltW h n) a c = some r := e
  cases ra with
  | int i =>
    have : t = 0 := by have z : 1 = t + 1 := ta; omega
    subst this
    cases rc with
    | int j =>
      obtain ⟨tx, rfl⟩ := rx
      obtain ⟨ty, rfl⟩ := ry
      have e : some (ltZ i j) = some r := e
      show wpAny _ _ (keyLt' oneType' _ _) _ _ _
      rw [keyLt'_oneType]
      refine oneLt_any_int ⟨rfl, ?_⟩
      rw [← ltZ_eq]; exact Option.some.inj e
    | non => cases e
    | bl c => cases e
    | str cs => cases e
    | tup _ _ => cases e
    | ob _ => cases e
    | cls _ => cases e
    | fn _ => cases e
  | str cs =>
    have : t = 1 := by have z : 2 = t + 1 := ta; omega
    subst this
    cases rc with
    | str ds =>
      obtain ⟨tx, rfl⟩ := rx
      obtain ⟨ty, rfl⟩ := ry
      have e : some (ltS cs ds) = some r := e
      show wpAny _ _ (keyLt' oneType' _ _) _ _ _
      rw [keyLt'_oneType]
      rw [ltS_eq] at e
      have e := Option.some.inj e
      subst e
      exact oneLt_any_str ⟨rfl, rfl⟩
    | non => cases e
    | bl c => cases e
    | int i => cases e
    | tup _ _ => cases e
    | ob _ => cases e
    | cls _ => cases e
    | fn _ => cases e
  | @tup ws p xs hp rs =>
    cases rc with
    | @tup ws2 p2 xs2 hp2 rs2 =>
      have rx : u = .ref p := rx
      have ry : v = .ref p2 := ry
      subst rx ry
      have e : ltWs (eqW h n) (ltW h n) ws ws2 = some r := e
      obtain ⟨its, o, k, va, ho, hc, hd⟩ := sqT_at I.hok I.kIn hp
      obtain ⟨its2, o2, k2, va2, ho2, hc2, hd2⟩ := sqT_at I.hok I.kIn hp2
      have ihe : ∀ {a b : FE.W} {r : Bool} {x y : V} {u v : Value}, eqW h n a b = some r → RW G X.K ρ H a x → RW G X.K ρ H b y → RelV x u → RelV y v → EqAt A s u v r := fun e a b c d => eq_at I R n e a b c d hu
      have ihl : ∀ {a b : FE.W} {r : Bool} {x y : V} {u v : Value}, ltW h n a b = some r → RW G X.K ρ H a x → RW G X.K ρ H b y → RelV x u → RelV y v → LtAt A s u v r := fun e a b c d => lt_at I R n e a b c d hu
      obtain ⟨bb, hk, hbb⟩ : ∃ bb, kdOf (t + 1) = tuples' bb ∧ (bb = true → t = 2 ∨ t = 3) := by
        rcases t with _ | _ | _ | _ | t
        · exfalso; cases ws with
          | nil => cases ta
          | cons a ws => cases a <;> cases ta
        · exfalso; cases ws with
          | nil => cases ta
          | cons a ws => cases a <;> cases ta
        · exact ⟨true, rfl, fun _ => .inl rfl⟩
        · exact ⟨true, rfl, fun _ => .inr rfl⟩
        · exact ⟨false, rfl, fun z => nomatch z⟩
      rw [hk]
      refine kat_lt ho hd ho2 hd2 ?_
      show KatLex _ _ _ _ (decide (its.length < its2.length)) _ (its.zip its2) 0 s
      cases rs with
      | nil => cases ta
      | @cons a x ws xs ra rs =>
        cases rs2 with
        | nil => cases tc
        | @cons a2 x2 ws2 xs2 ra2 rs2 =>
          cases va with
          | @cons _ u xs us ru rus =>
            cases va2 with
            | @cons _ u2 xs2 us2 ru2 rus2 =>
              unfold ltWs at e
              split at e
              · next q => exact kat_cons (ihe q ra ra2 ru ru2 X.prog X.w _ _ (kat_yes (kat_lts (lts_of ihe ihl e rs rs2 rus rus2) (by simp) ⟨rfl, rfl⟩)))
              · next q =>
                refine kat_cons (ihe q ra ra2 ru ru2 X.prog X.w _ _ (kat_no ?_))
                refine lt_first I R hu e ra ra2 ru ru2 (fun z => ?_) ⟨rfl, rfl⟩
                have z : bb = true := by cases bb with | true => rfl | false => cases z
                rcases hbb z with rfl | rfl
                · left
                  cases a with
                  | int i => cases a2 with
                    | int j => exact ⟨i, j, rfl, rfl⟩
                    | _ => cases tc
                  | _ => cases ta
                · right
                  cases a with
                  | str i => cases a2 with
                    | str j => exact ⟨i, j, rfl, rfl⟩
                    | _ => cases tc
                  | _ => cases ta
              · cases e
    | non => cases e
    | bl c => cases e
    | int i => cases e
    | str _ => cases e
    | ob _ => cases e
    | cls _ => cases e
    | fn _ => cases e
  | non => cases e
  | bl c => cases e
  | ob _ => cases e
  | cls _ => cases e
  | fn _ => cases e
end
end FE
end
section
set_option Elab.async false
set_option linter.all false
set_option maxRecDepth 100000
/-! FeSort2: sorted(..) of a list. -/
namespace FE
open PySem PySem.Spec PyProof.Rows L2
open PySem.SeqAt
section
variable {α β : Type}
theorem insK_on {g : α → Nat} {k : β → Nat} (f : α → β) (p : α) (hp : k (f p) = g p) : ∀ l : List α, (∀ x ∈ l, k (f x) = g x) → (insK g p l).map f = insK k (f p) (l.map f)
  | [], _ => rfl
  | q :: qs, h => by
    show (match Nat.blt (g q) (g p) with | true => p :: q :: qs | false => q :: insK g p qs).map f = match Nat.blt (k (f q)) (k (f p)) with | true => f p :: f q :: qs.map f | false => f q :: insK k (f p) (qs.map f)
    rw [hp, h q List.mem_cons_self]
    cases Nat.blt (g q) (g p) with
    | true => rfl
    | false => rw [← insK_on f p hp qs fun x m => h x (List.mem_cons_of_mem _ m)]; rfl
theorem sortK_on {g : α → Nat} {k : β → Nat} (f : α → β) : ∀ (l acc : List α), (∀ x ∈ l, k (f x) = g x) → (∀ x ∈ acc, k (f x) = g x) → (sortK g acc l).map f = sortK k (acc.map f) (l.map f)
  | [], _, _, _ => rfl
  | p :: r, acc, h, ha => by
    show (sortK g (insK g p acc) r).map f = sortK k (insK k (f p) (acc.map f)) (r.map f)
    rw [sortK_on f r _ (fun x m => h x (List.mem_cons_of_mem _ m)) (fun x m => by
      rcases List.mem_cons.mp ((insK_perm g p acc).mem_iff.mp m) with z | m
      · subst z; exact h _ List.mem_cons_self
      · exact ha x m), insK_on f p (h p List.mem_cons_self) acc ha]
theorem allP_mem {f : α → Bool} : ∀ {l : List α}, allP f l = true → ∀ x ∈ l, f x = true
  | y :: l, h, x, m => by
    unfold allP at h
    split at h
    · next e =>
      rcases List.mem_cons.mp m with z | m
      · subst z; exact e
      · exact allP_mem h x m
    · cases h
theorem stb_symm {lt : α → α → Bool} {l m : List α} (h : SrtO.Stb lt l m) : SrtO.Stb lt m l := ⟨h.perm.symm, fun x => (h.cls x).symm⟩
end
theorem insR_eq (p : Srow) : ∀ l, insR p l = insK (fun x : Srow => x.1) p l
  | [] => rfl
  | q :: qs => by
    show (match Nat.blt q.1 p.1 with | true => p :: q :: qs | false => q :: insR p qs) = match Nat.blt q.1 p.1 with | true => p :: q :: qs | false => q :: insK (fun x : Srow => x.1) p qs
    rw [insR_eq p qs]
theorem sortR_eq : ∀ (l acc : List Srow), sortR acc l = sortK (fun x : Srow => x.1) acc l
  | [], _ => rfl
  | p :: r, acc => by show sortR (insR p acc) r = sortK _ (insK _ p acc) r; rw [sortR_eq r, insR_eq]
theorem rowsW_eq : ∀ l : List Srow, rowsW l = l.map (·.2.2)
  | [] => rfl
  | p :: r => by show p.2.2 :: rowsW r = p.2.2 :: r.map _; rw [rowsW_eq r]
section
variable {lt : FE.W → FE.W → Option Bool}
theorem mkRows_ok {ws : List FE.W} : ∀ {l : List FE.W} {rs : List Srow}, mkRows lt ws l = some rs → rs.map (·.2.2) = l ∧ ∀ p ∈ rs, rowOf lt p.2.2 ws = some p.2.1 ∧ p.1 = cntT p.2.1
  | [], rs, e => by cases e; exact ⟨rfl, fun p m => nomatch m⟩
  | x :: r, rs, e => by
    unfold mkRows at e
    split at e
    · next b eb =>
      split at e
      · next l el =>
        cases e
        obtain ⟨h1, h2⟩ := mkRows_ok el
        refine ⟨by rw [List.map_cons, h1], fun p m => ?_⟩
        rcases List.mem_cons.mp m with z | m
        · subst z; exact ⟨eb, rfl⟩
        · exact h2 p m
      · cases e
    · cases e
theorem okRow_ok {x : FE.W} {g : Nat} : ∀ {rs : List Srow} {bs : List Bool}, rowOf lt x (rs.map (·.2.2)) = some bs → okRow g bs rs = true → ∀ q ∈ rs, lt x q.2.2 = some (Nat.blt q.1 g)
  | q :: qs, bs, e, ok, p, m => by
    rw [List.map_cons] at e
    unfold rowOf at e
    split at e
    · next b eb =>
      split at e
      · next l el =>
        cases e
        unfold okRow at ok
        split at ok
        · next z =>
          split at ok
          · rcases List.mem_cons.mp m with y | m
            · subst y; rw [eb, z]
            · exact okRow_ok el ok p m
          · cases ok
        · next z =>
          split at ok
          · cases ok
          · rcases List.mem_cons.mp m with y | m
            · subst y; rw [eb, z]
            · exact okRow_ok el ok p m
      · cases e
    · cases e
theorem okRows_ok {rs : List Srow} : ∀ {l : List Srow}, okRows rs l = true → ∀ p ∈ l, okRow p.1 p.2.1 rs = true
  | q :: l, h, p, m => by
    unfold okRows at h
    split at h
    · next e =>
      rcases List.mem_cons.mp m with z | m
      · subst z; exact e
      · exact okRows_ok h p m
    · cases h
end
section
variable {X : Cx} {G : GM} {pins : List (Addr × Obj)} {σ : L2.St} {H : Hp} {s : Shared} {ρ : Rho} {h : FE.H}
theorem relV_inj {x y : V} {u : Value} (a : RelV x u) (b : RelV y u) : x = y := by
  cases x <;> cases y <;> simp only [L2.RelV] at a b <;> first
    | rfl
    | (subst a; cases b; rfl)
    | (subst a; cases b; done)
    | (obtain ⟨t, rfl⟩ := a; obtain ⟨t2, e⟩ := b; cases e; rfl)
    | (obtain ⟨t, rfl⟩ := a; obtain ⟨t2, e⟩ := b; cases e; done)
    | (obtain ⟨t, rfl⟩ := a; cases b; done)
    | (obtain ⟨t, rfl⟩ := b; cases a; done)
/-- pure values are told by what stands for them -/
theorem rw_uniq (I : Inv X pins σ H s) : ∀ (n : Nat) {a b : FE.W} {x y : V} {u : Value}, pureW n a = true → pureW n b = true → RW G X.K ρ H a x → RW G X.K ρ H b y → RelV x u → RelV y u → a = b
  | 0, _, _, _, _, _, pa, _, _, _, _, _ => by cases pa
  | n + 1, a, b, x, y, u, pa, pb, ra, rb, rx, ry => by
    have e := relV_inj rx ry
    subst e
    cases ra with
    | non => cases rb with | non => rfl
    | bl c => cases rb with | bl => rfl
    | int c => cases rb with | int => rfl
    | str c =>
      generalize ec : (V.str (toS c)) = v at rb
      cases rb with
      | str d =>
        injection ec with ec
        injection ec with ec
        rw [show c = d from by simpa using congrArg Array.toList ec]
      | non => cases ec
      | bl => cases ec
      | int => cases ec
      | tup _ _ => cases ec
      | ob _ => cases ec
      | cls _ => cases ec
      | fn _ => cases ec
    | ob _ => cases pa
    | cls _ => cases pa
    | fn _ => cases pa
    | @tup ws p xs hp rs =>
      cases rb with
      | ob _ => cases pb
      | cls _ => cases pb
      | fn _ => cases pb
      | @tup ws2 _ xs2 hp2 rs2 =>
        obtain ⟨its, o, k, va, ho, hc, hd⟩ := sqT_at I.hok I.kIn hp
        obtain ⟨its2, o2, k2, va2, ho2, hc2, hd2⟩ := sqT_at I.hok I.kIn hp2
        rw [ho] at ho2
        cases ho2
        rw [hd] at hd2
        injection hd2 with z1 z2
        have ei : its = its2 := by simpa using congrArg Array.toList z1
        subst ei
        have pa : allP (pureW n) ws = true := pa
        have pb : allP (pureW n) ws2 = true := pb
        have go : ∀ {ws ws2 : List FE.W} {xs xs2 : List V} {its : List Value}, (∀ w ∈ ws, pureW n w = true) → (∀ w ∈ ws2, pureW n w = true) → RWs G X.K ρ H ws xs → RWs G X.K ρ H ws2 xs2 → Vals xs its → Vals xs2 its → ws = ws2 := by
          intro ws
          induction ws with
          | nil =>
            intro ws2 xs xs2 its _ _ r r2 v v2
            cases r; cases v; cases v2; cases r2; rfl
          | cons w ws ih =>
            intro ws2 xs xs2 its h1 h2 r r2 v v2
            cases r with
            | cons a r =>
              cases v with
              | cons b v =>
                cases v2 with
                | cons b2 v2 =>
                  cases r2 with
                  | cons a2 r2 =>
                    rw [rw_uniq I n (h1 _ List.mem_cons_self) (h2 _ List.mem_cons_self) a a2 b b2, ih (fun w m => h1 w (List.mem_cons_of_mem _ m)) (fun w m => h2 w (List.mem_cons_of_mem _ m)) r r2 v v2]
        rw [go (allP_mem pa) (allP_mem pb) rs rs2 va va2]
/-- three lists that stand for one another, in one -/
theorem zip3 {β : Type} {f : β → FE.W} : ∀ {l : List β} {xs : List V} {us : List Value}, RWs G X.K ρ H (l.map f) xs → Vals xs us → ∃ T : List (β × V × Value), T.map (·.1) = l ∧ T.map (·.2.1) = xs ∧ T.map (·.2.2) = us ∧ ∀ p ∈ T, RW G X.K ρ H (f p.1) p.2.1 ∧ RelV p.2.1 p.2.2
  | [], _, _, r, v => by cases r; cases v; exact ⟨[], rfl, rfl, rfl, fun p m => nomatch m⟩
  | b :: l, _, _, r, v => by
    cases r with
    | @cons _ x _ xs a r =>
      cases v with
      | @cons _ u _ us c v =>
        obtain ⟨T, h1, h2, h3, h4⟩ := zip3 (l := l) r v
        refine ⟨(b, x, u) :: T, by rw [List.map_cons, h1], by rw [List.map_cons, h2], by rw [List.map_cons, h3], fun p m => ?_⟩
        rcases List.mem_cons.mp m with z | m
        · subst z; exact ⟨a, c⟩
        · exact h4 p m
theorem unzip3 {β : Type} {f : β → FE.W} : ∀ {T : List (β × V × Value)}, (∀ p ∈ T, RW G X.K ρ H (f p.1) p.2.1 ∧ RelV p.2.1 p.2.2) → RWs G X.K ρ H ((T.map (·.1)).map f) (T.map (·.2.1)) ∧ Vals (T.map (·.2.1)) (T.map (·.2.2))
  | [], _ => ⟨.nil, .nil⟩
  | p :: T, h => ⟨.cons (h p List.mem_cons_self).1 (unzip3 fun q m => h q (List.mem_cons_of_mem _ m)).1, .cons (h p List.mem_cons_self).2 (unzip3 fun q m => h q (List.mem_cons_of_mem _ m)).2⟩
/-- which comparison the model takes -/
theorem kind_at {A : Around} {E : Value → Shared → Prop} {t : Nat} {T : List (Srow × V × Value)} {Q : SortKind → Shared → Prop} (I : Inv X pins σ H s) (h4 : ∀ p ∈ T, RW G X.K ρ H p.1.2.2 p.2.1 ∧ RelV p.2.1 p.2.2) (tag : ∀ p ∈ T, sortTag p.1.2.2 = t + 1) (h2 : 2 ≤ T.length) (q : Q (kdOf (t + 1)) s) :
    wpAny (model X.prog X.w) A (keyKind' (T.map (·.2.2)).toArray) Q E s := by
  have h2' : 2 ≤ (T.map (·.2.2)).length := by rw [List.length_map]; exact h2
  have atom : ∀ {Ty : String}, (∀ p ∈ T, PySem.W.Looks (model X.prog X.w) s.heap (typeOf p.2.2) (.type Ty)) → ∀ v ∈ T.map (·.2.2), PySem.W.Looks (model X.prog X.w) s.heap (typeOf v) (.type Ty) := fun hh v hv => by
    obtain ⟨p, m, rfl⟩ := List.mem_map.mp hv
    exact hh p m
  have firsts : ∀ {Ty : String}, 2 ≤ t → (∀ p ∈ T, ∀ (w : FE.W) (x : V) (u : Value) (ws : List FE.W), p.1.2.2 = .tup (w :: ws) → RW G X.K ρ H w x → RelV x u → PySem.W.Looks (model X.prog X.w) s.heap (typeOf u) (.type Ty)) →
      ∃ fs, PySem.W.KatTups s.heap (T.map (·.2.2)) fs ∧ fs.length = T.length ∧ ∀ f ∈ fs, PySem.W.Looks (model X.prog X.w) s.heap (typeOf f) (.type Ty) := by
    intro Ty ht hh
    clear h2 h2' atom q
    induction T with
    | nil => exact ⟨[], .nil, rfl, fun f m => nomatch m⟩
    | cons p T ih =>
      obtain ⟨fs, a, b, c⟩ := ih (fun p m => h4 p (List.mem_cons_of_mem _ m)) (fun p m => tag p (List.mem_cons_of_mem _ m)) (fun p m => hh p (List.mem_cons_of_mem _ m))
      obtain ⟨⟨g, bs, w⟩, x, u⟩ := p
      obtain ⟨r1, r2⟩ := h4 _ List.mem_cons_self
      have tg := tag _ List.mem_cons_self
      have hh1 := hh _ List.mem_cons_self
      dsimp only at r1 r2 tg hh1
      cases r1 with
      | @tup ws p xs hp rs =>
        cases rs with
        | nil => cases tg
        | @cons a1 x1 ws xs ra rs =>
          obtain ⟨its, o, k, va, ho, hc, hd⟩ := sqT_at I.hok I.kIn hp
          cases va with
          | @cons _ u1 _ us ru rus =>
            have r2 : u = .ref p := r2
            subst r2
            refine ⟨u1 :: fs, .cons ho hc hd rfl a, by simp [b], fun f m => ?_⟩
            rcases List.mem_cons.mp m with z | m
            · subst z; exact hh1 _ _ _ _ rfl ra ru
            · exact c f m
      | int i => have z : 1 = t + 1 := tg; omega
      | str cs => have z : 2 = t + 1 := tg; omega
      | non => cases tg
      | bl c => cases tg
      | ob _ => cases tg
      | cls _ => cases tg
      | fn _ => cases tg
  rcases t with _ | _ | _ | _ | t
  · refine PySem.W.kas_kind (T := .type "int") h2' (atom fun p m => ?_) (by decide) (by decide) q
    obtain ⟨r1, r2⟩ := h4 p m
    have tg := tag p m
    obtain ⟨⟨g, bs, w⟩, x, u⟩ := p
    dsimp only at r1 r2 tg ⊢
    cases r1 with
    | int i =>
      obtain ⟨tk, e⟩ := r2
      rw [e]; exact PySem.W.Looks.now
    | tup _ rs => cases rs with
      | nil => cases tg
      | cons ra _ => cases ra <;> cases tg
    | _ => cases tg
  · refine PySem.W.kas_kind (T := .type "str") h2' (atom fun p m => ?_) (by decide) (by decide) q
    obtain ⟨r1, r2⟩ := h4 p m
    have tg := tag p m
    obtain ⟨⟨g, bs, w⟩, x, u⟩ := p
    dsimp only at r1 r2 tg ⊢
    cases r1 with
    | str i =>
      obtain ⟨tk, e⟩ := r2
      rw [e]; exact PySem.W.Looks.now
    | tup _ rs => cases rs with
      | nil => cases tg
      | cons ra _ => cases ra <;> cases tg
    | _ => cases tg
  · obtain ⟨fs, a, b, c⟩ := firsts (Ty := "int") (Nat.le_refl 2) fun p m w x u ws e ra ru => by
      have tg := tag p m
      rw [e] at tg
      cases ra with
      | int i => obtain ⟨tk, e⟩ := ru; rw [e]; exact PySem.W.Looks.now
      | _ => cases tg
    exact PySem.W.kat_kind a (by omega) c (by decide) q
  · obtain ⟨fs, a, b, c⟩ := firsts (Ty := "str") (by omega) fun p m w x u ws e ra ru => by
      have tg := tag p m
      rw [e] at tg
      cases ra with
      | str i => obtain ⟨tk, e⟩ := ru; rw [e]; exact PySem.W.Looks.now
      | _ => cases tg
    exact PySem.W.kat_kind a (by omega) c (by decide) q
  · obtain ⟨fs, a, b, c⟩ := firsts (Ty := "tuple") (by omega) fun p m w x u ws e ra ru => by
      have tg := tag p m
      rw [e] at tg
      cases ra with
      | tup hp rs =>
        obtain ⟨its, o, k, va, ho, hc, hd⟩ := sqT_at I.hok I.kIn hp
        have ru : u = .ref _ := ru
        subst ru
        rw [← hc]
        exact (PySem.W.Looks.ld ho).andThen .now
      | _ => cases tg
    exact PySem.W.kat_kind a (by omega) c (by decide) q
end
end FE
end
section
set_option Elab.async false
set_option linter.all false
set_option maxRecDepth 100000
/-! FeSort3: sorted(..), the rule. -/
namespace FE
open PySem PySem.Spec PyProof.Rows L2
open PySem.SeqAt
section
variable {X : Cx} {G : GM}
open Classical in
/-- a value's number -/
noncomputable def numOf (T : List (Srow × V × Value)) (u : Value) : Nat := if h : ∃ p, p ∈ T ∧ p.2.2 = u then (Classical.choose h).1.1 else 0
theorem srtd_none {α : Type} (lt : α → α → Bool) {l : List α} (h : l.length < 2) : SrtO.Srtd lt l := by
  match l, h with
  | [], _ => exact List.Pairwise.nil
  | [_], _ => exact List.pairwise_singleton _ _
theorem sorted_run {pins : List (Addr × Obj)} {σ : L2.St} {H : Hp} {s : Shared} {ρ : Rho} {h : FE.H} {ws ys : List FE.W} {zs : List V} {its : List Value} {l : Addr} {Q : Value → Shared → Prop} (hu : X.A.units + 64 < cLine) (I : Inv X pins σ H s) (R : RH G X.K ρ h H) (rs : RWs G X.K ρ H ws zs) (va : Vals zs its) (hl : s.heap.IsList l its.toArray) (hz : its.length ≤ sizeLine)
    (e : sortL (ltW h DEEP) ws = some ys)
    (q : ∀ out zs', RWs G X.K ρ H ys zs' → Vals zs' out → out.length = its.length → Q (.ref (s.heap.objs.size + 1)) { s with heap := sortedAll s.heap its out.toArray }) : wpAny (model X.prog X.w) X.A (call (.builtin "sorted") [.ref l]) Q X.xe s := by
  have short : ws.length < 2 → ys = ws → wpAny (model X.prog X.w) X.A (call (.builtin "sorted") [.ref l]) Q X.xe s := fun hw ey => by
    have hi : its.length < 2 := by rw [← va.length, ← rs.length]; exact hw
    refine SrtO.sorted_ord (ltv := ltN fun _ => 0) (ltN_swo _) hl hz (fun z => absurd z (by omega)) fun out hs hb => ?_
    have eo : out = its := SrtO.stb_uniq (ltN_swo _) hs (srtd_none _ hi) hb
    subst eo ey
    exact q out zs rs va rfl
  unfold sortL at e
  split at e
  · cases e; exact short (by decide) rfl
  · next x r =>
    split at e
    · cases e; exact short (Nat.lt_succ_self 1) rfl
    · next x2 r2 =>
      split at e
      · next tag =>
        split at e
        · next pure_ =>
          split at e
          · next rows er =>
            split at e
            · next ok =>
              cases e
              obtain ⟨h1, h2⟩ := mkRows_ok er
              have pair : ∀ p ∈ rows, ∀ q ∈ rows, ltW h DEEP p.2.2 q.2.2 = some (Nat.blt q.1 p.1) := fun p hp q hq => okRow_ok (by rw [h1]; exact (h2 p hp).1) (okRows_ok ok p hp) q hq
              obtain ⟨T, t1, t2, t3, t4⟩ := zip3 (f := fun p : Srow => p.2.2) (l := rows) (xs := zs) (us := its) (by rw [h1]; exact rs) va
              have inT : ∀ p ∈ T, p.1 ∈ rows := fun p m => by rw [← t1]; exact List.mem_map.mpr ⟨p, m, rfl⟩
              have inW : ∀ p ∈ T, p.1.2.2 ∈ (x :: x2 :: r2) := fun p m => by rw [← h1]; exact List.mem_map.mpr ⟨p.1, inT p m, rfl⟩
              have num : ∀ p ∈ T, numOf T p.2.2 = p.1.1 := fun p m => by
                have ex : ∃ p', p' ∈ T ∧ p'.2.2 = p.2.2 := ⟨p, m, rfl⟩
                unfold numOf
                rw [dif_pos ex]
                obtain ⟨m2, e2⟩ := Classical.choose_spec ex
                generalize Classical.choose ex = p2 at m2 e2
                have ew : p2.1.2.2 = p.1.2.2 := rw_uniq I 40 (allP_mem pure_ _ (inW _ m2)) (allP_mem pure_ _ (inW _ m)) (t4 _ m2).1 (t4 _ m).1 (e2 ▸ (t4 _ m2).2) (t4 _ m).2
                obtain ⟨a1, a2⟩ := h2 _ (inT _ m2)
                obtain ⟨b1, b2⟩ := h2 _ (inT _ m)
                rw [ew, b1] at a1
                rw [a2, b2, Option.some.inj a1]
              obtain ⟨t, tg⟩ : ∃ t, ∀ w ∈ x :: x2 :: r2, sortTag w = t + 1 := by
                have tag : (match sortTag x with | 0 => false | n + 1 => allP (fun u => Nat.beq (sortTag u) (Nat.succ n)) (x2 :: r2)) = true := tag
                cases en : sortTag x with
                | zero => rw [en] at tag; cases tag
                | succ n =>
                  rw [en] at tag
                  refine ⟨n, fun w m => ?_⟩
                  rcases List.mem_cons.mp m with z | m
                  · subst z; exact en
                  · exact Nat.eq_of_beq_eq_true (allP_mem tag w m)
              have len : T.length = its.length := by rw [← t3, List.length_map]
              have len2 : 2 ≤ T.length := by
                have : T.length = rows.length := by rw [← t1, List.length_map]
                have : rows.length = (x :: x2 :: r2).length := by rw [← h1, List.length_map]
                simp at this; omega
              refine SrtO.sorted_ord (ltv := ltN (numOf T)) (ltN_swo _) hl hz (fun _ h₁ a ha kk => ?_) fun out hs hb => ?_
              · intro h' keep
                have J : Inv X pins σ H { s with heap := h' } := I.kept (t' := s.toks) fun b o z => keep b o (kk b o z).1 (kk b o z).2
                refine ⟨kdOf (t + 1), fun Q E hq => ?_, ?_⟩
                · have z := kind_at (A := X.A.in1.in1) (E := E) (Q := Q) (t := t) J (T := T) t4 (fun p m => tg _ (inW p m)) len2 hq
                  rw [t3] at z
                  exact z
                · intro p q hp hq
                  have hp : p.1 ∈ its := hp
                  have hq : q.1 ∈ its := hq
                  rw [← t3] at hp hq
                  obtain ⟨p2, m2, e2⟩ := List.mem_map.mp hp
                  obtain ⟨q2, n2, f2⟩ := List.mem_map.mp hq
                  have hu' : X.A.in1.in1.units + 39 < cLine := by have a := X.A.in1_units; have b := X.A.in1.in1_units; omega
                  refine wpAny_mono (cmp_at (n := 39) J R hu' (pair _ (inT _ m2) _ (inT _ n2)) (tg _ (inW _ m2)) (tg _ (inW _ n2)) (t4 _ m2).1 (t4 _ n2).1 (e2 ▸ (t4 _ m2).2) (f2 ▸ (t4 _ n2).2)) (fun r s' z => ⟨z.1, ?_⟩) fun _ _ z => z
                  rw [z.2]
                  show _ = decide (numOf T q.1 < numOf T p.1)
                  rw [← e2, ← f2, num _ m2, num _ n2]
                  cases c : Nat.blt q2.1.1 p2.1.1 with
                  | true => exact (decide_eq_true (Nat.blt_eq.mp c)).symm
                  | false => exact (decide_eq_false fun z => by rw [Nat.blt_eq.mpr z] at c; cases c).symm
              · obtain ⟨s1, s2⟩ := sortK_ok (numOf T) its [] List.Pairwise.nil
                have s2 : SrtO.Stb (ltN (numOf T)) (sortK (numOf T) [] its) its := s2
                have eo : out = sortK (numOf T) [] its := SrtO.stb_uniq (ltN_swo _) hs s1 (hb.trans (stb_symm s2))
                have e1 : (sortK (fun p : Srow × V × Value => p.1.1) [] T).map (·.2.2) = sortK (numOf T) [] its := by
                  rw [← t3]
                  exact sortK_on (·.2.2) T [] num fun p m => nomatch m
                have e2 : (sortK (fun p : Srow × V × Value => p.1.1) [] T).map (·.1) = sortR [] rows := by
                  rw [sortR_eq, ← t1]
                  exact sortK_on (·.1) T [] (fun p m => rfl) fun p m => nomatch m
                obtain ⟨_, pm⟩ := sortK_ok (fun p : Srow × V × Value => p.1.1) T [] List.Pairwise.nil
                have pm : SrtO.Stb _ (sortK (fun p : Srow × V × Value => p.1.1) [] T) T := pm
                obtain ⟨u1, u2⟩ := unzip3 (G := G) (X := X) (H := H) (ρ := ρ) (f := fun p : Srow => p.2.2) (T := sortK (fun p : Srow × V × Value => p.1.1) [] T) fun p m => t4 p (pm.perm.mem_iff.mp m)
                rw [e2] at u1
                rw [e1] at u2
                rw [eo]
                refine q _ _ (by rw [rowsW_eq]; exact u1) u2 ?_
                rw [← eo]
                exact hb.len
            · cases e
          · cases e
        · cases e
      · cases e
def rSorted_ (G : GM) (K : PySem.W.Frag) : List V → Hp → VK → Prop := fun xs H Q => ∃ a zs ρ h ws ys, xs = [V.ref a] ∧ SqL K H a zs ∧ RH G K ρ h H ∧ RWs G K ρ H ws zs ∧ sortL (ltW h DEEP) ws = some ys ∧ ∀ p zs', H p = none → RWs G K ρ H ys zs' → Q (.ref p) (upd H p (.lst zs'))
theorem call_sorted_ (hu : X.A.units + 64 < cLine) : CallR X (.builtin "sorted") (rSorted_ G X.K) := by
  intro pins s σ H vs us Q I r hh
  obtain ⟨a, zs, ρ, h, ws, ys, rfl, sq, R, rs, e, q⟩ := hh
  obtain ⟨its, va, pl, hz⟩ := I.list sq
  obtain ⟨u, rfl, ru⟩ := vals1 r
  obtain rfl : u = Value.ref a := ru
  refine sorted_run hu I R rs va pl.isList (by rw [← va.length]; exact hz) e fun out zs' r1 v1 len => ?_
  obtain ⟨n, hn⟩ := sortedAll_at s.heap its out.toArray
  have l1 := v1.length
  have l2 := va.length
  exact ⟨.ref _, upd H _ (.lst zs'), I.laid (t' := s.toks) (fun b o e => sortedAll_old e) (Nat.le_succ _) ⟨by omega, out, n, v1, hn⟩, rfl, q _ zs' (I.hok.fresh (Nat.le_succ _)) r1⟩
variable {Z : ZF X.K} {a : Expr} {sl : Slt} {p pos : Pos}
theorem ev_sorted (hu : X.A.units + 64 < cLine) (hg : Gl X "sorted") (hm : X.mg "sorted" = none) (ha : PE X a (EvL G X.K Z sl)) (hs : starEach (a :: []) X.env = (false, eval a X.env) :: starEach [] X.env := by rfl) : PE X (.Call (.Name "sorted" p) [a] [] pos) (EvE G X.K Z (cBf .sorted sl)) :=
  EvL.call (f := fun xs h k => opt 93 (sortL (ltW h DEEP) xs) fun ys => newK h (.lst ys) k) (fun _ _ _ _ => rfl) (fun R run fin sq r => by
    obtain ⟨ys, e, run⟩ := opt_inv run
    exact ⟨_, _, _, _, _, ys, rfl, sq, R, r, e, fun p zs' hn r1 => new_lst R hn r1 run fin⟩) (pe_callB (call_sorted_ hu) hg hm (by rfl) (pa_1 ha hs) (by decide) (by decide) hs)
end
end FE
end
section
set_option Elab.async false
set_option linter.all false
set_option maxRecDepth 100000
set_option maxHeartbeats 4000000
/-! FeSet: set(l) of a list of ints. -/
namespace FE
open PySem PySem.Spec PyProof.Rows L2
/-- a set that nothing is in yet -/
abbrev noSet (w : World) : Obj := { cls := .type "set", dict := none, data := .set #[] 0 (.fresh 0 0 (!w.params.followText "set-order")) }
section
variable {P : Program} {w : World} {A : Around} {E : Value → Shared → Prop} {s : Shared}
theorem set_of_ints {l : Addr} {vs : Array Value} (ks : List Int) {Q : Value → Shared → Prop} (hh : A.handled = none) (hl : s.heap.IsList l vs) (hi : IntsAre vs.toList ks) (hb : ks.length + 1 < scanBound)
    (fin : ∀ (g : Heap) (tk c : Nat), SetR w g s.heap.objs.size (fun j => decide (j ∈ ks)) c → c ≤ ks.length → (∀ b o, s.heap.get? b = some o → g.get? b = some o) → Q (.ref s.heap.objs.size) { s with heap := g, toks := tk }) :
    wpAny (model P w) A (call (.type "set") [.ref l]) Q E s := by
  have vsz : vs.size = ks.length := by have := IntsAre.length hi; rwa [Array.length_toList] at this
  obtain ⟨c, tl, hmro⟩ := F.called_set.mro
  have m1 := F.called_set.made
  have m2 := F.called_set.sub
  have m3 := F.called_set.notType
  have m4 := F.called_set.canCreate
  have m5 := F.typeCall_set_1 (.ref l)
  have get0 : (s.heap.push (noSet w)).get? s.heap.objs.size = some (noSet w) := Heap.get?_push_size _ rfl
  have size1 : (s.heap.push (noSet w)).objs.size = s.heap.objs.size + 1 := Heap.size_push ..
  refine wpAny_call (codeAny_of_tree ?_)
  show wpAny _ _ (callAny (.type "set") _) _ _ _
  refine wpAny_pure ⟨Code.quiet_builtin _ (by decide +kernel), codeAny_builtin F.entry_type_call ?_⟩
  rw [Around.under_plain (weight_type_call_type "set" [.ref l] []) rfl]
  repeat (any_goals (first | assumption | wp_step))
  refine codeAny_mono (code_set_led1 (.ref l) (E := E) (Q₁ := fun ob s1 => ob = .ref s.heap.objs.size ∧ s1 = { s with heap := s.heap.push (noSet w) }) ⟨rfl, rfl⟩) fun r s1 hr => ?_
  cases r with
  | error e => exact hr
  | ok fl =>
    cases fl with
    | ret ob =>
      obtain ⟨rfl, rfl⟩ := hr
      have ty0 : Shared.TypeIs { s with heap := s.heap.push (noSet w) } (.ref s.heap.objs.size) "set" := ⟨_, get0, rfl⟩
      have i1 := F.called_set.init.lookup
      have i2 := F.called_set.init.bind (.ref s.heap.objs.size)
      repeat (any_goals (first | assumption | wp_step))
      refine codeAny_mono (codeAny_call_builtin (R := wants (fun r s2 => r = .none ∧ ∃ g tk c, s2 = { s with heap := g, toks := tk } ∧ SetR w g s.heap.objs.size (fun j => decide (j ∈ ks)) c ∧ c ≤ ks.length ∧
          (∀ b o, s.heap.get? b = some o → g.get? b = some o)) E) F.called_set.init.plain F.entry_set_init (check_set_init_1 ty0 ?_)) fun r2 s2 hr2 => ?_
      · obtain ⟨⟨c1, d1, t1, s1⟩, ho, k1, nl, u1⟩ := hl
        simp only at k1 u1
        subst k1 u1
        have lst1 : (s.heap.push (noSet w)).get? l = some { cls := .type "list", dict := d1, data := .seq vs nl, slots := s1 } := Heap.get?_push_of_some _ ho
        have n1 := F.sub_list_set
        have n2 := F.sub_list_frozenset
        have n3 : (Value.type "list" == Value.type "dict") = false := by decide
        have isl : (s.heap.push (noSet w)).IsList l vs := ⟨_, lst1, rfl, nl, rfl⟩
        unfold Builtin.«set.__init__» noKeywords Builtin.Frozenset.updateFrom
        generalize hPI : pyIter = PI
        wp_walk
        subst hPI
        refine wpAny_pyIter_list isl (wpAny_bind (wpAny_runValue ?_))
        have lo : l < s.heap.objs.size := Heap.lt_size ho
        have calm : A.in1.in1.in1.handled = none := by simp [hh]
        have apart : l ≠ (s.heap.push (noSet w)).objs.size := by rw [size1]; exact Nat.ne_of_lt (Nat.lt_succ_of_lt lo)
        have out : s.heap.objs.size ∉ [(s.heap.push (noSet w)).objs.size, l] := by
          rw [size1]
          simp only [List.mem_cons, List.mem_singleton, List.not_mem_nil, or_false, not_or]
          exact ⟨Nat.ne_of_lt (Nat.lt_succ_self _), Nat.ne_of_gt lo⟩
        have val : ∀ (i : Nat) (v : Value), vs[i]? = some v → ∃ k t, ks[i]? = some k ∧ v = .int k t := fun i v hv => by
          have hlt : i < ks.length := by rw [← vsz]; exact (Array.getElem?_eq_some_iff.mp hv).1
          obtain ⟨t, e⟩ := PyProof.Rows.IntsAre.int_at hi i v (by rw [Array.getElem?_toList]; exact hv)
          exact ⟨ks[i], t, List.getElem?_eq_getElem hlt, by rw [e, List.getD_eq_getElem?_getD, List.getElem?_eq_getElem hlt] <;> rfl⟩
        refine set_update_ints ((Walks.list calm _ l apart vs).toS) s.heap.objs.size out ks vsz hb val (vs.size - 0) 0 _ (by omega) (Nat.zero_le _) ⟨⟨_, Heap.get?_push_size _ rfl, rfl, rfl⟩, (isl.push _)⟩ ?first ?last
        case first => exact ⟨0, Nat.le_refl 0, setR_new_at (Heap.get?_push_of_some _ get0)⟩
        case last =>
          intro s3 c3 mv le st
          obtain ⟨g3, gn, dr, tk3, o3⟩ := s3
          have q1 : gn = s.gens := mv.gens
          have q2 : dr = s.drawn := mv.drawn
          have q3 : o3 = s.os := mv.os
          subst q1 q2 q3
          show wpAny _ _ _ _ _ _
          refine wpAny_pure ?_
          show wpAny _ _ (ret Value.none) _ _ _
          rw [vsz] at le
          refine wpAny_pure ⟨rfl, g3, tk3, c3, rfl, st, le, fun b o e => ?_⟩
          have b0 : b < s.heap.objs.size := Heap.lt_size e
          refine mv.heap b o ?_ (Heap.get?_push_of_some _ (Heap.get?_push_of_some _ e))
          rw [size1]
          simp only [List.mem_cons, List.mem_singleton, List.not_mem_nil, or_false, not_or]
          exact ⟨Nat.ne_of_lt b0, Nat.ne_of_lt (Nat.lt_succ_of_lt b0)⟩
      · cases r2 with
        | error e => exact hr2
        | ok fl2 =>
          cases fl2 with
          | ret r =>
            obtain ⟨rfl, g, tk, c, rfl, st, le, kp⟩ := hr2
            repeat (any_goals (first | assumption | wp_step))
            exact fin _ _ _ st le kp
          | _ => exact hr2.elim
    | _ => exact hr.elim
end
section
variable {X : Cx}
/-- set(l), l a list of ints -/
theorem call_setI (hc : X.calm = true) : CallR X (.type "set") (fun xs H Q => ∃ (a : Addr) (ks : List Int), xs = [.ref a] ∧ SqL X.K H a (ks.map V.int) ∧ ks.length < 64 ∧ ∀ p c, H p = none → c ≤ ks.length → Q (.ref p) (upd H p (SetO X.w p (fun j => decide (j ∈ ks)) c))) := by
  intro pins s σ H xs us Q I r ⟨a, ks, ex, sq, hl, q⟩
  subst ex
  obtain ⟨u, rfl, ru⟩ := vals1 r
  obtain rfl : u = Value.ref a := ru
  obtain ⟨its, va, pl, hz⟩ := I.list sq
  refine set_of_ints ks (I.ok.hd hc) pl.isList (ints_of_vals va) (by unfold scanBound; omega) fun g tk c st le kp => ?_
  exact ⟨.ref s.heap.objs.size, _, I.laid (t' := tk) (o := SetO X.w s.heap.objs.size (fun j => decide (j ∈ ks)) c) kp (Nat.le_refl _) (setO_new st), rfl, q _ c (I.hok.fresh (Nat.le_refl _)) le⟩
end
end FE
end
section
set_option Elab.async false
set_option linter.all false
set_option maxRecDepth 100000
/-! FeSet2: sorted(set(..)), len(set(..)) of ints; min, max of two ints. -/
namespace FE
open PySem PySem.Spec PyProof.Rows L2
theorem insI_mem (i : Int) : ∀ (l : List Int) (k : Int), k ∈ insI i l ↔ k = i ∨ k ∈ l
  | [], k => by simp [insI]
  | j :: r, k => by
    unfold insI
    cases e : ltZ i j with
    | true => simp
    | false =>
      simp only
      cases e2 : eqZ i j with
      | true =>
        rw [eqZ_eq] at e2
        have e2 : i = j := of_decide_eq_true e2
        subst e2
        simp
      | false =>
        simp only [List.mem_cons, insI_mem i r k]
        constructor
        · rintro (h | h | h)
          · exact .inr (.inl h)
          · exact .inl h
          · exact .inr (.inr h)
        · rintro (h | h | h)
          · exact .inr (.inl h)
          · exact .inl h
          · exact .inr (.inr h)
theorem insI_up (i : Int) : ∀ l : List Int, l.Pairwise (· < ·) → (insI i l).Pairwise (· < ·)
  | [], _ => List.pairwise_singleton _ _
  | j :: r, h => by
    obtain ⟨h1, h2⟩ := List.pairwise_cons.mp h
    unfold insI
    cases e : ltZ i j with
    | true =>
      rw [ltZ_eq] at e
      have e : i < j := of_decide_eq_true e
      refine List.pairwise_cons.mpr ⟨fun k hk => ?_, h⟩
      rcases List.mem_cons.mp hk with z | hk
      · subst z; exact e
      · exact Int.lt_trans e (h1 k hk)
    | false =>
      simp only
      rw [ltZ_eq] at e
      have e : ¬ i < j := of_decide_eq_false e
      cases e2 : eqZ i j with
      | true => exact h
      | false =>
        rw [eqZ_eq] at e2
        have e2 : ¬ i = j := of_decide_eq_false e2
        refine List.pairwise_cons.mpr ⟨fun k hk => ?_, insI_up i r h2⟩
        rcases (insI_mem i r k).mp hk with z | hk
        · subst z; omega
        · exact h1 k hk
theorem setI_mem : ∀ (l : List Int) (k : Int), k ∈ setI l ↔ k ∈ l
  | [], k => Iff.rfl
  | i :: r, k => by
    show k ∈ insI i (setI r) ↔ _
    rw [insI_mem, setI_mem r k, List.mem_cons]
theorem setI_up : ∀ l : List Int, (setI l).Pairwise (· < ·)
  | [] => List.Pairwise.nil
  | i :: r => insI_up i _ (setI_up r)
theorem up_uniq : ∀ {l m : List Int}, l.Pairwise (· < ·) → m.Pairwise (· < ·) → (∀ k, k ∈ l ↔ k ∈ m) → l = m
  | [], [], _, _, _ => rfl
  | [], k :: m, _, _, h => absurd ((h k).mpr List.mem_cons_self) List.not_mem_nil
  | k :: l, [], _, _, h => absurd ((h k).mp List.mem_cons_self) List.not_mem_nil
  | i :: l, j :: m, h1, h2, h => by
    obtain ⟨a1, a2⟩ := List.pairwise_cons.mp h1
    obtain ⟨b1, b2⟩ := List.pairwise_cons.mp h2
    have e : i = j := by
      rcases List.mem_cons.mp ((h i).mp List.mem_cons_self) with z | z
      · exact z
      · rcases List.mem_cons.mp ((h j).mpr List.mem_cons_self) with y | y
        · exact y.symm
        · have := b1 i z; have := a1 j y; omega
    subst e
    rw [up_uniq a2 b2 fun k => ⟨fun hk => by
      rcases List.mem_cons.mp ((h k).mp (List.mem_cons_of_mem _ hk)) with z | z
      · have := a1 k hk; omega
      · exact z, fun hk => by
      rcases List.mem_cons.mp ((h k).mpr (List.mem_cons_of_mem _ hk)) with z | z
      · have := b1 k hk; omega
      · exact z⟩]
theorem rws_ints {G : GM} {K : PySem.W.Frag} {ρ : Rho} {H : Hp} : ∀ l : List Int, RWs G K ρ H (intsL l) (l.map V.int)
  | [] => .nil
  | i :: r => .cons (.int i) (rws_ints r)
section
variable {X : Cx} {G : GM} {Z : ZF X.K} {a b : Expr} {sa sb : Sem} {sl : Slt} {p p2 q pos : Pos}
theorem ssetI_inv {ws : List FE.W} {h : FE.H} {k : List Int → B} (run : ssetI ws h k = true) : ∃ l, intsW ws = some l ∧ l.length < 64 ∧ k (setI l) = true := by
  obtain ⟨l, e, run⟩ := opt_inv (show opt 219 (intsW ws) _ = true from run)
  have run : (match few l with | true => k (setI l) | false => stop 219) = true := run
  split at run
  · next f => exact ⟨l, e, Nat.blt_eq.mp f, run⟩
  · cases run
theorem ltZ_ite {i j : Int} {x y : B} : (match ltZ i j with | true => x | false => y) = if i < j then x else y := by
  rw [ltZ_eq]
  by_cases h : i < j
  · rw [decide_eq_true h, if_pos h]
  · rw [decide_eq_false h, if_neg h]
theorem ev_min2 (hc : X.calm = true) (hg : Gl X "min") (hm : X.mg "min" = none) (ha : PA X [a, b] (EvA G X.K Z (aOne sa (aOne sb aNil)))) (hs : starEach [a, b] X.env = (false, eval a X.env) :: starEach [b] X.env := by rfl) (hpl : (backTo pos (starEach [b] X.env)).any (·.1) = false := by rfl) : PE X (.Call (.Name "min" p) [a, b] [] pos) (EvE G X.K Z (cMm .min sa sb)) :=
  (pe_callB (call_min2 hc) hg hm (by rfl) ha (by decide) (by decide) hs hpl).imp fun σ H Q ⟨ρ, e, h, kx, k, n, run, fin, fx⟩ => by
    have run : sa e h kx (fun x h => sb e h kx fun y h => mm2 .min x y h k) = true := run
    refine EvA.then (k := fun ws h => match ws with | [x, y] => mm2 .min x y h k | _ => false) n run fx fun ws h1 vs H1 ρ1 t1 n1 r1 run1 _ => ?_
    split at run1
    · next x y =>
      cases r1 with
      | cons ra r1 =>
        cases r1 with
        | cons rb r1 =>
          cases r1
          cases ra with
          | int i => cases rb with
            | int j =>
              have run1 : (match ltZ j i with | true => k (.int j) h1 | false => k (.int i) h1) = true := run1
              refine ⟨i, j, rfl, ?_⟩
              rw [ltZ_ite] at run1
              by_cases c : j < i
              · rw [if_pos c] at run1 ⊢; exact fin _ h1 _ H1 ρ1 run1 t1 n1.rh (.int _)
              · rw [if_neg c] at run1 ⊢; exact fin _ h1 _ H1 ρ1 run1 t1 n1.rh (.int _)
            | _ => cases run1
          | _ => cases run1
    · cases run1
theorem ev_max2 (hc : X.calm = true) (hg : Gl X "max") (hm : X.mg "max" = none) (ha : PA X [a, b] (EvA G X.K Z (aOne sa (aOne sb aNil)))) (hs : starEach [a, b] X.env = (false, eval a X.env) :: starEach [b] X.env := by rfl) (hpl : (backTo pos (starEach [b] X.env)).any (·.1) = false := by rfl) : PE X (.Call (.Name "max" p) [a, b] [] pos) (EvE G X.K Z (cMm .max sa sb)) :=
  (pe_callB (call_max2 hc) hg hm (by rfl) ha (by decide) (by decide) hs hpl).imp fun σ H Q ⟨ρ, e, h, kx, k, n, run, fin, fx⟩ => by
    have run : sa e h kx (fun x h => sb e h kx fun y h => mm2 .max x y h k) = true := run
    refine EvA.then (k := fun ws h => match ws with | [x, y] => mm2 .max x y h k | _ => false) n run fx fun ws h1 vs H1 ρ1 t1 n1 r1 run1 _ => ?_
    split at run1
    · next x y =>
      cases r1 with
      | cons ra r1 =>
        cases r1 with
        | cons rb r1 =>
          cases r1
          cases ra with
          | int i => cases rb with
            | int j =>
              have run1 : (match ltZ i j with | true => k (.int j) h1 | false => k (.int i) h1) = true := run1
              refine ⟨i, j, rfl, ?_⟩
              rw [ltZ_ite] at run1
              by_cases c : i < j
              · rw [if_pos c] at run1; rw [if_pos (show j > i from c)]; exact fin _ h1 _ H1 ρ1 run1 t1 n1.rh (.int _)
              · rw [if_neg c] at run1; rw [if_neg (show ¬ j > i from c)]; exact fin _ h1 _ H1 ρ1 run1 t1 n1.rh (.int _)
            | _ => cases run1
          | _ => cases run1
    · cases run1
end
end FE
end
section
set_option Elab.async false
set_option linter.all false
set_option maxRecDepth 100000
set_option maxHeartbeats 4000000
/-! FeSetT: set(l) of a list of texts; sorted of it. -/
namespace FE
open PySem PySem.Spec PyProof.Rows L2
def keyX (e : Int × Value) : Str := match e.2 with | .str k _ => k | _ => ""
def GoodX (w : World) (e : Int × Value) : Prop := ∃ k tk, e.2 = Value.str k tk ∧ e.1 = hashStr w k
/-- the set of the texts l at a -/
def SetX (w : World) (h : Heap) (a : Addr) (l : List Str) : Prop :=
  ∃ ob en n tb, h.get? a = some ob ∧ ob.ExactSet ∧ ob.data = .set en n tb ∧ (∀ e ∈ en.toList, GoodX w e) ∧ (en.toList.map keyX).Perm l ∧ l.Nodup ∧ en.size < scanBound ∧ tb.fits en.size = true ∧ Ris tb.place.toList ∧ (w.params.followText "set-order" = true ∨ tb.led = true)
section
variable {P : Program} {w : World} {h h' : Heap} {a : Addr} {l : List Str}
theorem SetX.by (m : SetX w h a l) (kp : ∀ o, h.get? a = some o → h'.get? a = some o) : SetX w h' a l := by
  obtain ⟨ob, en, n, tb, e, r⟩ := m
  exact ⟨ob, en, n, tb, kp ob e, r⟩
theorem goodX_elems {es : List (Int × Value)} (g : ∀ e ∈ es, GoodX w e) : ElemsOf (strKind P w) es := fun e m => by
  obtain ⟨k, tk, z1, z2⟩ := g e m
  exact ⟨⟨k, by rw [z1]; exact PySem.Froz.is_str k tk, z2⟩, by rw [z1] <;> rfl⟩
theorem goodX_is {e : Int × Value} (g : GoodX w e) (k : Str) : (strKind P w).is k e.2 = true ↔ keyX e = k := by
  obtain ⟨k0, tk, z1, _⟩ := g
  constructor
  · intro q
    obtain ⟨t, z2⟩ := Value.isStrOf_shape (x := k) (v := e.2) q
    unfold keyX
    rw [z2]
  · intro q
    unfold keyX at q
    rw [z1] at q
    have q : k0 = k := q
    rw [z1, q]
    exact PySem.Froz.is_str k tk
theorem goodX_mem {es : List (Int × Value)} (g : ∀ e ∈ es, GoodX w e) (k : Str) : k ∈ es.map keyX ↔ ∃ e ∈ es, (strKind P w).is k e.2 = true := by
  rw [List.mem_map]
  exact ⟨fun ⟨e, m, q⟩ => ⟨e, m, (goodX_is (g e m) k).2 q⟩, fun ⟨e, m, q⟩ => ⟨e, m, (goodX_is (g e m) k).1 q⟩⟩
end
section
variable {P : Program} {w : World} {A : Around} {E : Value → Shared → Prop} {s : Shared} {a : Addr} {l : List Str}
theorem addX_tail {gv : Bool → PySem.Sem Unit} (hg : ∀ (b : Bool) (s1 : Shared) (Z : Unit → Shared → Prop), Z () s1 → wpAny (model P w) A (gv b) Z E s1)
    {ob : Obj} {en : Array (Int × Value)} {n : Nat} {tb : SetTable} (e0 : s.heap.get? a = some ob) (ex : ob.ExactSet) (ed : ob.data = .set en n tb)
    {en1 : Array (Int × Value)} {tb2 : SetTable} {l1 : List Str} (g1 : ∀ e ∈ en1.toList, GoodX w e) (p1 : (en1.toList.map keyX).Perm l1) (nd1 : l1.Nodup)
    (sz1 : en1.size < scanBound) (fit2 : tb2.fits en1.size = true) (ri : Ris tb2.place.toList) (ld : w.params.followText "set-order" = true ∨ tb2.led = true) {dum : Bool} {R : Option Bool → Shared → Prop}
    (fin : ∀ h1, Heap.SameBut a s.heap h1 → SetX w h1 a l1 → R (some true) { s with heap := h1 }) :
    wpAny (model P w) A (do
        storeSet a en1 tb2
        if (!dum && tb2.tooFull) = true then do
            gv (relayAll tb2 en1 (SetTable.grown en1.size)).2.2
            storeSet a (relayAll tb2 en1 (SetTable.grown en1.size)).1 (relayAll tb2 en1 (SetTable.grown en1.size)).2.1
            pure (some true)
          else pure (some true)) R E s := by
  have o1 := store_at (es' := en1) (t' := tb2) e0 ed
  have b1 := Heap.SameBut.update s.heap a (Obj.putSet en1 tb2)
  refine wpAny_bind (wpAny_storeSet_of e0 ed ?_ (fits_of_scanBound sz1))
  split
  · have pm := relayAll_perm tb2 en1 (SetTable.grown en1.size)
    have f3 := relayAll_fits tb2 en1 (SetTable.grown en1.size)
    have r3 := relayAll_ris tb2 en1 (SetTable.grown en1.size)
    have l3 := relayAll_led tb2 en1 (SetTable.grown en1.size)
    generalize relayAll tb2 en1 (SetTable.grown en1.size) = Y at pm f3 r3 l3 ⊢
    obtain ⟨en2, tb3, gave⟩ := Y
    dsimp only at pm f3 r3 l3 ⊢
    have s2 : en2.size = en1.size := by rw [← Array.length_toList, pm.length_eq, Array.length_toList]
    have sz2 : en2.size < scanBound := by rw [s2]; exact sz1
    refine wpAny_bind (hg _ _ _ ?_)
    refine wpAny_bind (wpAny_storeSet_of o1 rfl ?_ (fits_of_scanBound sz2))
    have o2 := store_at (es' := en2) (t' := tb3) o1 rfl
    exact wpAny_pure (fin _ (b1.trans (Heap.SameBut.update _ a _)) ⟨_, en2, _, tb3, o2, ex, rfl, fun e m => g1 e (pm.mem_iff.mp m), (pm.map keyX).trans p1, nd1, sz2, f3, r3, ld.imp id fun z => by rw [l3]; exact z⟩)
  · exact wpAny_pure (fin _ b1 ⟨_, en1, _, tb2, o1, ex, rfl, g1, p1, nd1, sz1, fit2, ri, ld⟩)
theorem addX {k : Str} {tk : Tok} {Q : Bool → Shared → Prop} (m : SetX w s.heap a l) (room : l.length + 1 < scanBound)
    (fin : ∀ h1 l1 b, Heap.SameBut a s.heap h1 → SetX w h1 a l1 → (∀ x, x ∈ l1 ↔ x ∈ l ∨ x = k) → l1.length ≤ l.length + 1 → Q b { s with heap := h1 }) :
    wpAny (model P w) A (setAddHashed a (.str k tk) (hashStr w k)) Q E s := by
  obtain ⟨ob, en, n, tb, e0, ex, ed, g, pl, nd, sz, fit, ri, ld⟩ := m
  have key : (strKind P w).is k (.str k tk) = true := PySem.Froz.is_str k tk
  have el : ElemsOf (strKind P w) en.toList := goodX_elems g
  have len : en.size = l.length := by rw [← pl.length_eq, List.length_map, Array.length_toList]
  unfold setAddHashed setAddHashedIn
  refine wpAny_holding (wpAny_bind (wpAny_setState_of e0 ed fit ?_))
  dsimp only
  rw [byScan_of (x := Value.str k tk) rfl sz el]
  simp only [↓reduceIte]
  unfold setAddByScan
  refine wpAny_bind ?_
  refine wpAny_bind (wpAny_rule ?_)
  refine wpAny_bind (wpAny_setScan_of (knd := strKind P w) (k := k) key e0 ed fit el ?_)
  cases fi : List.findIdx? (fun e => (strKind P w).is k e.2) en.toList with
  | some j =>
    dsimp only
    obtain ⟨hj, pj, _⟩ := List.findIdx?_eq_some_iff_getElem.mp fi
    have kin : k ∈ l := pl.mem_iff.mp ((goodX_mem (P := P) (w := w) g k).2 ⟨en.toList[j], List.getElem_mem hj, pj⟩)
    refine wpAny_pure (wpAny_pure ?_)
    exact fin s.heap l _ (Heap.SameBut.refl a s.heap) ⟨ob, en, n, tb, e0, ex, ed, g, pl, nd, sz, fit, ri, ld⟩ (fun x => ⟨.inl, fun z => z.elim id fun y => y ▸ kin⟩) (Nat.le_succ _)
  | none =>
    dsimp only
    have kno : k ∉ l := fun z => by
      obtain ⟨e, m, q⟩ := (goodX_mem (P := P) (w := w) g k).1 (pl.mem_iff.mpr z)
      have c := List.findIdx?_eq_none_iff.mp fi e m
      rw [q] at c
      cases c
    have gave : ∀ (b : Bool) {s1 : Shared} {Z : Unit → Shared → Prop}, Z () s1 → wpAny (model P w) A (match b with | true => rule "set.scan.the-table-gave-way" | false => pure ()) Z E s1 :=
      fun b s1 Z q => by cases b <;> first | exact wpAny_pure q | exact wpAny_rule q
    have pm := layNew_perm tb en (hashStr w k) (.str k tk)
    have f1 := layNew_fits tb en (hashStr w k) (.str k tk)
    have r1 := layNew_ris tb en (hashStr w k) (.str k tk) ri
    have l1 := layNew_led tb en (hashStr w k) (.str k tk)
    generalize layNew tb en (hashStr w k) (.str k tk) = Y at pm f1 r1 l1 ⊢
    obtain ⟨en1, tb1, dum, gv⟩ := Y
    dsimp only at pm f1 r1 l1 ⊢
    rw [Array.toList_push] at pm
    have pc : en1.toList.Perm ((hashStr w k, Value.str k tk) :: en.toList) := pm.trans (List.perm_append_singleton _ _)
    have pk : (en1.toList.map keyX).Perm (k :: l) := (pc.map keyX).trans (List.Perm.cons k pl)
    have g1 : ∀ e ∈ en1.toList, GoodX w e := fun e m => by
      rcases List.mem_cons.mp (pc.mem_iff.mp m) with z | z
      · rw [z]; exact ⟨k, tk, rfl, rfl⟩
      · exact g e z
    have nd1 : (k :: l).Nodup := List.nodup_cons.mpr ⟨kno, nd⟩
    have s1 : en1.size = l.length + 1 := by rw [← Array.length_toList, pc.length_eq, List.length_cons, Array.length_toList, len]
    have sz1 : en1.size < scanBound := by rw [s1]; exact room
    have ld1 : w.params.followText "set-order" = true ∨ tb1.led = true := ld.imp id fun z => by rw [l1]; exact z
    have end_ : ∀ h1, Heap.SameBut a s.heap h1 → SetX w h1 a (k :: l) → Q true { s with heap := h1 } := fun h1 sb m => fin h1 (k :: l) true sb m (fun x => by rw [List.mem_cons]; exact Or.comm) (Nat.le_refl _)
    refine wpAny_bind (gave _ ?_)
    split
    · refine wpAny_bind ?_
      rw [hashByValue_scannable 8 (x := Value.str k tk) rfl]
      refine wpAny_pure ?_
      refine addX_tail ?_ e0 ex ed g1 pk nd1 sz1 ?_ ?_ ?_ ?_
      · intro b s1 Z q; cases b <;> first | exact wpAny_pure q | exact wpAny_rule q
      · first | (split <;> first | exact f1 | exact SetTable.fits_plain_off f1) | exact f1
      · first | (split <;> exact r1) | exact r1
      · first | (split <;> exact ld1) | exact ld1
      · intro h1 sb m; dsimp only; exact wpAny_pure (end_ h1 sb m)
    · refine wpAny_bind (wpAny_pure ?_)
      simp only [↓reduceIte]
      refine addX_tail ?_ e0 ex ed g1 pk nd1 sz1 f1 r1 ld1 ?_
      · intro b s1 Z q; cases b <;> first | exact wpAny_pure q | exact wpAny_rule q
      · intro h1 sb m; dsimp only; exact wpAny_pure (end_ h1 sb m)
theorem newX {h : Heap} {b : Addr} (e : h.get? b = some (noSet w)) : SetX w h b [] :=
  ⟨_, #[], 0, _, e, ⟨rfl, rfl, rfl⟩, rfl, (fun e m => by simp at m), List.Perm.nil, List.nodup_nil, (by decide), (by rfl), List.Pairwise.nil, by
    show _ ∨ (!w.params.followText "set-order") = true
    cases w.params.followText "set-order"
    · exact .inr rfl
    · exact .inl rfl⟩
/-- the loop -/
theorem loopX {I : Addr} {fp wr : List Addr} {Gr : Array GenState → Array GenState → Prop} {n : Nat} {Pv : Nat → Value → Prop} {St : Nat → Shared → Prop} {R : Result → Shared → Prop}
    (W : WalksS P w A.in1 I fp wr Gr n Pv St) (S : Addr) (off : S ∉ fp) (ts : List Str) (hn : n = ts.length) (few : ts.length + 1 < scanBound) (val : ∀ i v, Pv i v → ∃ k t, ts[i]? = some k ∧ v = .str k t) :
    ∀ (left i : Nat) (s : Shared), n - i = left → i ≤ n → St i s → (∃ l, l.length ≤ i ∧ SetX w s.heap S l ∧ ∀ x, x ∈ l ↔ x ∈ ts.take i) →
      (∀ s1 l, Moved (S :: wr) Gr s s1 → l.length ≤ n → SetX w s1.heap S l → (∀ x, x ∈ l ↔ x ∈ ts) → R (.ok (.ret .none)) s1) →
      codeAny (model P w) A (.builtin "set.update.loop" ⟨[.ref S, .ref I], []⟩) R s := by
  have off2 : S ∉ wr := fun z => off (W.sub _ z)
  have more : ∀ b ∈ wr, b ∈ S :: wr := fun b m => List.mem_cons_of_mem _ m
  intro left
  induction left with
  | zero =>
    intro i s hl hi st ⟨l, len, m, mem⟩ fin
    have ei : i = n := by omega
    subst ei
    refine codeAny_builtin F.entry_set_update_loop ?_
    rw [Around.under_plainId F.plain_set_update_loop _]
    show wpAny _ A.in1 (pyNext (.ref I) >>= _) _ _ s
    refine wpAny_bind (W.done s _ _ st fun s1 mv => ?_)
    show wpAny _ A.in1 (ret Value.none) _ _ s1
    have e : ts.take i = ts := List.take_of_length_le (by omega)
    rw [e] at mem
    exact wpAny_pure (fin s1 l (mv.mono more) len (m.by fun o e => mv.heap S o off2 e) mem)
  | succ left ih =>
    intro i s hl hi st ⟨l, len, m, mem⟩ fin
    have lt : i < n := by omega
    refine codeAny_builtin F.entry_set_update_loop ?_
    rw [Around.under_plainId F.plain_set_update_loop _]
    show wpAny _ A.in1 (pyNext (.ref I) >>= _) _ _ s
    refine wpAny_bind (W.item i s _ _ lt st fun v s1 hv st1 mv => ?_)
    obtain ⟨k, t, ek, rfl⟩ := val i v hv
    have m1 : SetX w s1.heap S l := m.by fun o e => mv.heap S o off2 e
    show wpAny _ A.in1 (holding [Value.str k t] (setAdd S (.str k t)) >>= _) _ _ s1
    refine wpAny_bind (wpAny_holding ?_)
    unfold setAdd
    refine wpAny_holding ?_
    refine wpAny_bind ((strKind P w).pyHash (k := k) (PySem.Froz.is_str k t) ?_)
    refine addX (s := { s1 with toks := s1.toks + 1 }) m1 (by omega) fun h2 l2 b sb m2 mem2 len2 => ?_
    have mem3 : ∀ x, x ∈ l2 ↔ x ∈ ts.take (i + 1) := fun x => by
      rw [mem2 x, mem x, List.take_add_one, ek]
      simp [List.mem_append]
    refine wpAny_pure ⟨plainId_quiet F.plain_set_update_loop _, ih (i + 1) _ (by omega) lt (W.frame _ s1 _ _ st1 (Nat.le_succ _) fun b hb o e => ?_) ⟨l2, by omega, m2, mem3⟩ fun s3 l3 mv3 len3 m3 mem4 => ?_⟩
    · rw [sb.2 b (fun z : b = S => off (by rw [← z]; exact hb))]; exact e
    · refine fin s3 l3 (Moved.trans W.gtrans ((mv.mono more).then_heap (Nat.le_succ _) fun b o hb e => ?_) mv3) len3 m3 mem4
      rw [sb.2 b (fun z : b = S => hb (by rw [z]; exact List.mem_cons_self))]; exact e
end
end FE
end
section
set_option Elab.async false
set_option linter.all false
set_option maxRecDepth 100000
set_option maxHeartbeats 4000000
/-! FeSetT2: set(..) and sorted(set(..)) of texts, called. -/
namespace FE
open PySem PySem.Spec PyProof.Rows L2
section
variable {P : Program} {w : World} {A : Around} {E : Value → Shared → Prop} {s : Shared}
theorem strs_at : ∀ {us : List Value} {ts : List Str}, StrsAre us ts → ∀ (i : Nat) (v : Value), us[i]? = some v → ∃ k t, ts[i]? = some k ∧ v = .str k t
  | _, _, .nil, i, v, h => by simp at h
  | _, _, .cons y k r, 0, v, h => by
    simp at h
    exact ⟨y, k, rfl, h.symm⟩
  | _, _, .cons y k r, i + 1, v, h => by
    simp only [List.getElem?_cons_succ] at h
    obtain ⟨k2, t2, e, e2⟩ := strs_at r i v h
    exact ⟨k2, t2, by simpa using e, e2⟩
theorem set_of_texts {l : Addr} {vs : Array Value} (ts : List Str) {Q : Value → Shared → Prop} (hh : A.handled = none) (hl : s.heap.IsList l vs) (hi : StrsAre vs.toList ts) (hb : ts.length + 1 < scanBound)
    (fin : ∀ (g : Heap) (tk : Nat) (m : List Str), SetX w g s.heap.objs.size m → m.length ≤ ts.length → (∀ x, x ∈ m ↔ x ∈ ts) → (∀ b o, s.heap.get? b = some o → g.get? b = some o) → Q (.ref s.heap.objs.size) { s with heap := g, toks := tk }) :
    wpAny (model P w) A (call (.type "set") [.ref l]) Q E s := by
  have vsz : vs.size = ts.length := by have := hi.length; rwa [Array.length_toList] at this
  obtain ⟨c, tl, hmro⟩ := F.called_set.mro
  have m1 := F.called_set.made
  have m2 := F.called_set.sub
  have m3 := F.called_set.notType
  have m4 := F.called_set.canCreate
  have m5 := F.typeCall_set_1 (.ref l)
  have get0 : (s.heap.push (noSet w)).get? s.heap.objs.size = some (noSet w) := Heap.get?_push_size _ rfl
  have size1 : (s.heap.push (noSet w)).objs.size = s.heap.objs.size + 1 := Heap.size_push ..
  refine wpAny_call (codeAny_of_tree ?_)
  show wpAny _ _ (callAny (.type "set") _) _ _ _
  refine wpAny_pure ⟨Code.quiet_builtin _ (by decide +kernel), codeAny_builtin F.entry_type_call ?_⟩
  rw [Around.under_plain (weight_type_call_type "set" [.ref l] []) rfl]
  repeat (any_goals (first | assumption | wp_step))
  refine codeAny_mono (code_set_led1 (.ref l) (E := E) (Q₁ := fun ob s1 => ob = .ref s.heap.objs.size ∧ s1 = { s with heap := s.heap.push (noSet w) }) ⟨rfl, rfl⟩) fun r s1 hr => ?_
  cases r with
  | error e => exact hr
  | ok fl =>
    cases fl with
    | ret ob =>
      obtain ⟨rfl, rfl⟩ := hr
      have ty0 : Shared.TypeIs { s with heap := s.heap.push (noSet w) } (.ref s.heap.objs.size) "set" := ⟨_, get0, rfl⟩
      have i1 := F.called_set.init.lookup
      have i2 := F.called_set.init.bind (.ref s.heap.objs.size)
      repeat (any_goals (first | assumption | wp_step))
      refine codeAny_mono (codeAny_call_builtin (R := wants (fun r s2 => r = .none ∧ ∃ g tk m, s2 = { s with heap := g, toks := tk } ∧ SetX w g s.heap.objs.size m ∧ m.length ≤ ts.length ∧ (∀ x, x ∈ m ↔ x ∈ ts) ∧
          (∀ b o, s.heap.get? b = some o → g.get? b = some o)) E) F.called_set.init.plain F.entry_set_init (check_set_init_1 ty0 ?_)) fun r2 s2 hr2 => ?_
      · obtain ⟨⟨c1, d1, t1, s1⟩, ho, k1, nl, u1⟩ := hl
        simp only at k1 u1
        subst k1 u1
        have lst1 : (s.heap.push (noSet w)).get? l = some { cls := .type "list", dict := d1, data := .seq vs nl, slots := s1 } := Heap.get?_push_of_some _ ho
        have n1 := F.sub_list_set
        have n2 := F.sub_list_frozenset
        have n3 : (Value.type "list" == Value.type "dict") = false := by decide
        have isl : (s.heap.push (noSet w)).IsList l vs := ⟨_, lst1, rfl, nl, rfl⟩
        unfold Builtin.«set.__init__» noKeywords Builtin.Frozenset.updateFrom
        generalize hPI : pyIter = PI
        wp_walk
        subst hPI
        refine wpAny_pyIter_list isl (wpAny_bind (wpAny_runValue ?_))
        have lo : l < s.heap.objs.size := Heap.lt_size ho
        have calm : A.in1.in1.in1.handled = none := by simp [hh]
        have apart : l ≠ (s.heap.push (noSet w)).objs.size := by rw [size1]; exact Nat.ne_of_lt (Nat.lt_succ_of_lt lo)
        have out : s.heap.objs.size ∉ [(s.heap.push (noSet w)).objs.size, l] := by
          rw [size1]
          simp only [List.mem_cons, List.mem_singleton, List.not_mem_nil, or_false, not_or]
          exact ⟨Nat.ne_of_lt (Nat.lt_succ_self _), Nat.ne_of_gt lo⟩
        have val : ∀ (i : Nat) (v : Value), vs[i]? = some v → ∃ k t, ts[i]? = some k ∧ v = .str k t := fun i v hv => strs_at hi i v (by rw [Array.getElem?_toList]; exact hv)
        refine loopX ((Walks.list calm _ l apart vs).toS) s.heap.objs.size out ts vsz hb val (vs.size - 0) 0 _ (by omega) (Nat.zero_le _) ⟨⟨_, Heap.get?_push_size _ rfl, rfl, rfl⟩, (isl.push _)⟩ ?first ?last
        case first => exact ⟨[], Nat.le_refl 0, newX (Heap.get?_push_of_some _ get0), fun x => by simp⟩
        case last =>
          intro s3 m mv le st mem
          obtain ⟨g3, gn, dr, tk3, o3⟩ := s3
          have q1 : gn = s.gens := mv.gens
          have q2 : dr = s.drawn := mv.drawn
          have q3 : o3 = s.os := mv.os
          subst q1 q2 q3
          show wpAny _ _ _ _ _ _
          refine wpAny_pure ?_
          show wpAny _ _ (ret Value.none) _ _ _
          rw [vsz] at le
          refine wpAny_pure ⟨rfl, g3, tk3, m, rfl, st, le, mem, fun b o e => ?_⟩
          have b0 : b < s.heap.objs.size := Heap.lt_size e
          refine mv.heap b o ?_ (Heap.get?_push_of_some _ (Heap.get?_push_of_some _ e))
          rw [size1]
          simp only [List.mem_cons, List.mem_singleton, List.not_mem_nil, or_false, not_or]
          exact ⟨Nat.ne_of_lt b0, Nat.ne_of_lt (Nat.lt_succ_of_lt b0)⟩
      · cases r2 with
        | error e => exact hr2
        | ok fl2 =>
          cases fl2 with
          | ret r =>
            obtain ⟨rfl, g, tk, m, rfl, st, le, mem, kp⟩ := hr2
            repeat (any_goals (first | assumption | wp_step))
            exact fin _ _ _ st le mem kp
          | _ => exact hr2.elim
    | _ => exact hr.elim
end
end FE
end
section
set_option Elab.async false
set_option linter.all false
set_option maxRecDepth 100000
set_option maxHeartbeats 4000000
/-! FeSetT4: sorted of a set of texts; the two calls. -/
namespace FE
open PySem PySem.Spec PyProof.Rows L2
section
variable {P : Program} {w : World} {A : Around} {E : Value → Shared → Prop} {s : Shared}
def strX (v : Value) : Str := match v with | .str k _ => k | _ => ""
theorem strs_of_all : ∀ (l : List Value), (∀ v ∈ l, ∃ k tk, v = Value.str k tk) → StrsAre l (l.map strX)
  | [], _ => .nil
  | v :: l, h => by
    obtain ⟨k, tk, rfl⟩ := h v List.mem_cons_self
    exact .cons k tk (strs_of_all l fun u m => h u (List.mem_cons_of_mem _ m))
theorem sorted_texts {a : Addr} {l : List Str} {Q : Value → Shared → Prop} (m : SetX w s.heap a l) (hh : A.handled = none) (few : l.length < 64)
    (fin : ∀ s' p (out : Array Value) (c : Nat) (ts : List Str), (∀ b o, s.heap.get? b = some o → s'.heap.get? b = some o) → s'.gens = s.gens → s'.os = s.os → s.heap.objs.size ≤ p →
      s'.heap.get? p = some (seqObj "list" out c) → StrsAre out.toList ts → ts.Perm l → l.Nodup → sortedS ts = true → Q (.ref p) s') :
    wpAny (model P w) A (call (.builtin "sorted") [.ref a]) Q E s := by
  obtain ⟨ob, en, n, tb, e0, ex, ed, g, pl, nd, sz, fit, ri, ld⟩ := m
  refine Calls.call_function_entry kind_sorted plain_sorted entry_sorted (args_sorted1 _) ?_
  unfold Builtin.«sorted»
  refine wpAny_bind (m := checkCount "sorted" 1 1 _) (wpAny_pure ?_)
  refine wpAny_bind (collect_set (A := A.in1) hh ⟨ob, e0, ex.1, ed⟩ fit sz ri ld fun s1 vs k1 hz g1 o1 pm => ?_)
  have vl : vs.length = l.length := by rw [pm.length_eq, List.length_map, ← pl.length_eq, List.length_map]
  have is : StrsAre vs (vs.map strX) := strs_of_all vs fun v hv => by
    obtain ⟨e, me, q⟩ := List.mem_map.mp (pm.mem_iff.mp hv)
    obtain ⟨k, tk, z, _⟩ := g e me
    exact ⟨k, tk, by rw [← q]; exact z⟩
  have pk : (vs.map strX).Perm l := by
    have q := pm.map strX
    rw [List.map_map] at q
    exact q.trans pl
  have hl : vs.length ≤ sizeLine := by rw [vl, sizeLine_eq]; omega
  refine wpAny_bind (wpAny_newList ?_ hl)
  have hoL : (s1.heap.push (seqObj "list" vs.toArray 0)).get? s1.heap.objs.size = some (seqObj "list" vs.toArray 0) := Heap.get?_push_size _ rfl
  refine wpAny_bind (wpAny_holding (wpAny_call_entry slot_list_sort ⟨_, hoL, rfl⟩ entry_list_sort (list_sort_treeKAny strKind_oneLt hoL is.keysOf (fun v1 v2 rest e => keyKind_strs (by rw [← e]; exact is)) hl fun st a1 a2 => ⟨_, rfl, ?_⟩) (args_list_sort _)))
  obtain ⟨ts, b1, b2, b3⟩ := sorted_out_str is a1 a2
  obtain ⟨c, hc⟩ := sortedHeap_at (vs := vs) (out := (arrOf st).map (·.2)) hoL
  refine wpAny_pure ⟨_, rfl, fin _ s1.heap.objs.size _ c ts (fun b u e => ?_) g1 o1 hz hc b1 (b2.trans pk) nd b3⟩
  have q := k1 b u e
  have lt := Heap.lt_size q
  show (sortedHeap (s1.heap.push (seqObj "list" vs.toArray 0)) s1.heap.objs.size vs _).get? b = some u
  rw [sortedHeap_old (Nat.ne_of_lt lt) (by rw [size_push']; exact Nat.lt_succ_of_lt lt)]
  exact Heap.get?_push_of_some _ q
end
/-- the set of texts -/
def SetXO (w : World) (a : Addr) (l : List Str) : HO := .ext fun h => SetX w h a l
theorem setXO_new {w : World} {P : Program} {H : Hp} {h : Heap} {a : Addr} {l : List Str} (m : SetX w h a l) : ObjOk P w H h a (SetXO w a l) := by
  have ⟨o, _, _, _, ho, _⟩ := m
  exact ⟨m, ⟨o, ho⟩, fun h1 h2 p k => SetX.by p k⟩
theorem vals_of_strs : ∀ {us : List Value} {ts : List Str}, StrsAre us ts → Vals (ts.map V.str) us
  | _, _, .nil => .nil
  | _, _, .cons y k r => .cons ⟨k, rfl⟩ (vals_of_strs r)
theorem callR_or {X : Cx} {f : Value} {r1 r2 : List V → Hp → VK → Prop} (h1 : CallR X f r1) (h2 : CallR X f r2) : CallR X f (fun xs H Q => r1 xs H Q ∨ r2 xs H Q) := by
  intro pins s σ H xs us Q I r h
  rcases h with h | h
  · exact h1 pins s σ H xs us Q I r h
  · exact h2 pins s σ H xs us Q I r h
section
variable {X : Cx}
theorem call_setT (hc : X.calm = true) : CallR X (.type "set") (fun xs H Q => ∃ (a : Addr) (ts : List Str), xs = [.ref a] ∧ SqL X.K H a (ts.map V.str) ∧ ts.length < 64 ∧ ∀ p l, H p = none → l.length ≤ ts.length → (∀ x, x ∈ l ↔ x ∈ ts) → Q (.ref p) (upd H p (SetXO X.w p l))) := by
  intro pins s σ H xs us Q I r ⟨a, ts, ex, sq, hl, q⟩
  subst ex
  obtain ⟨u, rfl, ru⟩ := vals1 r
  obtain rfl : u = Value.ref a := ru
  obtain ⟨its, va, pl, hz⟩ := I.list sq
  refine set_of_texts ts (I.ok.hd hc) pl.isList (strsAre_of va) (by unfold scanBound; omega) fun g tk m st le mem kp => ?_
  exact ⟨.ref s.heap.objs.size, _, I.laid (t' := tk) (o := SetXO X.w s.heap.objs.size m) kp (Nat.le_refl _) (setXO_new st), rfl, q _ m (I.hok.fresh (Nat.le_refl _)) le mem⟩
theorem cr_sortedX (hc : X.calm = true) : CallR X (.builtin "sorted") (fun vs H Q => ∃ (a : Addr) (l : List Str), vs = [V.ref a] ∧ H a = some (SetXO X.w a l) ∧ l.length < 64 ∧ ∀ (ts : List Str) (p : Addr), ts.Perm l → l.Nodup → sortedS ts = true → H p = none → Q (.ref p) (upd H p (.lst (ts.map V.str)))) := by
  intro pins s σ H vs us Q I r ⟨a, l, ex, ha, few, q⟩
  subst ex
  obtain ⟨u, rfl, ru⟩ := vals1 r
  obtain rfl : u = Value.ref a := ru
  have m : SetX X.w s.heap a l := (I.hok a _ ha).1
  refine sorted_texts m (I.ok.hd hc) few fun s' p out c ts k g o hp hg hi pm nd so => ?_
  have len : (ts.map V.str).length ≤ sizeLine := by rw [List.length_map, pm.length_eq, sizeLine_eq]; omega
  have hn : H p = none := I.hok.fresh hp
  have J : Inv X pins σ (upd H p (.lst (ts.map V.str))) { s with heap := s'.heap, gens := s'.gens, drawn := s'.drawn, toks := s'.toks } :=
    I.call (ch := []) (Un.laid k hp hn) (I.hok.laid k hp ⟨len, out.toList, c, vals_of_strs hi, hg⟩) (by rw [g]; exact I.bare) (fun _ z => nomatch z)
  have e : s' = { s with heap := s'.heap, gens := s'.gens, drawn := s'.drawn, toks := s'.toks } := by
    cases s'
    cases s
    cases o
    rfl
  rw [e]
  exact ⟨.ref p, _, J, rfl, q ts p pm nd so hn⟩
end
end FE
end
section
set_option Elab.async false
set_option linter.all false
set_option maxRecDepth 100000
/-! FeSetT3: sorted(set(..)), of ints or of texts. -/
namespace FE
open PySem PySem.Spec PyProof.Rows L2
theorem up_uniqG {α : Type} {r : α → α → Prop} (irr : ∀ a, ¬ r a a) (asy : ∀ a b, r a b → ¬ r b a) : ∀ {l m : List α}, l.Pairwise r → m.Pairwise r → (∀ k, k ∈ l ↔ k ∈ m) → l = m
  | [], [], _, _, _ => rfl
  | [], k :: m, _, _, h => absurd ((h k).mpr List.mem_cons_self) List.not_mem_nil
  | k :: l, [], _, _, h => absurd ((h k).mp List.mem_cons_self) List.not_mem_nil
  | i :: l, j :: m, h1, h2, h => by
    obtain ⟨a1, a2⟩ := List.pairwise_cons.mp h1
    obtain ⟨b1, b2⟩ := List.pairwise_cons.mp h2
    have e : i = j := by
      rcases List.mem_cons.mp ((h i).mp List.mem_cons_self) with z | z
      · exact z
      · rcases List.mem_cons.mp ((h j).mpr List.mem_cons_self) with y | y
        · exact y.symm
        · exact absurd (a1 j y) (asy _ _ (b1 i z))
    subst e
    rw [up_uniqG irr asy a2 b2 fun k => ⟨fun hk => by
      rcases List.mem_cons.mp ((h k).mp (List.mem_cons_of_mem _ hk)) with z | z
      · subst z; exact absurd (a1 _ hk) (irr _)
      · exact z, fun hk => by
      rcases List.mem_cons.mp ((h k).mpr (List.mem_cons_of_mem _ hk)) with z | z
      · subst z; exact absurd (b1 _ hk) (irr _)
      · exact z⟩]
theorem lt3 {i j : List Nat} (h1 : ¬ i < j) (h2 : ¬ i = j) : j < i := by
  by_cases c : j < i
  · exact c
  · exact absurd (List.le_antisymm (List.not_lt.mp c) (List.not_lt.mp h1)) h2
theorem insT_mem (i : List Nat) : ∀ (l : List (List Nat)) (k : List Nat), k ∈ insT i l ↔ k = i ∨ k ∈ l
  | [], k => by simp [insT]
  | j :: r, k => by
    unfold insT
    cases e : ltS i j with
    | true => simp
    | false =>
      simp only
      cases e2 : eqS i j with
      | true =>
        rw [eqS_eq] at e2
        have e2 : i = j := of_decide_eq_true e2
        subst e2
        simp
      | false =>
        simp only [List.mem_cons, insT_mem i r k]
        constructor
        · rintro (h | h | h)
          · exact .inr (.inl h)
          · exact .inl h
          · exact .inr (.inr h)
        · rintro (h | h | h)
          · exact .inr (.inl h)
          · exact .inl h
          · exact .inr (.inr h)
theorem insT_up (i : List Nat) : ∀ l : List (List Nat), l.Pairwise (· < ·) → (insT i l).Pairwise (· < ·)
  | [], _ => List.pairwise_singleton _ _
  | j :: r, h => by
    obtain ⟨h1, h2⟩ := List.pairwise_cons.mp h
    unfold insT
    cases e : ltS i j with
    | true =>
      rw [ltS_eq] at e
      have e : i < j := of_decide_eq_true e
      refine List.pairwise_cons.mpr ⟨fun k hk => ?_, h⟩
      rcases List.mem_cons.mp hk with z | hk
      · subst z; exact e
      · exact List.lt_trans e (h1 k hk)
    | false =>
      simp only
      rw [ltS_eq] at e
      have e : ¬ i < j := of_decide_eq_false e
      cases e2 : eqS i j with
      | true => exact h
      | false =>
        rw [eqS_eq] at e2
        have e2 : ¬ i = j := of_decide_eq_false e2
        refine List.pairwise_cons.mpr ⟨fun k hk => ?_, insT_up i r h2⟩
        rcases (insT_mem i r k).mp hk with z | hk
        · subst z; exact lt3 e e2
        · exact h1 k hk
theorem setT_mem : ∀ (l : List (List Nat)) (k : List Nat), k ∈ setT l ↔ k ∈ l
  | [], k => Iff.rfl
  | i :: r, k => by
    show k ∈ insT i (setT r) ↔ _
    rw [insT_mem, setT_mem r k, List.mem_cons]
theorem setT_up : ∀ l : List (List Nat), (setT l).Pairwise (· < ·)
  | [] => List.Pairwise.nil
  | i :: r => insT_up i _ (setT_up r)
def cpS (t : Str) : List Nat := t.cps.toList
theorem cp_to (t : Str) : toS (cpS t) = t := rfl
theorem cp_inj {a b : Str} (h : cpS a = cpS b) : a = b := by rw [← cp_to a, h, cp_to]
theorem rise_up : ∀ (r : List Str) (p : Str), risingS p r = true → (p :: r).Nodup → ((p :: r).map cpS).Pairwise (· < ·)
  | [], p, _, _ => List.pairwise_singleton _ _
  | x :: r, p, h, nd => by
    have h : (!ltCps x.cps.toList p.cps.toList && risingS x r) = true := h
    rw [Bool.and_eq_true] at h
    obtain ⟨h1, h2⟩ := h
    obtain ⟨n1, n2⟩ := List.nodup_cons.mp nd
    have ih := rise_up r x h2 n2
    have lt : cpS p < cpS x := by
      refine lt3 (fun z => ?_) (fun z => n1 (by rw [cp_inj z]; exact List.mem_cons_self))
      rw [ltCps_eq] at h1
      have h1 : (!decide (cpS x < cpS p)) = true := h1
      rw [decide_eq_true z] at h1
      cases h1
    rw [List.map_cons]
    refine List.pairwise_cons.mpr ⟨fun k hk => ?_, ih⟩
    rw [List.map_cons] at hk ih
    rcases List.mem_cons.mp hk with z | hk
    · subst z; exact lt
    · exact List.lt_trans lt ((List.pairwise_cons.mp ih).1 k hk)
theorem texts_up {ts : List Str} (h : sortedS ts = true) (nd : ts.Nodup) : (ts.map cpS).Pairwise (· < ·) := by
  cases ts with
  | nil => exact List.Pairwise.nil
  | cons x r => exact rise_up r x h nd
theorem rws_strs {G : GM} {K : PySem.W.Frag} {ρ : Rho} {H : Hp} : ∀ l : List (List Nat), RWs G K ρ H (strsL l) ((l.map toS).map V.str)
  | [] => .nil
  | i :: r => .cons (.str i) (rws_strs r)
theorem strs_ok {G : GM} {K : PySem.W.Frag} {ρ : Rho} {H : Hp} : ∀ {ws : List FE.W} {l : List (List Nat)} {xs : List V}, strsW ws = some l → RWs G K ρ H ws xs → xs = (l.map toS).map V.str
  | [], l, xs, e, r => by cases e; cases r; rfl
  | x :: ws, l, xs, e, r => by
    cases r with
    | cons a r =>
      cases a with
      | str i =>
        have e : (match strsW ws with | some l => some (i :: l) | none => none) = some l := e
        split at e
        · next l2 e2 => cases e; rw [strs_ok e2 r]; rfl
        · cases e
      | _ => cases e
section
variable {X : Cx} {G : GM} {Z : ZF X.K} {a b : Expr} {sa sb : Sem} {sl : Slt} {p p2 q pos : Pos}
theorem ssetS_inv {ws : List FE.W} {h : FE.H} {k : List (List Nat) → B} (run : ssetS ws h k = true) : ∃ l, strsW ws = some l ∧ l.length < 64 ∧ k (setT l) = true := by
  obtain ⟨l, e, run⟩ := opt_inv (show opt 219 (strsW ws) _ = true from run)
  have run : (match few l with | true => k (setT l) | false => stop 219) = true := run
  split at run
  · next f => exact ⟨l, e, Nat.blt_eq.mp f, run⟩
  · cases run
theorem ssetK_inv {ws : List FE.W} {h : FE.H} {k : KW} (run : ssetK ws h k = true) : (ssetI ws h fun l => newK h (.lst (intsL l)) k) = true ∨ (ssetS ws h fun l => newK h (.lst (strsL l)) k) = true := by
  unfold ssetK at run
  split at run
  · exact .inl run
  · split at run
    · exact .inr run
    · exact .inl run
theorem ev_sset (hc : X.calm = true) (hu : X.A.units + 64 < cLine) (hg : Gl X "sorted") (hm : X.mg "sorted" = none) (hg2 : Gl X "set") (hm2 : X.mg "set" = none) (ha : PE X a (EvL G X.K Z sl)) (hs : starEach (a :: []) X.env = (false, eval a X.env) :: starEach [] X.env := by rfl)
    (hs2 : starEach (.Call (.Name "set" p2) [a] [] q :: []) X.env = (false, eval (.Call (.Name "set" p2) [a] [] q) X.env) :: starEach [] X.env := by rfl) : PE X (.Call (.Name "sorted" p) [.Call (.Name "set" p2) [a] [] q] [] pos) (EvE G X.K Z (cSset sl)) :=
  (pe_callB (callR_or (cr_sortedSet hc) (cr_sortedX hc)) hg hm (by rfl) (pa_1 (pe_callTy (callR_or (call_setI hc) (call_setT hc)) hg2 hm2 (by rfl) (pa_1 ha hs) (by decide) (by decide) hs) hs2) (by decide) (by decide) hs2).imp fun σ H Q ⟨ρ, e, h, kx, k, n, run, fin, fx⟩ => by
    have run : sl e h kx (fun xs h => ssetK xs h k) = true := run
    refine ⟨ρ, e, h, kx, _, n, run, fun ws h' v c xs H' ρ' run1 t1 R1 ev sq r => ?_, fx⟩
    subst ev
    rcases ssetK_inv run1 with run1 | run1
    · obtain ⟨l, e1, l64, run1⟩ := ssetI_inv run1
      have ex := ints_ok e1 r
      subst ex
      refine .inl ⟨c, l, rfl, sq, l64, fun p c' hp hc' => ?_⟩
      refine .inl ⟨p, _, c', rfl, upd_same, by omega, fun ns p2 up mem len hn => ?_⟩
      have en : ns = setI l := up_uniq up (setI_up l) fun k => by rw [mem k, setI_mem]; exact decide_eq_true_iff
      subst en
      have t2 : Ext X.K ρ' H' ρ' (upd H' p (SetO X.w p (fun j => decide (j ∈ l)) c')) := ext_new hp (fun _ _ z => z) fun _ _ z => .inl z
      have R2 : RH G X.K ρ' h' (upd H' p (SetO X.w p (fun j => decide (j ∈ l)) c')) := R1.unseen (fun n z => R1.live n p z hp) (.none hp)
      exact new_lst R2 hn (rws_ints _) run1 ((fin.mono t1).mono t2)
    · obtain ⟨l, e1, l64, run1⟩ := ssetS_inv run1
      have ex := strs_ok e1 r
      subst ex
      refine .inr ⟨c, l.map toS, rfl, sq, by rw [List.length_map]; exact l64, fun p m hp len mem => ?_⟩
      rw [List.length_map] at len
      refine .inr ⟨p, m, rfl, upd_same, by omega, fun ts p2 pm nd so hn => ?_⟩
      have en : ts.map cpS = setT l := up_uniqG (r := fun a b : List Nat => a < b) (fun a => List.lt_irrefl a) (fun a b z y => List.lt_irrefl a (List.lt_trans z y)) (texts_up so (pm.nodup_iff.mpr nd)) (setT_up l) fun k => by
        rw [setT_mem]
        constructor
        · intro z
          obtain ⟨t, mt, e⟩ := List.mem_map.mp z
          obtain ⟨k2, mk, e2⟩ := List.mem_map.mp ((mem t).mp (pm.mem_iff.mp mt))
          rw [← e, ← e2]
          exact mk
        · intro z
          exact List.mem_map.mpr ⟨toS k, pm.mem_iff.mpr ((mem _).mpr (List.mem_map.mpr ⟨k, z, rfl⟩)), rfl⟩
      have et : ts = (setT l).map toS := by
        rw [← en, List.map_map]
        exact (List.map_id ts).symm
      subst et
      have t2 : Ext X.K ρ' H' ρ' (upd H' p (SetXO X.w p m)) := ext_new hp (fun _ _ z => z) fun _ _ z => .inl z
      have R2 : RH G X.K ρ' h' (upd H' p (SetXO X.w p m)) := R1.unseen (fun n z => R1.live n p z hp) (.none hp)
      exact new_lst R2 hn (rws_strs _) run1 ((fin.mono t1).mono t2)
end
end FE
end
section
set_option Elab.async false
set_option linter.all false
set_option maxRecDepth 100000
/-! FeZip3: list(zip(..)). -/
namespace FE
open PySem PySem.Spec PyProof.Rows L2
theorem rws_zip {G : GM} {K : PySem.W.Frag} {ρ : Rho} {H : Hp} : ∀ {ws us : List FE.W} {xs ys : List V} {ts : List Addr}, RWs G K ρ H ws xs → RWs G K ρ H us ys → ts.length = min xs.length ys.length →
    (∀ (j : Nat) t x y, ts[j]? = some t → xs[j]? = some x → ys[j]? = some y → PTu H t [x, y]) → RWs G K ρ H (zipL ws us) (ts.map V.ref)
  | [], _, _, _, ts, .nil, _, l, _ => by
    have l : ts.length = 0 := by rw [l]; simp
    cases ts with
    | nil => cases ‹List FE.W› <;> exact .nil
    | cons t ts => cases l
  | _ :: _, [], _, _, ts, .cons _ _, .nil, l, _ => by
    have l : ts.length = 0 := by rw [l]; simp
    cases ts with
    | nil => exact .nil
    | cons t ts => cases l
  | _ :: _, _ :: _, x :: xs, y :: ys, ts, .cons r1 s1, .cons r2 s2, l, h => by
    cases ts with
    | nil => simp at l
    | cons t ts =>
      have l : ts.length = min xs.length ys.length := by simp at l; omega
      exact .cons (.tup (h 0 t x y rfl rfl rfl).sq (.cons r1 (.cons r2 .nil)) fun _ => h 0 t x y rfl rfl rfl) (rws_zip s1 s2 l fun j t' x' y' e1 e2 e3 => h (j + 1) t' x' y' (by simpa using e1) (by simpa using e2) (by simpa using e3))
section
variable {X : Cx} {G : GM} {Z : ZF X.K} {a b : Expr} {sa sb : Sem} {p p2 q pos : Pos}
theorem seqF_inv {ρ : Rho} {h : FE.H} {H : Hp} {x : FE.W} {v : V} {k : List FE.W → FE.H → B} (R : RH G X.K ρ h H) (r : RW G X.K ρ H x v) (run : seqW x h k = true) : ∃ f a xs ws, v = .ref a ∧ SqF X.K H f a xs ∧ RWs G X.K ρ H ws xs ∧ k ws h = true := by
  have of : ∀ {x : FE.W}, RW G X.K ρ H x v → lstW x h k = true → ∃ f a xs ws, v = .ref a ∧ SqF X.K H f a xs ∧ RWs G X.K ρ H ws xs ∧ k ws h = true := fun {x} r run => by
    obtain ⟨n, ws, rfl, g, run⟩ := lstW_inv run
    obtain ⟨l, rfl, q1⟩ := rw_ob r
    obtain ⟨us, ea, t⟩ := lst_at R g q1
    exact ⟨true, l, us, ws, rfl, .of ea, t, run⟩
  cases x with
  | tup ws =>
    obtain ⟨l, us, rfl, q1, t1⟩ := rw_tup r
    exact ⟨false, l, us, ws, rfl, q1, t1, run⟩
  | ob n => exact of r run
  | non => cases run
  | bl c => cases run
  | int c => cases run
  | str c => cases run
  | cls c => cases run
  | fn c => cases run
theorem ev_listZip (hc : X.calm = true) (hg : Gl X "list") (hm : X.mg "list" = none) (hg2 : Gl X "zip") (hm2 : X.mg "zip" = none) (ha : PA X [a, b] (EvA G X.K Z (aOne sa (aOne sb aNil))))
    (hs : starEach [.Call (.Name "zip" p2) [a, b] [] q] X.env = (false, eval (.Call (.Name "zip" p2) [a, b] [] q) X.env) :: starEach [] X.env := by rfl)
    (hs2 : starEach [a, b] X.env = (false, eval a X.env) :: starEach [b] X.env := by rfl) (hpl : (backTo q (starEach [b] X.env)).any (·.1) = false := by rfl) :
    PE X (.Call (.Name "list" p) [.Call (.Name "zip" p2) [a, b] [] q] [] pos) (EvE G X.K Z (cLz sa sb)) :=
  (pe_listZip hc hg hm hg2 hm2 ha hs hs2 hpl).imp fun σ H Q ⟨ρ, e, h, kx, k, n, run, fin, fx⟩ => by
    have run : sa e h kx (fun x h => sb e h kx fun y h => seqW x h fun xs h => seqW y h fun ys h => newK h (.lst (zipL xs ys)) k) = true := run
    refine EvA.then (k := fun ws h => match ws with | [x, y] => seqW x h (fun xs h => seqW y h fun ys h => newK h (.lst (zipL xs ys)) k) | _ => false) n run fx fun ws h1 vs H1 ρ1 t1 n1 r1 run1 _ => ?_
    match ws, run1 with
    | [x, y], run1 =>
      cases r1 with
      | cons r1 r2 =>
        cases r2 with
        | cons r2 r3 =>
          cases r3
          obtain ⟨f, l, xs, ws, rfl, q1, s1, run1⟩ := seqF_inv n1.rh r1 run1
          obtain ⟨g, m, ys, us, rfl, q2, s2, run1⟩ := seqF_inv n1.rh r2 run1
          refine ⟨f, g, l, m, xs, ys, rfl, q1, q2, fun H' r ts kp nr er hl ht => ?_⟩
          obtain ⟨_, most, run2⟩ := newK_inv run1
          obtain ⟨ex, R'⟩ := n1.rh.grow kp
          obtain ⟨ρ2, e1, e2, e3, R2⟩ := RH.see R' (fun n z => n1.rh.live n r z nr) er (rws_zip (s1.mono ex) (s2.mono ex) hl ht) most
          have t2 : Ext X.K ρ1 H1 ρ2 H' := ⟨⟨⟨e2, ex.tup, ex.pt⟩, ex.frz⟩, fun n a z => (e3 n a z).imp id fun z => by rw [z]; exact nr, ex.there, fun a ha _ => kp a ha⟩
          exact fin (.ob h1.n) _ (.ref r) H' ρ2 run2 (t1.trans t2) R2 (.ob e1)
    | [], run1 => cases run1
    | [_], run1 => cases run1
    | _ :: _ :: _ :: _, run1 => cases run1
end
end FE
end
section
set_option Elab.async false
set_option linter.all false
set_option maxRecDepth 100000
set_option maxHeartbeats 1000000
/-! FeSup1: an own __init__ that says super().__init__(v); self.f = v, run (the class stands right over LookupError). -/
namespace FE
open PySem PySem.Calls PySem.Spec PyProof.Rows
open PySem.W (Frag InstAt ksEnv ksFn ks_superObj kxs_mw excObj excTup dictOf)
/-- the bases of such a class -/
abbrev leBase : List Value := [.type "LookupError", .type "Exception", .type "BaseException", .type "object"]
/-- the body -/
def supBody (sf pl nm : Str) (p0 p1 p2 p3 p4 p5 p6 p7 p8 p9 : Pos) : List Stmt :=
  [.Expr (.Call (.Attribute (.Call (.Name "super" p0) [] [] p1) "__init__" p2) [.Name pl p3] [] p4) p5, .Assign [.Attribute (.Name sf p6) nm p7] (.Name pl p8) p9]
/-- what the scope says -/
structure SupSc (scope : Scope) (sf pl nm : Str) (p0 p1 p2 p3 p4 p5 p6 p7 p8 p9 : Pos) : Prop where
  sup : scope.names.lookup ("super" : Str) = some .globalImplicit
  cls : scope.names.lookup ("__class__" : Str) = some .free
  self : scope.names.lookup sf = some .local
  arg : scope.names.lookup pl = some .local
  nocell : ∀ y ∈ scope.names, y.2 ≠ .cell
  kind : scope.kind = .function
  co : scope.isCoroutine = false
  gen : scope.isGenerator = false
  dbg1 : (sf == ("__debug__" : Str)) = false
  dbg2 : (pl == ("__debug__" : Str)) = false
  ne : sf ≠ pl
  call : ∀ (q : Str) (L f : Addr) (cd : Value) (cc : Addr), ∃ plm : PySem.Sem Bool, eval (.Call (.Attribute (.Call (.Name "super" p0) [] [] p1) "__init__" p2) [.Name pl p3] [] p4) (ksEnv q scope L f cd cc) = (do
    let ov ← attributeBase (.Call (.Name "super" p0) [] [] p1) "__init__" (ksEnv q scope L f cd cc) (eval (.Call (.Name "super" p0) [] [] p1) (ksEnv q scope L f cd cc))
    standAt p2.atName
    let (g, first) ← holding [ov] (getMethod ov "__init__" plm)
    callWith p4 g first (backTo p4 (starEach [.Name pl p3] (ksEnv q scope L f cd cc))) [])
  quiet : ∀ (q : Str) (L f : Addr) (cd : Value) (cc : Addr), interactive (ksEnv q scope L f cd cc) = false
  swap : ∀ (q : Str) (L f : Addr) (cd : Value) (cc : Addr), swapsWith (.Name pl p8) (some (.Attribute (.Name sf p6) nm p7)) p9.line (ksEnv q scope L f cd cc) = pure false
/-- what the written part says of the class at C and of its __init__ -/
structure SupK (PM : Program) (K : Frag) (C fI cc cda : Addr) (fd : FuncData) (sf pl nm : Str) : Prop where
  ex : ∃ name qual params p0 p1 p2 p3 p4 p5 p6 p7 p8 p9 scope dV kV doc pm an ct oc od osl, fd = ksFn name qual params (supBody sf pl nm p0 p1 p2 p3 p4 p5 p6 p7 p8 p9) scope dV kV doc pm an (.ref cda) ct cc ∧ K.lookup fI = some ⟨oc, od, .func fd, osl⟩ ∧ PySem.W.codeIn K (.ref cda) qual = true ∧ SupSc scope sf pl nm p0 p1 p2 p3 p4 p5 p6 p7 p8 p9 ∧
    (∃ ar, (params.posonlyargs ++ params.args).head? = some ar ∧ ar.arg = sf)
  code : ∃ ccl cdd vs ccs file tf, K.lookup cda = some ⟨ccl, cdd, .fields vs, ccs⟩ ∧ vs[2]? = some (.str file tf) ∧ ((PM.main.file : Str) == file) = true
  cell : ∃ cl cld csl, K.lookup cc = some ⟨cl, cld, .cell (some (.ref C)), csl⟩
  cl : ∃ cd, PySem.W.clsIn K C = some cd
  own : PySem.W.mroIn K C (.ref C) = some true
  top : (PM.main.scope.names.lookup ("super" : Str)).isSome = false
  tp : PySem.W.nsIn K cStatics "thirdparty.any" = some none
  sm : PySem.W.ks_superIn K C C "__init__" = some (some (.builtin "LookupError.__init__"))
  sb : PySem.W.subIn K (.ref C) (.type "LookupError") = some true
  ei : PySem.W.excInitIn K C leBase "LookupError.__new__" = true
  sa : PySem.W.findIn K (.ref C) "__setattr__" = some (some (.builtin "object.__setattr__"))
  eo : PySem.W.excOver K C leBase = true
  tk : PySem.W.takerIn K C nm = some none
  hd : PySem.W.hasDictIn K C = true
section
variable {PM : Program} {w : World} {A : Around} {K : Frag} {h₀ : Heap} {C x t fI cc cda : Addr} {u : Value} {s : Shared} {R : Result → Shared → Prop} {fd : FuncData} {sf pl nm : Str} {mg : Str → Option Value} {args : Args}
theorem sup_init (T : SupK PM K C fI cc cda fd sf pl nm) (X₀ : K.In h₀) (sub : ∀ b o, h₀.get? b = some o → s.heap.get? b = some o) (x0 : h₀.get? x = none) (hx : s.heap.get? x = some (excObj C t none .none))
    (glob : h₀.Ns mainGlobals mg) (msup : mg "super" = none) (blt : ∃ mb, h₀.Ns builtinsNs mb ∧ ∀ y : Str, y ≠ "__name__" → mb y = bootBuiltins y) (lim : h₀.NoLimit) (room : A.depth < recursionLimit) (bind : BindsTo s fd args [(sf, .ref x), (pl, u)])
    (fin : ∀ h' tk dx t1 es n, (∀ b o, b ≠ x → s.heap.get? b = some o → h'.get? b = some o) → h'.get? x = some (excObj C t1 (some dx) .none) → h'.get? dx = some (dictOf es n) → s.heap.get? dx = none → dx ≠ x → s.heap.objs.size ≤ dx →
      (∃ hs k, es = [⟨hs, .str nm k, u⟩]) → R (.ok (.ret .none)) { s with heap := h', toks := tk }) :
    codeAny (model PM w) A (.call (.ref fI) args) R s := by
  obtain ⟨name, qual, params, p0, p1, p2, p3, p4, p5, p6, p7, p8, p9, scope, dV, kV, doc, pm, an, ct, oc, od, osl, efd, lk, hcd, Sc, ar, har, ear⟩ := T.ex
  subst efd
  obtain ⟨ccl, cdd, vs, ccs, file, tf, hcode, hvs, hfile⟩ := T.code
  obtain ⟨cl, cld, csl, hcell⟩ := T.cell
  obtain ⟨cdC, hcls⟩ := T.cl
  have XS : K.In s.heap := X₀.keeps sub
  refine ks_codeAny_call_defAt (binds := [(sf, .ref x), (pl, u)]) room (XS _ _ lk) rfl (lim.keeps sub) (PySem.W.codeRec_of XS hcd) rfl bind Sc.nocell (fun y hy => ?_) (fun h1 hns hk => ?_) Sc.co Sc.gen Sc.kind
  · rcases List.mem_cons.mp hy with z | hy
    · subst z; exact Sc.self
    · rcases List.mem_cons.mp hy with z | hy
      · subst z; exact Sc.arg
      · exact absurd hy List.not_mem_nil
  show _root_.PySem.wpAt (model PM w) (A.deeper (ksEnv qual scope s.heap.objs.size fI (.ref cda) cc)) (.func (supBody sf pl nm p0 p1 p2 p3 p4 p5 p6 p7 p8 p9) (ksEnv qual scope s.heap.objs.size fI (.ref cda) cc)) (execs (supBody sf pl nm p0 p1 p2 p3 p4 p5 p6 p7 p8 p9) (ksEnv qual scope s.heap.objs.size fI (.ref cda) cc)) _ _ _
  generalize hA : A.deeper (ksEnv qual scope s.heap.objs.size fI (.ref cda) cc) = A1
  have sz : (PySem.W.hideAll s.heap [x]).objs.size = s.heap.objs.size := PySem.W.hideAll_size _ _
  have F1 : Fr (PySem.W.hideAll s.heap [x]) s.heap.objs.size h1 (fun y => [(sf, Value.ref x), (pl, u)].reverse.lookup y) := ⟨hns, fun b o e => hk b o (PySem.W.of_hideAll _ e), Nat.le_of_eq sz⟩
  have N1 : News (PySem.W.hideAll s.heap [x]) s.heap.objs.size h1 [(x, excObj C t none .none)] := fun p hp => by
    rw [List.mem_singleton] at hp
    subst hp
    exact ⟨hk _ _ hx, Nat.ne_of_lt (Heap.lt_size hx), PySem.W.hideAll_none _ (by simp)⟩
  have low : ∀ b o, h₀.get? b = some o → (PySem.W.hideAll s.heap [x]).get? b = some o := fun b o e => PySem.W.hideAll_get _ (sub b o e) (fun z => by rw [List.mem_singleton] at z; rw [z, x0] at e; cases e)
  have XH : K.In (PySem.W.hideAll s.heap [x]) := X₀.keeps low
  have mself : [(sf, Value.ref x), (pl, u)].reverse.lookup sf = some (.ref x) := by
    show [(pl, u), (sf, Value.ref x)].lookup sf = _
    have e : (sf == pl) = false := beq_eq_false_iff_ne.mpr Sc.ne
    simp [List.lookup, e]
  have marg : [(sf, Value.ref x), (pl, u)].reverse.lookup pl = some u := by
    show [(pl, u), (sf, Value.ref x)].lookup pl = _
    simp [List.lookup]
  obtain ⟨oD, hD1, hD2⟩ : ∃ oD, h1.get? C = some oD ∧ oD.data = .cls cdC := by
    have q := hcls
    unfold PySem.W.clsIn at q
    split at q
    · rename_i c d cd' sl ho
      cases q
      exact ⟨_, F1.keep _ _ (XH _ _ ho), rfl⟩
    · cases q
  obtain ⟨plm, ecall⟩ := Sc.call qual s.heap.objs.size fI (.ref cda) cc
  refine ks_wpAt_execs_cons (ks_wpAt_Expr_any (ks_wpAt_MethodCall (pl := plm) ?_ ecall) (Sc.quiet _ _ _ _ _))
  refine ks_wpAt_super_base (env := ksEnv qual scope s.heap.objs.size fI (.ref cda) cc) Sc.sup Sc.cls rfl rfl (F1.keep _ _ (XH _ _ lk)) rfl har rfl (F1.keep _ _ (XH _ _ hcode)) rfl hvs hfile T.top ?_
  obtain ⟨mb, bn, bm⟩ := blt
  refine PySem.W.ks_loadName_global Sc.kind Sc.sup (loadGlobal_builtin (env := ksEnv qual scope s.heap.objs.size fI (.ref cda) cc) ((glob.keeps low).keeps F1.keep) msup ((bn.keeps low).keeps F1.keep) ((bm _ (by decide +kernel)).trans (by first | rfl | kernel_rfl)) ⟨rfl, ?_⟩)
  refine wpAny_loadName_free Sc.kind Sc.cls rfl ⟨_, F1.keep _ _ (XH _ _ hcell), rfl⟩ ?_
  rw [ear]
  refine wpAny_loadName_local Sc.kind Sc.self F1.ns mself ?_
  refine ks_wpAny_isType_cls hD1 hD2 ⟨rfl, ?_⟩
  refine ks_wpAny_call_super hD1 hD2 (N1 _ (List.mem_singleton.mpr rfl)).1 rfl (fun c e => by cases e) (PySem.W.looks_mroIn (XH.keeps F1.keep) T.own) (fun h2 e2 k2 => ?_)
  obtain ⟨F2, N2, l2⟩ := PySem.W.ks_newsPush (s := ⟨h1, s.gens, s.drawn, s.toks + 2, s.os⟩) (o := ks_superObj C x C) F1 N1 rfl e2 k2
  have ne2 : ∀ p ∈ [(x, excObj C t none .none)], p.1 ≠ h1.objs.size := fun p hp => Nat.ne_of_lt (l2 p hp)
  refine PySem.W.kxs_method (h₀ := PySem.W.hideAll s.heap [x]) (C := C) (D := C) PySem.W.kxs_LookupError F2 XH N2 List.mem_cons_self (InstAt.of_exc0 N2 (List.mem_cons_of_mem _ List.mem_cons_self)) T.tp T.sm T.sb (by decide +kernel) (fun q h3 F3 N3 l3 => ?_)
  refine PySem.W.kxs_callWith1 (i := "LookupError.__init__") (x := x) N3 List.mem_cons_self ?_
  refine args_cons (ESX.ldL F3.ns marg ?_ Sc.kind Sc.arg Sc.dbg2) rfl
  refine args_nil ⟨PySem.W.kxs_at N3 List.mem_cons_self, ?_⟩
  have xq : x ≠ q := Nat.ne_of_lt (l3 _ (List.mem_cons_of_mem _ List.mem_cons_self))
  have xs2 : x ≠ h1.objs.size := Nat.ne_of_lt (l2 _ List.mem_cons_self)
  refine PySem.W.kxs_call F3 XH N3 F.excBase_LookupError T.ei List.mem_cons_self (.tail (Ne.symm xq) (.tail (Ne.symm xs2) (.head fun p hp => absurd hp List.not_mem_nil))) (by show 1 ≤ sizeLine; rw [sizeLine_eq]; omega) (fun t' h4 F4 N4 l4 => ?_)
  have xt : x ≠ t' := Nat.ne_of_lt (l4 _ (List.mem_cons_of_mem _ (List.mem_cons_of_mem _ List.mem_cons_self)))
  dsimp only
  refine ks_wpAt_execs_cons (ks_wpAt_Assign_Attr (_root_.PySem.wpAt_of_wpAny (ESX.ldL F4.ns marg (ESX.ldL F4.ns mself ?_ Sc.kind Sc.self Sc.dbg1) Sc.kind Sc.arg Sc.dbg2)) ?hs)
  case hs => exact Sc.swap _ _ _ _ _
  refine PySem.W.set_exc0 F.store_LookupError F4 XH N4 (List.mem_cons_of_mem _ (List.mem_cons_of_mem _ (List.mem_cons_of_mem _ List.mem_cons_self))) T.sa T.eo T.tk T.hd rfl (.tail (Ne.symm xt) (.tail (Ne.symm xq) (.tail (Ne.symm xs2) (.head fun p hp => absurd hp List.not_mem_nil)))) (by show 1 ≤ 1000; omega) (fun dx h5 F5 N5 l5 => ?_)
  refine _root_.PySem.wpAt_of_wpAny (wpAny_execs_nil ?_)
  have hxx := N5 (x, excObj C t' (some dx) .none) (by simp)
  have hdd := N5 (dx, _) List.mem_cons_self
  have szd : s.heap.objs.size ≤ dx := by
    have a1 : q < dx := l5 (q, kxs_mw "LookupError.__init__" x) (List.mem_cons_of_mem _ List.mem_cons_self)
    have a2 : h1.objs.size < q := l3 (h1.objs.size, ks_superObj C x C) List.mem_cons_self
    have a3 : s.heap.objs.size < h1.objs.size := F1.ns.lt
    have a1 : (q : Nat) < dx := a1
    have a2 : (h1.objs.size : Nat) < q := a2
    exact Nat.le_of_lt (Nat.lt_trans a3 (Nat.lt_trans a2 a1))
  refine fin h5 _ dx t' _ _ (fun b o ne e => F5.keep b o (PySem.W.hideAll_get _ e fun z => ne (List.mem_singleton.mp z))) hxx.1 hdd.1 ?_ (fun z => ?_) szd ⟨_, _, rfl⟩
  · cases z : s.heap.get? dx with
    | none => rfl
    | some o => exact absurd (Heap.lt_size z) (Nat.not_lt.mpr szd)
  · exact absurd (Heap.lt_size hx) (by rw [← z]; exact Nat.not_lt.mpr szd)
end
end FE
end
section
set_option Elab.async false
set_option linter.all false
set_option maxRecDepth 100000
set_option maxHeartbeats 1000000
/-! FeSup2: raise C(v), C's __init__ of the kind of FeSup1. -/
namespace FE
open PySem PySem.Spec PyProof.Rows L2
section
variable {X : Cx} {x : Str} {C fI cc cda : Addr} {fd : FuncData} {sf pl nm : Str} {e : Expr} {ta : TA} {p pos : Pos}
/-- C(e): the exception, its dict -/
theorem pmk_sup {n : Nat} (T : SupK X.prog X.K C fI cc cda fd sf pl nm) (r : Raises X (.ref C)) (kC : PySem.W.keepIn X.K (.ref C) = true) (iC : PySem.W.findIn X.K (.ref C) "__init__" = some (some (.ref fI))) (tI : PySem.W.typeIn X.K (.ref fI) = some (.type "function"))
    (gC : X.mg x = some (.ref C)) (ms : X.mg "super" = none) (hg : Gl X x) (hr : Room n X.A) (hb : ∀ (s : Shared) (y u : Value), BindsTo s fd ⟨[y, u], []⟩ [(sf, y), (pl, u)]) (ha : PA X [e] ta)
    (hdb : (x == ("__debug__" : Str)) = false := by decide) (he : starEach [e] X.env = (false, eval e X.env) :: starEach [] X.env := by rfl) (hpl : (backTo pos (starEach [] X.env)).any (·.1) = false := by rfl) :
    PMk X (.Call (.Name x p) [e] [] pos) (fun σ H Q => ta σ H fun vs H1 => ∃ v, vs = [v] ∧ ∀ dx, H1 dx = none → Q (.ref C) (some dx) (upd H1 dx (.xd [(nm, v)]))) := by
  intro pins s σ H Q I h
  refine wpAny_Call_Name_kw (ld_glob I hg gC ?_ hdb)
  refine PySem.W.callWith_K (h₀ := X.base) I.ok.mod.kin kC (thn (ha.run pos pins s σ H _ I h) fun us s1 ⟨vs, H1, I1, r1, v, ev, q1⟩ => ⟨I1.kIn, ?_⟩) he hpl
  show wpAny _ _ (call (.ref C) us) _ _ _
  subst ev
  obtain ⟨u, rfl, ru⟩ := r1.one
  obtain ⟨nm', N, qn, bs, bm, hdct, sn, sub, ab, col, dd, k0, k1, k2, k3, k5, hC, hT⟩ := PySem.W.excInit_of I1.kIn T.ei
  obtain ⟨hp, g, dr, tk, os⟩ := s1
  have kk : ∀ b o, hp.get? b = some o → ((hp.push (PySem.W.kdv_tup [u])).push (PySem.HandSPX.excO C hp.objs.size)).get? b = some o := fun b o e => Heap.get?_push_of_some _ (Heap.get?_push_of_some _ e)
  have gx : ((hp.push (PySem.W.kdv_tup [u])).push (PySem.HandSPX.excO C hp.objs.size)).get? (hp.objs.size + 1) = some (PySem.W.excObj C hp.objs.size none .none) := by heap_get
  have szp : ((hp.push (PySem.W.kdv_tup [u])).push (PySem.HandSPX.excO C hp.objs.size)).objs.size = hp.objs.size + 1 + 1 := by rw [Heap.size_push, Heap.size_push]
  have lowx : ∀ b o, hp.get? b = some o → b ≠ hp.objs.size + 1 := fun b o e => Nat.ne_of_lt (Nat.lt_succ_of_lt (Heap.lt_size e))
  refine wpAny_call (PySem.HandSPX.call_own F.excBase_LookupError hT hC (PySem.W.looks_findIn I1.kIn iC) (fun self => PySem.W.bind_fn I1.kIn self tI) (by show 1 ≤ sizeLine; rw [sizeLine_eq]; omega)
    (sup_init (s := ⟨(hp.push (PySem.W.kdv_tup [u])).push (PySem.HandSPX.excO C hp.objs.size), g, dr, tk, os⟩) (x := hp.objs.size + 1) (u := u) T I.ok.mod.kin (fun b o e => kk b o (I1.bk b o e)) ?_ gx I.ok.mod.glob ms I.ok.mod.blt I.ok.mod.nolimit ?_ (hb _ _ _) fun h' tk' dx t1 es nn k hx hd hn ne sz ⟨hs, ky, ees⟩ => ⟨rfl, ?_⟩))
  · cases z : X.base.get? (hp.objs.size + 1) with
    | none => rfl
    | some o => exact absurd (lowx _ _ (I1.bk _ _ z)) (fun y => y rfl)
  · have := hr.dp
    rw [make_depth]
    omega
  · obtain ⟨G, g1, g2⟩ := restrict h' fun b => decide (b ≠ hp.objs.size + 1)
    have gk : ∀ b, b ≠ hp.objs.size + 1 → G.get? b = h'.get? b := fun b y => g1 b (decide_eq_true y)
    have ge : G.get? (hp.objs.size + 1) = none := g2 _ (by simp)
    subst ees
    have szd : hp.objs.size ≤ dx := by
      have sz : ((hp.push (PySem.W.kdv_tup [u])).push (PySem.HandSPX.excO C hp.objs.size)).objs.size ≤ dx := sz
      rw [szp] at sz
      exact Nat.le_of_succ_le (Nat.le_of_succ_le sz)
    have hd' : G.get? dx = some (PySem.W.dictOf [⟨hs, .str nm ky, u⟩] nn) := (gk dx ne).trans hd
    have ns : G.Ns1 dx (fun y => if y = nm then some u else none) := by
      refine ⟨_, _, _, hd', rfl, fun e he => ?_, ?_, fun y => ?_⟩
      · rw [show e = ⟨hs, .str nm ky, u⟩ from by simpa using he]
        exact ⟨nm, ky, rfl⟩
      · exact List.pairwise_singleton _ _
      · show nsFind #[⟨hs, .str nm ky, u⟩] y = _
        unfold nsFind findBy
        by_cases q : y = nm
        · subst q
          simp [Value.isStr]
        · simp [Value.isStr, q, Ne.symm q]
    have J : Inv X pins σ (upd H1 dx (.xd [(nm, v)])) ⟨G, g, dr, tk', os⟩ := I1.laid (t' := tk') (a := dx) (o := .xd [(nm, v)]) (h' := G) (fun b o y => (gk b (lowx b o y)).trans (k b o (lowx b o y) (kk b o y))) szd ⟨_, ns, fun f => by
      by_cases y : f = nm
      · subst y
        show RelO (List.lookup f [(f, v)]) (if f = f then some u else none)
        rw [if_pos rfl]
        simp only [List.lookup, beq_self_eq_true]
        exact ru
      · show RelO (List.lookup f [(nm, v)]) (if f = nm then some u else none)
        rw [if_neg y]
        have e : (f == nm) = false := beq_eq_false_iff_ne.mpr y
        simp only [List.lookup, e]
        exact True.intro⟩
    have nax : upd H1 dx (.xd [(nm, v)]) (hp.objs.size + 1) = none := by
      rw [upd_ne (Ne.symm ne)]
      exact I1.hok.fresh (Nat.le_succ _)
    refine ⟨hp.objs.size + 1, _, _, ⟨G, g, dr, tk', os⟩, _, .ref C, some dx, rfl, J, fun b o z => ?_, ge, hx, ⟨rfl, rfl⟩, rfl, rfl, nax, rfl, I1.bare, r, q1 dx (I1.hok.fresh szd)⟩
    by_cases y : b = hp.objs.size + 1
    · rw [y, ge] at z; cases z
    · exact (gk b y).symm.trans z
end
end FE
end
section
set_option Elab.async false
set_option linter.all false
set_option maxRecDepth 100000
/-! FeSup3: raise C(e) in the evaluator. -/
namespace FE
open PySem PySem.Spec PyProof.Rows L2
/-- an own error class right over LookupError: super().__init__(v); self.nm = v -/
structure ExS (PM : Program) (K : PySem.W.Frag) (mg : Str → Option Value) (G : GM) (x nm : Str) (c : Nat) (C : Addr) : Prop extends ExK K mg G x c C where
  xf : G.xf c = [c]
  xg : G.fld c = nm
  xc : XfC K C
  xn : PySem.W.findIn K (.ref C) nm = some none
  ms : mg "super" = none
  made : ∃ fI cc cda fd sf pl, SupK PM K C fI cc cda fd sf pl nm ∧ PySem.W.findIn K (.ref C) "__init__" = some (some (.ref fI)) ∧ PySem.W.typeIn K (.ref fI) = some (.type "function") ∧ ∀ (s : Shared) (y u : Value), BindsTo s fd ⟨[y, u], []⟩ [(sf, y), (pl, u)]
section
variable {X : Cx} {G : GM} {Z : ZF X.K} {x nm : Str} {c n : Nat} {C : Addr} {p pos pos2 : Pos} {e : Expr} {sa : Sem}
theorem es_raiseS (E : ExS X.prog X.K X.mg G x nm c C) (hr : Room n X.A) (tk : Takes X (fun cl dc _ H => Z.e cl dc H)) (ha : PA X [e] (EvA G X.K Z (aOne sa aNil))) (hc : X.calm = true := by rfl) (hg : Gl X x := by rfl) (hd : (x == ("__debug__" : Str)) = false := by decide)
    (he : starEach [e] X.env = (false, eval e X.env) :: starEach [] X.env := by rfl) (hpl : (backTo pos (starEach [] X.env)).any (·.1) = false := by rfl) :
    PS X (.Raise (some (.Call (.Name x p) [e] [] pos)) none pos2) (EvS G X.K Z (sRaise c (aOne sa aNil))) := by
  obtain ⟨fI, cc, cda, fd, sf, pl, T, iC, tI, hb⟩ := E.made
  refine (ps_raise hc tk (pmk_sup T (raises_own E.ex E.ty) E.kp iC tI E.at_ E.ms hg hr hb ha hd he hpl)).imp fun D σ H ⟨ρ, e, h, k, n, run, w⟩ => ?_
  have run : sa e h k.ex (fun v h => k.ex c [v] h) = true := run
  refine EvA.then (k := fun ws h => match ws with | [y] => k.ex c [y] h | _ => false) n run w.ex fun ws h1 vs H1 ρ1 t1 n1 r1 run1 _ => ?_
  split at run1
  · next y =>
    cases r1 with
    | @cons _ v0 _ _ ra r1 =>
      cases r1
      refine ⟨_, rfl, fun dx hn => ?_⟩
      have t2 : Ext X.K ρ1 H1 ρ1 (upd H1 dx (.xd [(nm, v0)])) := ext_new hn (fun _ _ z => z) fun _ _ z => .inl z
      refine w.ex.to c [y] h1 (.ref C) (some dx) _ ρ1 run1 (t1.trans t2) (n1.rh.unseen (fun m z => n1.rh.live m dx z hn) (.none hn)) ⟨C, E.gc, rfl, .inr ⟨dx, [v0], rfl, ?_, fun m z => n1.rh.live m dx z hn, by rw [E.xf]; rfl, (RWs.cons ra .nil).mono t2⟩⟩
      rw [upd_same, E.xf]
      show _ = some (HO.xd [(G.fld c, v0)])
      rw [E.xg]
  · cases run1
end
end FE
end
section
set_option Elab.async false
set_option linter.all false
set_option maxRecDepth 100000
/-! FeLock: a statement that walks a dict's items; the dict is locked while it runs. -/
namespace FE
open PySem PySem.Spec PyProof.Rows L2
open PySem.SeqAt
section
variable {G : GM} {K : PySem.W.Frag} {ρ ρ' : Rho} {H H' : Hp} {h h' : FE.H} {e : FE.Env} {σ : L2.St} {n : Nat} {d a : Addr} {od : Obj} {ks : List (Key × V)} {k : FE.H → B}
theorem ObjR.stayT {w : O} {o : HO} (r : ObjR G K ρ H a w) (e : ExtT K ρ H ρ' (upd H d o)) (n : a ≠ d) : ObjR G K ρ' (upd H d o) a w := by
  cases w with
  | lst ws => obtain ⟨xs, q, t⟩ := r; exact ⟨xs, by rw [upd_ne n]; exact q, t.monoT e⟩
  | dct kvs => obtain ⟨xs, q, t⟩ := r; exact ⟨xs, by rw [upd_ne n]; exact q, t.monoT e⟩
  | ins c fs => obtain ⟨C, dx, vs, q0, q, t⟩ := r; exact ⟨C, dx, vs, q0, by rw [upd_ne n]; exact q, t.monoT e⟩
  | exc c fs => exact r
  | urn t => obtain ⟨u, v, c, q, b⟩ := r; exact ⟨u, v, c, by rw [upd_ne n]; exact q, b⟩
  | cells => obtain ⟨q0, xs, q, b⟩ := r; exact ⟨by rw [upd_ne n]; exact q0, xs, sqL_upd q n, b⟩
  | lck kvs => obtain ⟨ob, ks, q, t⟩ := r; exact ⟨ob, ks, by rw [upd_ne n]; exact q, t.monoT e⟩
theorem RE.monoT (x : RE G K ρ H e σ) (t : ExtT K ρ H ρ' H') : RE G K ρ' H' e σ := ⟨x.len, fun i w q => let ⟨v, a, b⟩ := x.val i w q; ⟨v, a, b.monoT t⟩⟩
theorem no_tupF (f : H d = some (.frz od (.dK ks))) : ∀ u, Rd H d (.tup u) → False := fun u z => by
  rcases z with z | ⟨ob, z⟩ <;> rw [f] at z <;> cases z
theorem unlkK_inv (run : unlkK n h k = true) : ∃ kvs, h.get n = some (.lck kvs) ∧ k (h.put n (.dct kvs)) = true := by
  unfold unlkK at run
  split at run
  · next kvs g => exact ⟨kvs, g, run⟩
  · cases run
theorem pt_off {o : HO} {a : Addr} {xs : List V} (f : H d = some (.frz od (.dK ks))) (z : PTu H a xs) : PTu (upd H d o) a xs := by
  obtain ⟨ob, dn, e⟩ := z
  exact ⟨ob, dn, by rw [upd_ne ((fun y => by rw [y, f] at e; exact nomatch e) : a ≠ d)]; exact e⟩
theorem unlock_rh (R : RH G K ρ h H) (q : ρ n = some d) (f : H d = some (.frz od (.dK ks))) (run : unlkK n h k = true) :
    ∃ h2, k h2 = true ∧ RH G K ρ h2 (upd H d (.dK ks)) ∧ ExtT K ρ H ρ (upd H d (.dK ks)) := by
  obtain ⟨kvs, g, run⟩ := unlkK_inv run
  obtain ⟨b, q', ob, ks', f', rk⟩ := R.obj n _ g
  rw [q] at q'; cases q'
  rw [f] at f'; cases f'
  have et : ExtT K ρ H ρ (upd H d (.dK ks)) := ⟨fun _ _ z => z, fun a xs z => sqT_upd z (no_tupF f), fun a xs z => pt_off f z⟩
  have hm : n < MOST := by
    rcases Nat.lt_or_ge n h.n with z | z
    · exact Nat.lt_of_lt_of_le z R.most
    · rw [(R.top n z).1] at q; cases q
  have hsz : (h.put n (.dct kvs)).n = h.n := by obtain ⟨m, t⟩ := h; rfl
  refine ⟨_, run, ⟨fun m w' e => ?_, R.inj, fun m z => ?_, ?_, fun m a e => ?_⟩, et⟩
  · rw [FE.H.get_put hm] at e
    by_cases z : m = n
    · rw [if_pos z] at e
      cases e
      exact ⟨d, by rw [z]; exact q, ks, upd_same, rk.monoT et⟩
    · rw [if_neg z] at e
      obtain ⟨a, q', t⟩ := R.obj m w' e
      refine ⟨a, q', t.stayT et fun y => z ?_⟩
      subst y
      exact R.inj _ _ _ q' q
  · rw [hsz] at z
    refine ⟨(R.top m z).1, ?_⟩
    rw [FE.H.get_put hm, if_neg]
    · exact (R.top m z).2
    · rintro rfl
      rw [(R.top _ z).1] at q; cases q
  · rw [hsz]; exact R.most
  · exact upd_there a (R.live m a e)
theorem lock_ext (t : Ext K ρ (upd H d (.frz od (.dK ks))) ρ' H') (e0 : H d = some (.dK ks)) (q : ρ n = some d) (f : H' d = some (.frz od (.dK ks))) : Ext K ρ H ρ' (upd H' d (.dK ks)) := by
  have nf : NF H d := no_tup e0 (fun _ z => nomatch z) fun _ _ z => nomatch z
  have back : ∀ a, upd H d (.frz od (.dK ks)) a = none → H a = none := fun a z => by
    by_cases y : a = d
    · rw [y, upd_same] at z; cases z
    · rw [upd_ne y] at z; exact z
  refine ⟨⟨⟨t.map, fun a xs z => sqT_upd (t.tup a xs (sqT_upd z nf.tup)) (no_tupF f), fun a xs z => pt_off f (t.pt a xs (pt_upd z nf))⟩, fun a ob u z => ?_⟩, fun n a z => (t.new n a z).imp id (back a), fun a z => upd_there a (t.there a (upd_there a z)), fun a z u => ?_⟩
  · have ad : a ≠ d := fun y => nf.frz ob u (by rw [← y]; exact z)
    rw [upd_ne ad]
    exact t.frz a ob u (nf.stay z)
  · have ad : a ≠ d := fun y => u n (by rw [y]; exact q)
    rw [upd_ne ad, t.keep a (upd_there a z) u, upd_ne ad]
theorem lockK_inv {w : FE.W} {k : Nat → FE.H → B} (run : lockK w h k = true) : ∃ m kvs, w = .ob m ∧ h.get m = some (.dct kvs) ∧ k m (h.put m (.lck kvs)) = true := by
  cases w with
  | ob m =>
    have run : (match h.get m with | some (.dct kvs) => k m (h.put m (.lck kvs)) | _ => stop 240) = true := run
    split at run
    · next kvs g => exact ⟨m, kvs, rfl, g, run⟩
    · cases run
  | non => cases run
  | bl c => cases run
  | int c => cases run
  | str c => cases run
  | tup c => cases run
  | cls c => cases run
  | fn c => cases run
end
section
variable {X : Cx} {G : GM} {Z : ZF X.K} {st : Stmt} {i : Nat} {s : Stm}
theorem es_lock (h : PS X st (EvS G X.K (NoZ X.K) s)) : PS X st (EvS G X.K Z (sLock i s)) :=
  (ps_lock h).imp fun D σ H ⟨ρ, e, h, k, n, run, w⟩ => by
    have run : opt 240 (eget e i) (fun w => lockK w h fun n h => s e h (fun σ h => unlkK n h fun h => k.nx σ h) (fun w h => unlkK n h fun h => k.rt w h) (fun σ h => unlkK n h fun h => k.bk σ h) (fun σ h => unlkK n h fun h => k.ct σ h) noX) = true := run
    obtain ⟨w0, e1, run⟩ := opt_inv run
    obtain ⟨m, kvs, rfl, g, run⟩ := lockK_inv run
    obtain ⟨v, _, rv⟩ := n.re.val i _ e1
    obtain ⟨d, q, ks, eH, rk⟩ := n.rh.obj m _ g
    refine ⟨d, .dK ks, eH, trivial, fun od => ?_⟩
    obtain ⟨exL, RL⟩ := n.rh.put (o := .frz od (.dK ks)) (w := .lck kvs) g q (no_tup eH (fun _ z => nomatch z) fun _ _ z => nomatch z) (fun ex => ⟨od, ks, upd_same, rk.mono ex⟩)
    have fe : ∀ {kk : KE} {P : L2.St → Hp → Prop}, FinE G X.K ρ H kk P → FinE G X.K ρ (upd H d (.frz od (.dK ks))) (fun σ h => unlkK m h fun h => kk σ h) (fun σ' H' => H' d = some (.frz od (.dK ks)) ∧ P σ' (upd H' d (.dK ks))) := fun {kk P} f e' h' σ' H' ρ' r t n' => by
      have f' : H' d = some (.frz od (.dK ks)) := t.frz d od _ upd_same
      obtain ⟨h2, r2, R2, eT⟩ := unlock_rh n'.rh (t.map _ _ q) f' r
      exact ⟨f', f e' h2 σ' _ ρ' r2 (lock_ext t eH q f') ⟨R2, n'.re.monoT eT⟩⟩
    refine ⟨ρ, e, h.put m (.lck kvs), ⟨fun σ h => unlkK m h fun h => k.nx σ h, fun w h => unlkK m h fun h => k.rt w h, fun σ h => unlkK m h fun h => k.bk σ h, fun σ h => unlkK m h fun h => k.ct σ h, noX⟩, n.on exL RL, run, fe w.nx, fun w' h' v H' ρ' r t R rv => ?_, fe w.bk, fe w.ct, nox _ _⟩
    have f' : H' d = some (.frz od (.dK ks)) := t.frz d od _ upd_same
    obtain ⟨h2, r2, R2, eT⟩ := unlock_rh R (t.map _ _ q) f' r
    exact ⟨f', w.rt w' h2 v _ ρ' r2 (lock_ext t eH q f') R2 (rv.monoT eT)⟩
theorem dctK_inv {x : FE.W} {h : FE.H} {k : Nat → B} (run : dctK x h k = true) : ∃ m kvs, x = .ob m ∧ h.get m = some (.lck kvs) ∧ k m = true := by
  cases x with
  | ob m =>
    have run : (match h.get m with | some (.lck _) => k m | _ => stop 56) = true := run
    split at run
    · next kvs g => exact ⟨m, kvs, rfl, g, run⟩
    · cases run
  | non => cases run
  | bl c => cases run
  | int c => cases run
  | str c => cases run
  | tup c => cases run
  | cls c => cases run
  | fn c => cases run
/-- for .. in d.items(), d locked -/
theorem ei_itL {a : Expr} {sa : Sem} {elts : List Expr} {kk : Nat} {tpos apos cpos : Pos} (ha : PE X a (EvE G X.K Z sa)) (hbase : attributeBase a "items" X.env (eval a X.env) = eval a X.env := by rfl) (hline : (apos.endLine == cpos.line) = true := by rfl) :
    PI X (.Tuple elts kk tpos) (.Call (.Attribute a "items" apos) [] [] cpos) (EvI G X.K Z (FE.iItems sa)) :=
  (pi_items ha hbase hline).imp fun σ H Q ⟨ρ, e, h, kx, k, n, run, fin, fx⟩ => by
    have run : sa e h kx (fun w h => dctK w h fun n => k (.items n 0) h) = true := run
    refine EvE.then n run fx fun x h1 v H1 ρ1 t1 n1 r1 run1 fx1 => ?_
    obtain ⟨m, kvs, rfl, g, run1⟩ := dctK_inv run1
    obtain ⟨d, rfl, q⟩ := rw_ob r1
    obtain ⟨d', q', ob, ks, f, _⟩ := n1.rh.obj m _ g
    rw [q] at q'; cases q'
    exact ⟨d, ob, ks, rfl, f, fin _ h1 _ H1 ρ1 run1 t1 n1.rh ⟨d, ob, ks, rfl, q, f, rfl⟩⟩
/-- in such a statement nothing is let out -/
theorem tkNo {Y : Cx} : Takes Y (fun cl dc _ H => (NoZ Y.K).e cl dc H) := fun u s2 ⟨a, B, sI, pins, σ, H, cl, dc, e, I, nb, up, sky, na, os, ag, w⟩ => w.elim
end
end FE
end
section
set_option Elab.async false
set_option linter.all false
set_option maxRecDepth 100000
/-! FeDct: dicts: d.get(k, x), d[k] = v, {}, sorted(d); abs(i). -/
namespace FE
open PySem PySem.Spec PyProof.Rows L2
open PySem.SeqAt
section
variable {X : Cx} {G : GM} {Z : ZF X.K} {a b c o e f : Expr} {pos p apos cpos : Pos} {sa sb sc so : Sem}
theorem dctHere_inv {w : FE.W} {h : FE.H} {r : B} (run : dctHere w h r = true) : ∃ m kvs, w = .ob m ∧ h.get m = some (.dct kvs) ∧ r = true := by
  cases w with
  | ob m =>
    have run : (match h.get m with | some (.dct _) => r | _ => stop 131) = true := run
    split at run
    · next kvs g => exact ⟨m, kvs, rfl, g, run⟩
    · cases run
  | non => cases run
  | bl c => cases run
  | int c => cases run
  | str c => cases run
  | tup c => cases run
  | cls c => cases run
  | fn c => cases run
theorem ev_get2 (hu : X.A.units + 64 < cLine) (ho : PE X o (EvE G X.K Z so)) (he : PE X e (EvE G X.K Z sa)) (hf : PE X f (EvE G X.K Z sb)) (m : M2 X o "get" apos e f cpos := by exact ⟨rfl, rfl, rfl, rfl⟩) :
    PE X (.Call (.Attribute o "get" apos) [e, f] [] cpos) (EvE G X.K Z (cDm .get so (aOne sa (aOne sb aNil)))) :=
  (pe_dget2 (by omega) ho he hf m).imp fun σ H Q ⟨ρ, en, h, kx, k, n, run, fin, fx⟩ => by
    have run : so en h kx (fun x h => dctHere x h (sa en h kx fun y h => sb en h kx fun z h => dmW .get x [y, z] h k)) = true := run
    refine EvE.then n run fx fun x h1 v1 H1 ρ1 t1 n1 r1 run1 fx1 => ?_
    obtain ⟨m, kvs, rfl, g, run1⟩ := dctHere_inv run1
    obtain ⟨d, rfl, q⟩ := rw_ob r1
    obtain ⟨ks, ed, _⟩ := dct_at n1.rh g q
    refine ⟨d, rfl, .inl ⟨ks, .inl ed⟩, ?_⟩
    refine EvE.then n1 run1 fx1 fun y h2 v2 H2 ρ2 t2 n2 r2 run2 fx2 => ?_
    refine EvE.then n2 run2 fx2 fun z h3 v3 H3 ρ3 t3 n3 r3 run3 fx3 => ?_
    have run3 : (match h3.get m with | some (.dct xs) => bmDct .get m xs [y, z] h3 k | _ => stop 131) = true := run3
    split at run3
    · next xs g3 =>
      have run3 : opt 123 (dgetH h3 y xs) (fun r => k (r.getD z) h3) = true := run3
      obtain ⟨r, er, run3⟩ := opt_inv run3
      have q3 : ρ3 m = some d := (t2.trans t3).map _ _ q
      rcases dgetH_ok n3.rh g3 q3 (r2.mono t3) er with ⟨rfl, g1⟩ | ⟨w, v, rfl, g1, g2⟩
      · exact ⟨none, g1, fin z h3 _ H3 ρ3 run3 ((t1.trans t2).trans t3) n3.rh r3⟩
      · exact ⟨some v, g1, fin w h3 v H3 ρ3 run3 ((t1.trans t2).trans t3) n3.rh g2⟩
    · cases run3
/-- {} -/
theorem ev_dnew : PE X (.Dict [] [] pos) (EvE G X.K Z (cDd dNil)) :=
  pe_dnewK.imp fun σ H Q ⟨ρ, en, h, kx, k, n, run, fin, fx⟩ => by
    have run : newK h (.dct []) k = true := run
    exact fun p hp => new_fin n.rh hp run fin fun ρ' ex => ⟨[], upd_same, .nil⟩
theorem pset_or {t1 t2 : TSet} (h1 : PSet X t1) (h2 : PSet X t2) : PSet X (fun o i v H Q => t1 o i v H Q ∨ t2 o i v H Q) := by
  intro pins s σ H o i v ov iv u Q I ro ri rv q
  rcases q with q | q
  · exact h1 pins s σ H o i v ov iv u Q I ro ri rv q
  · exact h2 pins s σ H o i v ov iv u Q I ro ri rv q
theorem setA_inv {o i w : FE.W} {h : FE.H} {k : FE.H → B} (run : setA o i w h k = true) : setD o i w h k = true ∨ setL o i w h k = true := by
  unfold setA at run
  split at run
  · exact .inl run
  · exact .inr run
theorem setD_inv {o i w : FE.W} {h : FE.H} {k : FE.H → B} (run : setD o i w h k = true) : ∃ m kvs l, o = .ob m ∧ h.get m = some (.dct kvs) ∧ kvs.length < sizeLine ∧ dputH h i w kvs = some l ∧ k (h.put m (.dct l)) = true := by
  cases o with
  | ob m =>
    have run : (match h.get m with | some (.dct kvs) => (match Nat.blt kvs.length LINE with | true => opt 65 (dputH h i w kvs) (fun l => k (h.put m (.dct l))) | false => stop 67) | _ => stop 67) = true := run
    split at run
    · next kvs g =>
      split at run
      · next lt =>
        obtain ⟨l, e, run⟩ := opt_inv run
        exact ⟨m, kvs, l, rfl, g, Nat.blt_eq.mp lt, e, run⟩
      · cases run
    · cases run
  | non => cases run
  | bl c => cases run
  | int c => cases run
  | str c => cases run
  | tup c => cases run
  | cls c => cases run
  | fn c => cases run
theorem eg_sub (hu : X.A.units + 64 < cLine) (ho : PE X o (EvE G X.K Z so)) (hi : PE X b (EvE G X.K Z sb)) (hA : ∀ v0, assign (.Subscript o b pos) X.env v0 = (do let x0 ← holding [v0] (eval o X.env); let i0 ← holding [v0, x0] (eval b X.env); standAt pos; holding [v0, x0, i0] (setItem x0 i0 v0); release [v0, x0, i0] []) := by intro _; rfl) : PG X (.Subscript o b pos) (EvG G X.K Z (FE.gSub so sb)) :=
  (pg_sub ho hi (pset_or set_list (set_dict (by omega))) hA).imp fun v σ H Q ⟨ρ, en, h, w, kx, k, n, r, run, fin, fx⟩ => by
    have run : so en h kx (fun o h => sb en h kx fun j h => setA o j w h fun h => k en h) = true := run
    refine EvE.then n run fx fun x h1 v1 H1 ρ1 t1 n1 r1 run1 fx1 => ?_
    refine EvE.then n1 run1 fx1 fun y h2 v2 H2 ρ2 t2 n2 r2 run2 fx2 => ?_
    rcases setA_inv run2 with run2 | run2
    · obtain ⟨m, kvs, l, rfl, g, lt, e, run3⟩ := setD_inv run2
      obtain ⟨d, rfl, q⟩ := rw_ob (r1.mono t2)
      obtain ⟨ks, ed, rk⟩ := dct_at n2.rh g q
      obtain ⟨kk, rfl, rl⟩ := dputH_ok (X := X) r2 ((r.mono t1).mono t2) rk e
      have len := Ks.length rk
      obtain ⟨ex, R'⟩ := n2.rh.put (o := .dK (L2.putK ks kk v)) (w := .dct l) g q (no_tup ed (fun _ z => nomatch z) fun _ _ z => nomatch z) (fun ex => ⟨_, upd_same, rl.mono ex⟩)
      exact .inr ⟨d, _, rfl, DPut.k ed (by rw [← len]; exact lt), fin en _ σ _ ρ2 run3 ((t1.trans t2).trans ex) (n2.on ex R')⟩
    · obtain ⟨m, xs, j, q, rfl, g, rfl, ei, run3⟩ := setL_inv run2
      obtain ⟨l, rfl, qa⟩ := rw_ob (r1.mono t2)
      cases rw_int r2
      obtain ⟨vs, ea, rs⟩ := lst_at n2.rh g qa
      rw [rs.length] at ei
      obtain ⟨ex, R'⟩ := n2.rh.put_lst g qa ea (rs.set q ((r.mono t1).mono t2))
      exact .inl ⟨l, vs, j, q, rfl, rfl, ea, (ix_ok ei).1, fin en _ σ _ ρ2 run3 ((t1.trans t2).trans ex) (n2.on ex R')⟩
/-- abs(i) -/
theorem ev_abs (hg : Gl X "abs") (hm : X.mg "abs" = none) (ha : PE X a (EvE G X.K Z sa)) (hs : starEach (a :: []) X.env = (false, eval a X.env) :: starEach [] X.env := by rfl) : PE X (.Call (.Name "abs" p) [a] [] pos) (EvE G X.K Z (cB1 .abs sa)) :=
  (pe_callB call_abs hg hm (by rfl) (pa_1 ha hs) (by decide) (by decide) hs).imp fun σ H Q ⟨ρ, en, h, kx, k, n, run, fin, fx⟩ => by
    have run : sa en h kx (fun w h => b1W .abs w h k) = true := run
    refine EvE.then n run fx fun x h1 v H1 ρ1 t1 n1 r1 run1 _ => ?_
    cases r1 with
    | int i =>
      have e : (if i < 0 then -i else i) = (i.natAbs : Int) := by split <;> omega
      refine ⟨i, rfl, ?_⟩
      rw [e]
      exact fin _ h1 _ H1 ρ1 run1 t1 n1.rh (.int _)
    | _ => cases run1
/-! ### sorted(x), x a list or a dict -/
theorem perm_uniq : ∀ {l m : List Int}, l.Perm m → l.Pairwise (· ≤ ·) → m.Pairwise (· ≤ ·) → l = m
  | [], m, p, _, _ => p.nil_eq
  | i :: l, [], p, _, _ => absurd p.symm.nil_eq (by simp)
  | i :: l, j :: m, p, h1, h2 => by
    obtain ⟨a1, a2⟩ := List.pairwise_cons.mp h1
    obtain ⟨b1, b2⟩ := List.pairwise_cons.mp h2
    have e : i = j := by
      rcases List.mem_cons.mp (p.mem_iff.mp List.mem_cons_self) with z | z
      · exact z
      · rcases List.mem_cons.mp (p.mem_iff.mpr List.mem_cons_self) with y | y
        · exact y.symm
        · have := b1 i z; have := a1 j y; omega
    subst e
    rw [perm_uniq p.cons_inv a2 b2]
theorem insD_perm (i : Int) : ∀ l : List Int, (insD i l).Perm (i :: l)
  | [] => .refl _
  | j :: r => by
    unfold insD
    split
    · exact ((insD_perm i r).cons j).trans (List.Perm.swap i j r)
    · exact .refl _
theorem insD_up (i : Int) : ∀ l : List Int, l.Pairwise (· ≤ ·) → (insD i l).Pairwise (· ≤ ·)
  | [], _ => List.pairwise_singleton _ _
  | j :: r, h => by
    obtain ⟨h1, h2⟩ := List.pairwise_cons.mp h
    unfold insD
    split
    · next e =>
      rw [ltZ_eq] at e
      have e : j < i := of_decide_eq_true e
      refine List.pairwise_cons.mpr ⟨fun k hk => ?_, insD_up i r h2⟩
      rcases List.mem_cons.mp ((insD_perm i r).mem_iff.mp hk) with z | z
      · omega
      · exact h1 k z
    · next e =>
      rw [ltZ_eq] at e
      have e : ¬ j < i := of_decide_eq_false e
      refine List.pairwise_cons.mpr ⟨fun k hk => ?_, h⟩
      rcases List.mem_cons.mp hk with z | z
      · omega
      · have := h1 k z; omega
theorem srtD_perm : ∀ l : List Int, (srtD l).Perm l
  | [] => .refl _
  | i :: r => (insD_perm i _).trans ((srtD_perm r).cons i)
theorem srtD_up : ∀ l : List Int, (srtD l).Pairwise (· ≤ ·)
  | [] => List.Pairwise.nil
  | i :: r => insD_up i _ (srtD_up r)
theorem keysI_ok {ρ : Rho} {H : Hp} : ∀ {kvs : List (FE.W × FE.W)} {ks : List (Key × V)} {l : List Int}, Ks G X.K ρ H kvs ks → keysI kvs = some l → ks.map (·.1) = l.map Sum.inl ∧ ks.length = l.length
  | _, _, l, .nil, e => by cases e; exact ⟨rfl, rfl⟩
  | _, _, l, .cons (ks := kvs) kr rv rs, e => by
    unfold keysI at e
    cases kr with
    | int i =>
      have e : (match keysI kvs with | some l => some (i :: l) | none => none) = some l := e
      split at e
      · next l2 e2 =>
        cases e
        obtain ⟨a1, a2⟩ := keysI_ok rs e2
        exact ⟨by rw [List.map_cons, List.map_cons, a1], by rw [List.length_cons, List.length_cons, a2]⟩
      · cases e
    | str cs => cases e
theorem srtW_inv {w : FE.W} {h : FE.H} {k : KW} (run : srtW w h k = true) : ∃ m, w = .ob m ∧ ((∃ xs ys, h.get m = some (.lst xs) ∧ sortL (ltW h DEEP) xs = some ys ∧ newK h (.lst ys) k = true) ∨
    ∃ kvs l, h.get m = some (.dct kvs) ∧ keysI kvs = some l ∧ l.length < 64 ∧ newK h (.lst (intsL (srtD l))) k = true) := by
  cases w with
  | ob m =>
    have run : (match h.get m with
      | some (.lst xs) => opt 93 (sortL (ltW h DEEP) xs) (fun ys => newK h (.lst ys) k)
      | some (.dct kvs) => opt 93 (keysI kvs) (fun l => match few l with | true => newK h (.lst (intsL (srtD l))) k | false => stop 93)
      | _ => stop 93) = true := run
    refine ⟨m, rfl, ?_⟩
    split at run
    · next xs g => obtain ⟨ys, e, run⟩ := opt_inv run; exact .inl ⟨xs, ys, g, e, run⟩
    · next kvs g =>
      obtain ⟨l, e, run⟩ := opt_inv run
      have run : (match few l with | true => newK h (.lst (intsL (srtD l))) k | false => stop 93) = true := run
      split at run
      · next f => exact .inr ⟨kvs, l, g, e, Nat.blt_eq.mp f, run⟩
      · cases run
    · cases run
  | non => cases run
  | bl c => cases run
  | int c => cases run
  | str c => cases run
  | tup c => cases run
  | cls c => cases run
  | fn c => cases run
theorem ev_srt (hc : X.calm = true) (hu : X.A.units + 64 < cLine) (hg : Gl X "sorted") (hm : X.mg "sorted" = none) (ha : PE X a (EvE G X.K Z sa)) (hs : starEach (a :: []) X.env = (false, eval a X.env) :: starEach [] X.env := by rfl) : PE X (.Call (.Name "sorted" p) [a] [] pos) (EvE G X.K Z (cSrt sa)) :=
  (pe_callB (callR_or (call_sorted_ (G := G) hu) (call_sortedDI hc)) hg hm (by rfl) (pa_1 ha hs) (by decide) (by decide) hs).imp fun σ H Q ⟨ρ, en, h, kx, k, n, run, fin, fx⟩ => by
    have run : sa en h kx (fun w h => srtW w h k) = true := run
    refine EvE.then n run fx fun x h1 v H1 ρ1 t1 n1 r1 run1 _ => ?_
    obtain ⟨m, rfl, z⟩ := srtW_inv run1
    obtain ⟨d, rfl, q⟩ := rw_ob r1
    rcases z with ⟨xs, ys, g, e, run2⟩ | ⟨kvs, l, g, e, few, run2⟩
    · obtain ⟨vs, ea, rs⟩ := lst_at n1.rh g q
      exact .inl ⟨d, vs, ρ1, h1, xs, ys, rfl, .of ea, n1.rh, rs, e, fun p zs' hn r1 => new_lst n1.rh hn r1 run2 (fin.mono t1)⟩
    · obtain ⟨ks, ed, rk⟩ := dct_at n1.rh g q
      obtain ⟨k1, k2⟩ := keysI_ok rk e
      refine .inr ⟨d, ks, l, rfl, .inl ed, k1, few, fun ys p pm up hn => ?_⟩
      have ey : ys = srtD l := perm_uniq (pm.trans (srtD_perm l).symm) up (srtD_up l)
      subst ey
      exact new_lst n1.rh hn (rws_ints _) run2 (fin.mono t1)
end
end FE
end
section
set_option Elab.async false
set_option linter.all false
set_option maxRecDepth 100000
/-! FeDct2: dict(..) of a list or a tuple of pairs, list(d.values()), len(set(..)). -/
namespace FE
open PySem PySem.Spec PyProof.Rows L2
section
variable {X : Cx} {pins : List (Addr × Obj)} {σ : L2.St} {H : Hp} {s : Shared}
theorem pairs_raw (I : Inv X pins σ H s) : ∀ {ps : List Addr} {kvs : List (Key × V)}, Paired (fun p kv => SqT X.K H p [kV kv.1, kv.2]) ps kvs →
    ∃ (prs : List (Key × Value)) (rs : List (Value × Value)), KV kvs prs ∧ prs.length = ps.length ∧ rs.length = ps.length ∧ ∀ (j : Nat) (u v : Value), rs[j]? = some (u, v) → ∃ (b : Addr) (k : Key), ps[j]? = some b ∧ IsTup s.heap b #[u, v] ∧ prs[j]? = some (k, v) ∧ keyIs k u = true
  | _, _, .nil => ⟨[], [], .nil, rfl, rfl, fun j u v e => by simp at e⟩
  | _, _, .cons (a := p) (b := kv) h t => by
    obtain ⟨prs, rs, r, hl, hl2, hp⟩ := pairs_raw I t
    obtain ⟨its, rv, ht, _⟩ := I.tuple h
    obtain ⟨u, y, ei, ru, ry⟩ := vals2 rv
    subst ei
    refine ⟨(kv.1, y) :: prs, (u, y) :: rs, .cons ⟨rfl, ry⟩ r, by rw [List.length_cons, List.length_cons, hl], by rw [List.length_cons, List.length_cons, hl2], fun j u' v' e => ?_⟩
    cases j with
    | zero =>
      have e' : (u, y) = (u', v') := Option.some.inj e
      cases e'
      exact ⟨p, kv.1, rfl, ht, rfl, kV_is (P := X.prog) (w := X.w) ru⟩
    | succ j =>
      obtain ⟨b, k, e1, e2, e3, e4⟩ := hp j u' v' (by simpa using e)
      exact ⟨b, k, by simpa using e1, e2, by simpa using e3, e4⟩
/-- dict(t), t a tuple of pairs -/
theorem call_dictT (hcalm : X.calm = true) : CallR X (.type "dict") (fun xs H Q => ∃ (a : Addr) (ps : List Addr) (kvs : List (Key × V)), xs = [.ref a] ∧ PTu H a (ps.map V.ref) ∧ Paired (fun p kv => SqT X.K H p [kV kv.1, kv.2]) ps kvs ∧
    ∀ p, H p = none → Q (.ref p) (upd H p (.dK (mergeK [] kvs)))) := by
  intro pins s σ H xs us Q I r q
  obtain ⟨a, ps, kvs, ex, ⟨ob, dn, eh⟩, hp, q⟩ := q
  subst ex
  obtain ⟨u, eu, rx⟩ := vals1 r
  subst eu
  cases rx
  obtain ⟨e1, hz, its, rv, o, e2, hc, n, hd⟩ := (show ObjOk X.prog X.w H s.heap a (.frz ob (.tup (ps.map V.ref))) from I.hok a _ eh)
  rw [e1] at e2
  cases e2
  have ei := refs_at rv
  subst ei
  rw [List.length_map] at hz
  obtain ⟨prs, rs, rel, hl, hl2, hpr⟩ := pairs_raw I hp
  have items : PairItems s.heap (ps.map Value.ref).toArray (fun j => (ps[j]?).getD 0) rs := ⟨by simp [hl2], fun j k v e => by
    obtain ⟨b, kk, f1, f2, _⟩ := hpr j k v e
    refine ⟨by simp [f1], ?_⟩
    show PairAt s.heap ((ps[j]?).getD 0) k v
    rw [f1]
    obtain ⟨o2, g1, g2, n2, g3⟩ := f2
    exact .inl ⟨o2, g1, g2, n2, g3⟩⟩
  refine PySem.call_dict_pairs (knd := mixKind X.prog X.w) (kvs := prs) (PairArg.tuple a (ps.map Value.ref).toArray (fun j => (ps[j]?).getD 0) rs) (I.ok.hd hcalm) ⟨⟨ob, n, e1, hc, dn, hd⟩, items⟩ ⟨by rw [hl, hl2], fun i key v e => ?_⟩ (by rw [hl2]; exact hz) fun h' tk hd' k => ?_
  · obtain ⟨b, kk, _, _, f3, f4⟩ := hpr i key v e
    exact ⟨kk, f3, f4⟩
  · have hm : (s.heap.objs.size == sysModules) = false := beq_eq_false_iff_ne.mpr (Nat.ne_of_gt I.big)
    have hlen : (mergeK [] kvs).length ≤ sizeLine := by
      refine Nat.le_trans (length_mergeK kvs []) ?_
      rw [List.length_nil, Nat.zero_add, rel.length, hl]
      exact hz
    exact ⟨.ref s.heap.objs.size, upd H s.heap.objs.size (.dK (mergeK [] kvs)), I.laid (t' := tk) (fun b o e => k b o (fun z => nomatch z) e) (Nat.le_refl _) (show ObjOk X.prog X.w _ _ _ (.dK (mergeK [] kvs)) from ⟨hlen, hm, merged [] prs, KV.merge rel .nil, hd'⟩), rfl, q _ (I.hok.fresh (Nat.le_refl _))⟩
end
section
variable {X : Cx} {G : GM} {Z : ZF X.K} {a b : Expr} {sa sb : Sem} {sl : Slt} {p p2 q pos : Pos}
theorem keyed_of : ∀ {ws : List FE.W} {ps : List (FE.W × FE.W)}, pairsOf ws = some ps → keyed ws = true
  | [], _, _ => rfl
  | .tup [x, y] :: ws, ps, e => by
    have e : (match pairsOf ws with | some l => some ((x, y) :: l) | none => none) = some ps := e
    split at e
    · next l e2 => exact keyed_of (ws := ws) e2
    · cases e
  | .tup [] :: _, _, e => by cases e
  | .tup [_] :: _, _, e => by cases e
  | .tup (_ :: _ :: _ :: _) :: _, _, e => by cases e
  | .non :: _, _, e => by cases e
  | .bl _ :: _, _, e => by cases e
  | .int _ :: _, _, e => by cases e
  | .str _ :: _, _, e => by cases e
  | .ob _ :: _, _, e => by cases e
  | .cls _ :: _, _, e => by cases e
  | .fn _ :: _, _, e => by cases e
theorem pairsOf_inv {w : FE.W} {ws : List FE.W} {ps : List (FE.W × FE.W)} (e : pairsOf (w :: ws) = some ps) : ∃ x y l, w = .tup [x, y] ∧ pairsOf ws = some l ∧ ps = (x, y) :: l := by
  cases w with
  | tup us =>
    match us, e with
    | [x, y], e =>
      have e : (match pairsOf ws with | some l => some ((x, y) :: l) | none => none) = some ps := e
      split at e
      · next l e2 => cases e; exact ⟨x, y, l, rfl, e2, rfl⟩
      · cases e
    | [], e => cases e
    | [_], e => cases e
    | _ :: _ :: _ :: _, e => cases e
  | _ => cases e
theorem pairs_ok {ρ : Rho} {H : Hp} {h : FE.H} : ∀ (ws : List FE.W) {xs : List V} {ps acc l : List (FE.W × FE.W)} {ks : List (Key × V)}, RWs G X.K ρ H ws xs → pairsOf ws = some ps → dputsH h acc ps = some l → Ks G X.K ρ H acc ks →
    ∃ (as : List Addr) (kvs : List (Key × V)), xs = as.map V.ref ∧ Paired (fun p kv => SqT X.K H p [kV kv.1, kv.2]) as kvs ∧ Ks G X.K ρ H l (mergeK ks kvs)
  | [], xs, ps, acc, l, ks, r0, e, e2, r => by
    cases r0
    cases e
    cases e2
    exact ⟨[], [], rfl, .nil, r⟩
  | w :: ws, xs, ps, acc, l, ks, r0, e, e2, r => by
    obtain ⟨x, y, l0, rfl, e0, rfl⟩ := pairsOf_inv e
    cases r0 with
    | cons r1 rs =>
      have e2 : (match dputH h x y acc with | some acc' => dputsH h acc' l0 | none => none) = some l := e2
      split at e2
      · next acc' e3 =>
        obtain ⟨a, vs, rfl, sq, rr⟩ := rw_tup r1
        cases rr with
        | cons rx rr =>
          cases rr with
          | cons ry rr =>
            cases rr
            obtain ⟨kk, rfl, r'⟩ := dputH_ok rx ry r e3
            obtain ⟨as, kvs, e4, pr, rl⟩ := pairs_ok ws rs e0 e2 r'
            exact ⟨a :: as, (kk, _) :: kvs, by rw [e4]; rfl, .cons sq pr, rl⟩
      · cases e2
/-- dict(e) -/
theorem ev_dict (hc : X.calm = true) (hg : Gl X "dict") (hm : X.mg "dict" = none) (ha : PE X a (EvQ G X.K Z sl)) (hs : starEach (a :: []) X.env = (false, eval a X.env) :: starEach [] X.env := by rfl) : PE X (.Call (.Name "dict" p) [a] [] pos) (EvE G X.K Z (cBf .dict sl)) :=
  EvQ.call (f := fun xs h k => opt 100 (pairsOf xs) fun ps => opt 101 (dputsH h [] ps) fun kvs => newK h (.dct kvs) k) (fun _ _ _ _ => rfl) (fun R run fin sq r => by
    obtain ⟨ps, e1, run⟩ := opt_inv run
    obtain ⟨kvs, e2, run⟩ := opt_inv run
    obtain ⟨as, ks, rfl, pr, rl⟩ := pairs_ok _ r e1 e2 .nil
    have done : ∀ p, _ = none → _ := fun p hn => new_fin (o := .dK (mergeK [] ks)) (p := p) R hn run fin fun ρ' ex => ⟨_, upd_same, rl.mono ex⟩
    rcases sq with sq | ⟨sq, pt⟩
    · exact .inl ⟨_, as, ks, rfl, sq, pr, done⟩
    · exact .inr ⟨_, as, ks, rfl, pt (keyed_of e1), pr, done⟩) (pe_callTy (callR_or (call_dictP hc) (call_dictT hc)) hg hm (by rfl) (pa_1 ha hs) (by decide) (by decide) hs)
/-! ### list(d.values()) -/
def tDvl (td : TE) : TE := fun σ H Q => td σ H fun v H1 => ∃ d kvs, v = .ref d ∧ H1 d = some (.dK kvs) ∧ ∀ p, H1 p = none → Q (.ref p) (upd H1 p (.lst (kvs.map (·.2))))
theorem pe_dvl {td : TE} {apos cpos : Pos} (hc : X.calm = true) (hg : Gl X "list") (hm : X.mg "list" = none) (he : PE X a td) (hbase : attributeBase a "values" X.env (eval a X.env) = eval a X.env := by rfl) (hline : (apos.endLine == cpos.line) = true := by rfl)
    (hs : starEach (.Call (.Attribute a "values" apos) [] [] cpos :: []) X.env = (false, eval (.Call (.Attribute a "values" apos) [] [] cpos) X.env) :: starEach [] X.env := by rfl) :
    PE X (.Call (.Name "list" p) [.Call (.Attribute a "values" apos) [] [] cpos] [] pos) (tDvl td) := by
  refine ⟨fun pins s σ H Q I h => ?_⟩
  refine Call_ (ld_blt I hg hm boot_list (PyProof.Rows.callWith_type1 (PyProof.Rows.args_cons ?_ hs) hs rfl))
  refine wpAny_Call_method (T := "dict") (id := "dict.values") hbase rfl hline F.plainAttrs_dict F.slot_dict_values F.type_dict_values (thn (he.run pins s σ H _ I h) fun u s1 ⟨x, H1, I1, r1, q1⟩ => ?_)
  obtain ⟨d, kvs, rfl, hd, q⟩ := q1
  obtain rfl : u = Value.ref d := r1
  obtain ⟨z, lo, vs, rk, hm0⟩ := (show ObjOk X.prog X.w H1 s1.heap d (.dK kvs) from I1.hok d _ hd)
  obtain ⟨ep, hat⟩ := hm0.dictAt
  have hl : kvs.length = vs.length := Paired.length rk
  refine ⟨hm0.typeIs, hm0.mapOf.noDict, ?_⟩
  have I2 : Inv X pins σ H1 { s1 with heap := s1.heap.push { cls := .type "dict_values", data := .fields #[.ref d] } } := I1.kept (t' := s1.toks) fun b ob q => Heap.get?_push_of_some _ q
  have iv : (s1.heap.push { cls := .type "dict_values", data := .fields #[.ref d] }).IsValuesView s1.heap.objs.size d := ⟨_, Heap.get?_push_size _ rfl, rfl, rfl⟩
  show wpAny _ _ (callWith cpos (.builtin "dict.values") [.ref d] [] []) _ X.xe s1
  refine method_meetsIn F.slot_dict_values F.entry_dict_values rfl (PySem.evalArgs_none ⟨rfl, hm0.typeIs, F.args_dict_values_1 _, _, meets_dict_values (mixKind X.prog X.w) d lo, ⟨vs, hm0⟩, PyProof.Rows.args_nil ?_⟩)
  refine PySem.W.kdl_call (PySem.W.kdl_values (knd := mixKind X.prog X.w) (kvs := vs) (ep := ep)) (I2.ok.hd hc) ⟨iv, hat.push _⟩ (by rw [← hl]; exact z) fun h' tk acc' c' hkeep hS hacc => ?_
  refine ⟨.ref _, _, I2.laid hkeep (Nat.le_refl _) (show ObjOk X.prog X.w _ _ _ (.lst (kvs.map (·.2))) from ⟨?_, acc'.toList, c', ?_, ?_⟩), rfl, q _ (I2.hok.fresh (Nat.le_refl _))⟩
  · rw [List.length_map]; exact z
  · have el : acc'.toList.length = acc'.size := by simp
    refine vals_of_at (by rw [List.length_map, el, hacc.1, hl]) fun j x w h1 h2 => ?_
    obtain ⟨k, hky⟩ := hacc.2 j w (by rw [← Array.getElem?_toList]; exact h2)
    rw [List.getElem?_map] at h1
    obtain ⟨⟨k', x'⟩, e1, e2⟩ := Option.map_eq_some_iff.mp h1
    have e2 : x' = x := e2
    subst e2
    obtain ⟨u, f1, f2⟩ := kv_get rk e1
    rw [hky] at f1
    cases f1
    exact f2
  · rw [Array.toArray_toList]; exact hS
theorem rws_secs {ρ : Rho} {H : Hp} {kvs : List (FE.W × FE.W)} {ks : List (Key × V)} (r : Ks G X.K ρ H kvs ks) : RWs G X.K ρ H (secs kvs) (ks.map (·.2)) := by
  induction r with
  | nil => exact .nil
  | cons _ v _ ih => exact .cons v ih
theorem dvlW_inv {w : FE.W} {h : FE.H} {k : KW} (run : dvlW w h k = true) : ∃ m kvs, w = .ob m ∧ h.get m = some (.dct kvs) ∧ newK h (.lst (secs kvs)) k = true := by
  cases w with
  | ob m =>
    have run : (match h.get m with | some (.dct kvs) => newK h (.lst (secs kvs)) k | _ => stop 95) = true := run
    split at run
    · next kvs g => exact ⟨m, kvs, rfl, g, run⟩
    · cases run
  | _ => cases run
theorem ev_dvl {apos cpos : Pos} (hc : X.calm = true) (hg : Gl X "list") (hm : X.mg "list" = none) (ha : PE X a (EvE G X.K Z sa)) (hbase : attributeBase a "values" X.env (eval a X.env) = eval a X.env := by rfl) (hline : (apos.endLine == cpos.line) = true := by rfl)
    (hs : starEach (.Call (.Attribute a "values" apos) [] [] cpos :: []) X.env = (false, eval (.Call (.Attribute a "values" apos) [] [] cpos) X.env) :: starEach [] X.env := by rfl) :
    PE X (.Call (.Name "list" p) [.Call (.Attribute a "values" apos) [] [] cpos] [] pos) (EvE G X.K Z (cDvl sa)) :=
  (pe_dvl hc hg hm ha hbase hline hs).imp fun σ H Q ⟨ρ, e, h, kx, k, n, run, fin, fx⟩ => by
    have run : sa e h kx (fun w h => dvlW w h k) = true := run
    refine EvE.then n run fx fun x h1 v H1 ρ1 t1 n1 r1 run1 fx1 => ?_
    obtain ⟨m, kvs, rfl, g, run1⟩ := dvlW_inv run1
    obtain ⟨d, rfl, q⟩ := rw_ob r1
    obtain ⟨ks, ea, r⟩ := dct_at n1.rh g q
    exact ⟨d, ks, rfl, ea, fun p hn => new_lst n1.rh hn (rws_secs r) run1 (fin.mono t1)⟩
/-! ### len(set(xs)), xs a list of ints -/
theorem met_mem (ns : List Int) (k : Int) : k ∈ firstMet (fun i => ns.getD i 0) ns.length ↔ k ∈ ns := by
  have z := firstMet_any (fun i => ns.getD i 0) ns.length k
  have m : (List.range ns.length).map (fun i => ns.getD i 0) = ns := by
    apply List.ext_getElem (by simp)
    intro i h1 h2
    simp [List.getD_eq_getElem?_getD, h2]
  rw [m] at z
  constructor
  · intro h
    have : (firstMet (fun i => ns.getD i 0) ns.length).any (· == k) = true := List.any_eq_true.mpr ⟨k, h, by simp⟩
    rw [z] at this
    obtain ⟨y, hy, e⟩ := List.any_eq_true.mp this
    rw [← (eq_of_beq e : y = k)]
    exact hy
  · intro h
    have : ns.any (· == k) = true := List.any_eq_true.mpr ⟨k, h, by simp⟩
    rw [← z] at this
    obtain ⟨y, hy, e⟩ := List.any_eq_true.mp this
    rw [← (eq_of_beq e : y = k)]
    exact hy
theorem met_nd (f : Nat → Int) : ∀ i, (firstMet f i).Nodup
  | 0 => List.nodup_nil
  | i + 1 => by
    rw [firstMet_succ]
    show (if (firstMet f i).any (· == f i) then firstMet f i else firstMet f i ++ [f i]).Nodup
    split
    · exact met_nd f i
    · next h =>
      refine List.nodup_append.mpr ⟨met_nd f i, by simp, fun x hx y hy e => h (List.any_eq_true.mpr ⟨f i, ?_, by simp⟩)⟩
      rw [List.mem_singleton] at hy
      rw [← hy, ← e]
      exact hx
theorem met_len (ns : List Int) : (firstMet (fun i => ns.getD i 0) ns.length).length = (setI ns).length := by
  refine List.Perm.length_eq ((List.perm_ext_iff_of_nodup (met_nd _ _) ?_).mpr fun k => ?_)
  · exact (setI_up ns).imp fun h => Int.ne_of_lt h
  · rw [met_mem, setI_mem]
def tLsetI (K : PySem.W.Frag) (ta : TE) : TE := fun σ H Q => ta σ H fun x H1 => ∃ (l : Addr) (ns : List Int), x = V.ref l ∧ SqL K H1 l (ns.map V.int) ∧ ns.length < 64 ∧ Q (.int (setI ns).length) H1
theorem pe_lsetI {ta : TE} (hc : X.calm = true) (hg : Gl X "len") (hm : X.mg "len" = none) (hg2 : Gl X "set") (hm2 : X.mg "set" = none) (ha : PE X a ta)
    (na : starEach [a] X.env = (false, eval a X.env) :: starEach [] X.env := by rfl) : PE X (.Call (.Name "len" p) [.Call (.Name "set" p2) [a] [] q] [] pos) (tLsetI X.K ta) := by
  refine ⟨fun pins s σ H Q I h => ?_⟩
  refine Call_ (ld_blt I hg hm PySem.boot_len ?_)
  refine PyProof.Rows.callWith_builtin1 (PyProof.Rows.args_cons ?_ rfl) rfl rfl
  refine Call_ (ld_blt I hg2 hm2 PyProof.Rows.boot_set ?_)
  refine PyProof.Rows.callWith_type1 (PyProof.Rows.args_cons (thn (ha.run pins s σ H _ I h) fun v s1 ⟨x, H1, I1, r1, q1⟩ => PyProof.Rows.args_nil ?_) na) na rfl
  obtain ⟨l, ns, rfl, hq, h1, q1⟩ := q1
  cases r1
  obtain ⟨its, r, pl, hz⟩ := I1.list hq
  have hl : its.toArray.size = ns.length := by rw [List.size_toArray, ← r.length, List.length_map]
  refine call_set_list (I1.ok.hd hc) pl.isList (ns := ns) (by simpa using r.ints) (by unfold scanBound; omega) fun h' tk hS hk => ?_
  rw [hl] at hS
  refine PyProof.Rows.args_nil ?_
  obtain ⟨o, es, ep, t, ho, hex, hd, _, _, _, hf, hn⟩ := hS
  rw [met_len] at hn
  have le : (setI ns).length ≤ ns.length := by rw [← met_len]; exact firstMet_length_le _ _
  have I2 : Inv X pins σ H1 { s1 with heap := h', toks := tk } := I1.kept fun b o e => hk b o (Heap.lt_size e) e
  refine call_len_set ho hex hd hf (by rw [hn] <;> omega) ⟨.int (setI ns).length, H1, I2.tok _, ⟨_, by rw [hn]⟩, q1⟩
theorem ev_lset (hc : X.calm = true) (hg : Gl X "len") (hm : X.mg "len" = none) (hg2 : Gl X "set") (hm2 : X.mg "set" = none) (ha : PE X a (EvL G X.K Z sl))
    (na : starEach [a] X.env = (false, eval a X.env) :: starEach [] X.env := by rfl) : PE X (.Call (.Name "len" p) [.Call (.Name "set" p2) [a] [] q] [] pos) (EvE G X.K Z (cLset sl)) :=
  (pe_lsetI hc hg hm hg2 hm2 ha na).imp fun σ H Q ⟨ρ, e, h, kx, k, n, run, fin, fx⟩ => by
    have run : sl e h kx (fun xs h => ssetI xs h fun l => k (.int (.ofNat l.length)) h) = true := run
    refine ⟨ρ, e, h, kx, _, n, run, fun ws h' v c xs H' ρ' run1 t1 R1 ev sq r => ?_, fx⟩
    subst ev
    obtain ⟨l, e1, l64, run1⟩ := ssetI_inv run1
    have ex := ints_ok e1 r
    subst ex
    exact ⟨c, l, rfl, sq, l64, fin_int R1 (fin.mono t1) run1⟩
end
end FE
end
section
set_option Elab.async false
set_option linter.all false
set_option maxRecDepth 100000
/-! FeLc2: list comprehensions of two clauses. -/
namespace FE
open PySem PySem.Spec PyProof.Rows L2
open PySem.SeqAt
theorem Ext0.trans {K : PySem.W.Frag} {ρ ρ1 ρ2 : Rho} {H H1 H2 : Hp} (a : Ext0 K ρ H ρ1 H1) (b : Ext0 K ρ1 H1 ρ2 H2) : Ext0 K ρ H ρ2 H2 :=
  ⟨⟨fun n x h => b.map n x (a.map n x h), fun x xs h => b.tup x xs (a.tup x xs h), fun x xs h => b.pt x xs (a.pt x xs h)⟩, fun x ob u h => b.frz x ob u (a.frz x ob u h)⟩
theorem Ext0.refl {K : PySem.W.Frag} {ρ : Rho} {H : Hp} : Ext0 K ρ H ρ H := Ext.refl.toExt0
section
variable {X : Cx} {G : GM} {Z : ZF X.K} {sg sg1 : Stg} {vs vs1 : List Nat}
theorem wipe_in : ∀ (us : List Nat) (τ : L2.St), (∀ u ∈ us, u ∈ vs) → L2.wipe (L2.wipe τ us) vs = L2.wipe τ vs
  | [], τ, _ => rfl
  | u :: us, τ, hu => by
    show L2.wipe ((L2.wipe τ us).set u none) vs = _
    rw [wipe_set _ _ _ _ (hu u List.mem_cons_self), wipe_in us τ fun z hz => hu z (List.mem_cons_of_mem _ hz)]
theorem lc2_read {own : List (Str × Nat)} {si si1 : Sit} {sc sc1 : Tst} {se : Sem} (hv : own.map (·.2) = vs) : ∀ (σ : L2.St) (H0 : Hp) (Q : VK), EvN G X.K Z (sLc2 vs sg si sc vs1 sg1 si1 sc1 se) σ H0 Q →
    tLc2 (EvI G X.K Z si) (EvGv G X.K vs sg) (EvT G X.K (NoZ X.K) sc) (EvI G X.K (NoZ X.K) si1) (EvGv G X.K vs1 sg1) (EvT G X.K (NoZ X.K) sc1) (EvE G X.K (NoZ X.K) se) (own.map (·.2)) vs1 σ H0 Q :=
  fun σ H0 Q ⟨ρ0, e, h, kx, k, n, run, fin, fx⟩ => by
    have run : si e h kx (fun q h => walkL2 sg sc si1 vs1 sg1 sc1 se (ewipe e vs) (fun acc h => k acc.reverse h) TURNS q [] h) = true := run
    refine ⟨ρ0, e, h, kx, _, n, run, fun q h1 J H1 ρ1 run1 t1 R1 wr => ?_, fx⟩
    intro D hD
    rw [hv]
    have re1 : RE G X.K ρ1 H1 (ewipe e vs) (L2.wipe σ vs) := (n.re.mono t1).wipe vs
    have ntD : ∀ {H : Hp} {xs : List V}, H D = some (.lst xs) → NF H D := fun q => no_tup q (fun _ z => nomatch z) fun _ _ z => nomatch z
    have first : Ext X.K ρ1 H1 ρ1 (upd H1 D (.lst [])) := ext_new hD (fun _ _ z => z) fun _ _ z => .inl z
    have hD0 : H0 D = none := by
      cases z : H0 D with
      | none => rfl
      | some u => exact absurd hD (t1.there D (by rw [z]; exact fun z => nomatch z))
    refine ⟨fun i m H => ∃ ρ h q acc xs, RH G X.K ρ h H ∧ Ext X.K ρ1 H1 ρ H ∧ (∀ n, ρ n ≠ some D) ∧ walkL2 sg sc si1 vs1 sg1 sc1 se (ewipe e vs) (fun acc h => k acc.reverse h) m q acc h = true ∧ WkR G X.K ρ H q J i ∧ H D = some (.lst xs) ∧ RWs G X.K ρ H acc.reverse xs,
      ⟨TURNS, ρ1, h1, q, [], [], R1.unseen (fun n z => R1.live n D z hD) (.none hD), first, fun n z => R1.live n D z hD, run1, wr.mono first, upd_same, .nil⟩, ?_⟩
    rintro i m H ⟨ρ, h, q, acc, xs, R, ex, un, run, wr, eD, ra⟩
    cases m with
    | zero => cases run
    | succ m =>
      have run : wkGo (wkNext h q) (fun _ => k acc.reverse h) (fun x q => sg x (ewipe e vs) h noX fun σ' h => sc σ' h noX fun b h => match b with
        | true => si1 σ' h noX fun q1 h => match Nat.ble acc.length TURNS with
          | true => walkL sg1 sc1 se (ewipe σ' vs1) (fun acc h => walkL2 sg sc si1 vs1 sg1 sc1 se (ewipe e vs) (fun acc h => k acc.reverse h) m q acc h) TURNS q1 acc h
          | false => stop 84
        | false => walkL2 sg sc si1 vs1 sg1 sc1 se (ewipe e vs) (fun acc h => k acc.reverse h) m q acc h) 83 = true := run
      obtain ⟨st1, st2⟩ := wk_step R wr
      cases eq : wkNext h q with
      | none => rw [eq] at run; cases run
      | some o =>
        rw [eq] at run
        cases o with
        | none => exact .inl ⟨st1 eq, fin acc.reverse h D xs H ρ run (t1.trans ex) R hD0 un eD ra⟩
        | some xq =>
          obtain ⟨x, q'⟩ := xq
          obtain ⟨go, yld⟩ := st2 x q' eq
          have run : sg x (ewipe e vs) h noX (fun σ' h => sc σ' h noX fun b h => match b with
            | true => si1 σ' h noX fun q1 h => match Nat.ble acc.length TURNS with
              | true => walkL sg1 sc1 se (ewipe σ' vs1) (fun acc h => walkL2 sg sc si1 vs1 sg1 sc1 se (ewipe e vs) (fun acc h => k acc.reverse h) m q' acc h) TURNS q1 acc h
              | false => stop 84
            | false => walkL2 sg sc si1 vs1 sg1 sc1 se (ewipe e vs) (fun acc h => k acc.reverse h) m q' acc h) = true := run
          refine .inr ⟨go, fun H => ∃ ρ h q acc xs, RH G X.K ρ h H ∧ Ext X.K ρ1 H1 ρ H ∧ (∀ n, ρ n ≠ some D) ∧ walkL2 sg sc si1 vs1 sg1 sc1 se (ewipe e vs) (fun acc h => k acc.reverse h) m q acc h = true ∧ WkR G X.K ρ H q J (i + 1) ∧ H D = some (.lst xs) ∧ RWs G X.K ρ H acc.reverse xs,
            fun H' z => ⟨m, Nat.lt_succ_self m, z⟩, fun v H' y => ?_⟩
          obtain ⟨ρ', x1, R', rv, wr'⟩ := yld v H' y
          have hDn : H D ≠ none := by rw [eD]; exact fun z => nomatch z
          refine ⟨ρ', ewipe e vs, h, x, noX, _, ⟨R', re1.mono (ex.trans x1)⟩, rv, run, fun e2 h2 σ2 H2 ρ2 r2 x2 n2 w2 => ⟨w2.trans (wipe_in vs σ fun _ z => z), ?_⟩⟩
          refine ⟨ρ2, e2, h2, noX, _, n2, r2, fun b h3 H3 ρ3 r3 x3 R3 => ?_, nox ρ2 H2⟩
          have t3 := (x1.trans x2).trans x3
          cases b with
          | false =>
            simp only [Bool.false_eq_true, if_false]
            exact ⟨ρ3, h3, q', acc, xs, R3, ex.trans t3, t3.unseen hDn un, r3, wr'.mono (x2.trans x3), (t3.keep D hDn un).trans eD, ra.mono t3⟩
          | true =>
            simp only [if_true]
            have r3 : si1 e2 h3 noX (fun q1 h => match Nat.ble acc.length TURNS with
              | true => walkL sg1 sc1 se (ewipe e2 vs1) (fun acc h => walkL2 sg sc si1 vs1 sg1 sc1 se (ewipe e vs) (fun acc h => k acc.reverse h) m q' acc h) TURNS q1 acc h
              | false => stop 84) = true := r3
            refine ⟨ρ3, e2, h3, noX, _, n2.on x3 R3, r3, fun q1 h4 J1 H4 ρ4 r4 x4 R4 wr4 => ?_, nox ρ3 H3⟩
            have t4 := t3.trans x4
            obtain ⟨le, r4⟩ := bool2 r4
            have le : acc.length ≤ TURNS := Nat.le_of_ble_eq_true le
            have re4 : RE G X.K ρ4 H4 (ewipe e2 vs1) (L2.wipe σ2 vs1) := ((n2.re.mono (x3.trans x4)).wipe vs1)
            have wq4 : WkR G X.K ρ4 H4 q' J (i + 1) := wr'.mono ((x2.trans x3).trans x4)
            refine ⟨fun j l H => ∃ ρ h q1 acc xs, RH G X.K ρ h H ∧ Ext X.K ρ1 H1 ρ H ∧ Ext0 X.K ρ4 H4 ρ H ∧ (∀ n, ρ n ≠ some D) ∧ walkL sg1 sc1 se (ewipe e2 vs1) (fun acc h => walkL2 sg sc si1 vs1 sg1 sc1 se (ewipe e vs) (fun acc h => k acc.reverse h) m q' acc h) l q1 acc h = true ∧
                WkR G X.K ρ H q1 J1 j ∧ H D = some (.lst xs) ∧ RWs G X.K ρ H acc.reverse xs ∧ acc.length + l ≤ 2 * TURNS,
              ⟨TURNS, ρ4, h4, q1, acc, xs, R4, ex.trans t4, .refl, t4.unseen hDn un, r4, wr4, (t4.keep D hDn un).trans eD, ra.mono t4, by omega⟩, ?_⟩
            rintro j l H5 ⟨ρ5, h5, q5, acc5, xs5, R5, ex5, e05, un5, run5, wr5, eD5, ra5, len5⟩
            cases l with
            | zero => cases run5
            | succ l =>
              have run5 : wkGo (wkNext h5 q5) (fun _ => walkL2 sg sc si1 vs1 sg1 sc1 se (ewipe e vs) (fun acc h => k acc.reverse h) m q' acc5 h5) (fun x q => sg1 x (ewipe e2 vs1) h5 noX fun σ' h => sc1 σ' h noX fun b h => match b with
                | true => se σ' h noX fun w h => walkL sg1 sc1 se (ewipe e2 vs1) (fun acc h => walkL2 sg sc si1 vs1 sg1 sc1 se (ewipe e vs) (fun acc h => k acc.reverse h) m q' acc h) l q (w :: acc5) h
                | false => walkL sg1 sc1 se (ewipe e2 vs1) (fun acc h => walkL2 sg sc si1 vs1 sg1 sc1 se (ewipe e vs) (fun acc h => k acc.reverse h) m q' acc h) l q acc5 h) 83 = true := run5
              obtain ⟨su1, su2⟩ := wk_step R5 wr5
              cases eq5 : wkNext h5 q5 with
              | none => rw [eq5] at run5; cases run5
              | some o =>
                rw [eq5] at run5
                cases o with
                | none => exact .inl ⟨su1 eq5, ρ5, h5, q', acc5, xs5, R5, ex5, un5, run5, wq4.mono0 e05, eD5, ra5⟩
                | some xq =>
                  obtain ⟨x5, q6⟩ := xq
                  obtain ⟨go5, yld5⟩ := su2 x5 q6 eq5
                  have run5 : sg1 x5 (ewipe e2 vs1) h5 noX (fun σ' h => sc1 σ' h noX fun b h => match b with
                    | true => se σ' h noX fun w h => walkL sg1 sc1 se (ewipe e2 vs1) (fun acc h => walkL2 sg sc si1 vs1 sg1 sc1 se (ewipe e vs) (fun acc h => k acc.reverse h) m q' acc h) l q6 (w :: acc5) h
                    | false => walkL sg1 sc1 se (ewipe e2 vs1) (fun acc h => walkL2 sg sc si1 vs1 sg1 sc1 se (ewipe e vs) (fun acc h => k acc.reverse h) m q' acc h) l q6 acc5 h) = true := run5
                  refine .inr ⟨go5, fun H => ∃ ρ h q1 acc xs, RH G X.K ρ h H ∧ Ext X.K ρ1 H1 ρ H ∧ Ext0 X.K ρ4 H4 ρ H ∧ (∀ n, ρ n ≠ some D) ∧ walkL sg1 sc1 se (ewipe e2 vs1) (fun acc h => walkL2 sg sc si1 vs1 sg1 sc1 se (ewipe e vs) (fun acc h => k acc.reverse h) m q' acc h) l q1 acc h = true ∧
                      WkR G X.K ρ H q1 J1 (j + 1) ∧ H D = some (.lst xs) ∧ RWs G X.K ρ H acc.reverse xs ∧ acc.length + l ≤ 2 * TURNS,
                    fun H' z => ⟨l, Nat.lt_succ_self l, z⟩, fun v5 H6 y5 => ?_⟩
                  obtain ⟨ρ6, z1, R6, rv6, wr6⟩ := yld5 v5 H6 y5
                  have hD5 : H5 D ≠ none := by rw [eD5]; exact fun z => nomatch z
                  refine ⟨ρ6, ewipe e2 vs1, h5, x5, noX, _, ⟨R6, re4.monoT (e05.trans z1.toExt0).toExtT⟩, rv6, run5, fun e7 h7 σ7 H7 ρ7 r7 z2 n7 w7 => ⟨w7.trans (wipe_in vs1 σ2 fun _ z => z), ?_⟩⟩
                  refine ⟨ρ7, e7, h7, noX, _, n7, r7, fun b h8 H8 ρ8 r8 z3 R8 => ?_, nox ρ7 H7⟩
                  have s3 := (z1.trans z2).trans z3
                  cases b with
                  | false =>
                    simp only [Bool.false_eq_true, if_false]
                    exact ⟨ρ8, h8, q6, acc5, xs5, R8, ex5.trans s3, e05.trans s3.toExt0, s3.unseen hD5 un5, r8, wr6.mono (z2.trans z3), (s3.keep D hD5 un5).trans eD5, ra5.mono s3, by omega⟩
                  | true =>
                    simp only [if_true]
                    refine ⟨ρ8, e7, h8, noX, _, n7.on z3 R8, r8, fun w h9 v9 H9 ρ9 r9 z4 R9 rv9 => ?_, nox ρ8 H8⟩
                    have s4 := s3.trans z4
                    have eD9 : H9 D = some (.lst xs5) := (s4.keep D hD5 un5).trans eD5
                    have un9 := s4.unseen hD5 un5
                    have e0 : Ext0 X.K ρ9 H9 ρ9 (upd H9 D (.lst (xs5 ++ [v9]))) := ext0_unseen (ntD eD9)
                    have ra9 := (ra5.mono s4).append (.cons rv9 .nil)
                    have lx : xs5.length = acc5.length := by rw [← ra5.length, List.length_reverse]
                    refine ⟨xs5, eD9, ?_, ρ9, h9, q6, w :: acc5, xs5 ++ [v9], R9.unseen un9 (ntD eD9), (ex5.trans s4).over hD (ntD eD9), (e05.trans s4.toExt0).trans e0, un9, r9, (wr6.mono ((z2.trans z3).trans z4)).mono0 e0, upd_same, by rw [List.reverse_cons]; exact ra9.mono0 e0, ?_⟩
                    · rw [lx, sizeLine_eq]; have : TURNS = 100000 := rfl; omega
                    · show acc5.length + 1 + l ≤ 2 * TURNS; omega
theorem en_lc2 {elt tg iter tg1 iter1 : Expr} {ifs ifs1 : List Expr} {scope : Scope} {own : List (Str × Nat)} {pos : Pos} {si si1 : Sit} {sc sc1 : Tst} {se : Sem} (hc : X.calm = true) (hN : X.N.Nodup) (hi : PI X tg iter (EvI G X.K Z si)) (ok : BlkOk X.N X.env.scope scope own) (hv : own.map (·.2) = vs) (hv1 : ∀ i ∈ vs1, i ∈ own.map (·.2))
    (hg : ∀ (s : Shared) (H : Hp) (C : Addr) (cl : List (Str × Addr)) (fp : List Addr), PG (X.blk s H scope (compEnvC scope cl C X.env) fp) tg (EvGv G X.K vs sg)) (ht : ∀ (s : Shared) (H : Hp) (C : Addr) (cl : List (Str × Addr)) (fp : List Addr), PTs (X.blk s H scope (compEnvC scope cl C X.env) fp) ifs (EvT G X.K (NoZ X.K) sc))
    (hi1 : ∀ (s : Shared) (H : Hp) (C : Addr) (cl : List (Str × Addr)) (fp : List Addr), PI (X.blk s H scope (compEnvC scope cl C X.env) fp) tg1 iter1 (EvI G X.K (NoZ X.K) si1))
    (hg1 : ∀ (s : Shared) (H : Hp) (C : Addr) (cl : List (Str × Addr)) (fp : List Addr), PG (X.blk s H scope (compEnvC scope cl C X.env) fp) tg1 (EvGv G X.K vs1 sg1)) (ht1 : ∀ (s : Shared) (H : Hp) (C : Addr) (cl : List (Str × Addr)) (fp : List Addr), PTs (X.blk s H scope (compEnvC scope cl C X.env) fp) ifs1 (EvT G X.K (NoZ X.K) sc1))
    (he : ∀ (s : Shared) (H : Hp) (C : Addr) (cl : List (Str × Addr)) (fp : List Addr), PE (X.blk s H scope (compEnvC scope cl C X.env) fp) elt (EvE G X.K (NoZ X.K) se)) (hs : ∀ x, foldedSetIterable iter X.env x = pure x := by intro _; rfl) (hs1 : ∀ env x, foldedSetIterable iter1 env x = pure x := by intro _ _; rfl) :
    PE X (.ListComp elt [⟨tg, iter, ifs, 0⟩, ⟨tg1, iter1, ifs1, 0⟩] scope pos) (EvN G X.K Z (sLc2 vs sg si sc vs1 sg1 si1 sc1 se)) :=
  (pe_lc2 hc hN hi ok hv1 hg ht hi1 hg1 ht1 he hs hs1).imp (lc2_read hv)
theorem es_setLc2 {i : Nat} {y : Str} {py : Pos} {elt tg iter tg1 iter1 : Expr} {ifs ifs1 : List Expr} {scope : Scope} {own : List (Str × Nat)} {pos spos : Pos} {si si1 : Sit} {sc sc1 : Tst} {se : Sem} (hc : X.calm = true) (hN : X.N.Nodup) (hi : PI X tg iter (EvI G X.K Z si)) (ok : BlkOk X.N X.env.scope scope own) (hv : own.map (·.2) = vs) (hv1 : ∀ i ∈ vs1, i ∈ own.map (·.2))
    (hg : ∀ (s : Shared) (H : Hp) (C : Addr) (cl : List (Str × Addr)) (fp : List Addr), PG (X.blk s H scope (compEnvC scope cl C X.env) fp) tg (EvGv G X.K vs sg)) (ht : ∀ (s : Shared) (H : Hp) (C : Addr) (cl : List (Str × Addr)) (fp : List Addr), PTs (X.blk s H scope (compEnvC scope cl C X.env) fp) ifs (EvT G X.K (NoZ X.K) sc))
    (hi1 : ∀ (s : Shared) (H : Hp) (C : Addr) (cl : List (Str × Addr)) (fp : List Addr), PI (X.blk s H scope (compEnvC scope cl C X.env) fp) tg1 iter1 (EvI G X.K (NoZ X.K) si1))
    (hg1 : ∀ (s : Shared) (H : Hp) (C : Addr) (cl : List (Str × Addr)) (fp : List Addr), PG (X.blk s H scope (compEnvC scope cl C X.env) fp) tg1 (EvGv G X.K vs1 sg1)) (ht1 : ∀ (s : Shared) (H : Hp) (C : Addr) (cl : List (Str × Addr)) (fp : List Addr), PTs (X.blk s H scope (compEnvC scope cl C X.env) fp) ifs1 (EvT G X.K (NoZ X.K) sc1))
    (he : ∀ (s : Shared) (H : Hp) (C : Addr) (cl : List (Str × Addr)) (fp : List Addr), PE (X.blk s H scope (compEnvC scope cl C X.env) fp) elt (EvE G X.K (NoZ X.K) se)) (hy : X.N[i]? = some y := by rfl) (hyl : X.env.scope.names.lookup y = some .local := by rfl) (hs : ∀ x, foldedSetIterable iter X.env x = pure x := by intro _; rfl) (hs1 : ∀ env x, foldedSetIterable iter1 env x = pure x := by intro _ _; rfl)
    (hsw : swapsWith (.ListComp elt [⟨tg, iter, ifs, 0⟩, ⟨tg1, iter1, ifs1, 0⟩] scope pos) (some (.Name y py)) spos.line X.env = pure true := by rfl) : PS X (.Assign [.Name y py] (.ListComp elt [⟨tg, iter, ifs, 0⟩, ⟨tg1, iter1, ifs1, 0⟩] scope pos) spos) (EvS G X.K Z (sAsg (gSlot i) (cLst (sLc2 vs sg si sc vs1 sg1 si1 sc1 se)))) :=
  (ps_setLc2 hc hN hy hyl hsw hi ok hv1 hg ht hi1 hg1 ht1 he hs hs1).imp fun D σ H ⟨ρ, e, h, k, n, run, w⟩ => by
    have run : sLc2 vs sg si sc vs1 sg1 si1 sc1 se e h k.ex (fun ws h => newK h (.lst ws) fun v h => k.nx (eset e i (some v)) h) = true := run
    refine lc2_read hv σ H _ ⟨ρ, e, h, k.ex, _, n, run, fun ws h' a xs H' ρ' x1 x2 x3 hn un x4 x5 => ?_, w.ex⟩
    obtain ⟨_, hm, run1⟩ := newK_inv x1
    obtain ⟨ρ2, q, m1, m2, R2⟩ := x3.see un x4 x5 hm
    have ex : Ext X.K ρ H ρ2 H' := ⟨⟨⟨fun n b z => m1 n b (x2.map n b z), x2.tup, x2.pt⟩, x2.frz⟩, fun n b z => by
      rcases m2 n b z with z | rfl
      · exact x2.new n b z
      · exact .inr hn, x2.there, x2.keep⟩
    exact w.nx _ _ _ _ ρ2 run1 ex ((n.on ex R2).set i (.ob q))
end
end FE
end
section
set_option Elab.async false
set_option linter.all false
set_option maxRecDepth 100000
/-! FeObj: instances: fields read and stored, C(..), methods. -/
namespace FE
open PySem PySem.Spec PyProof.Rows L2
open PySem.SeqAt
section
variable {G : GM} {K : PySem.W.Frag} {ρ ρ' : Rho} {H H' : Hp} {fs : List (Nat × FE.W)} {vs : List (Str × V)} {j : Nat} {w : FE.W} {v : V}
theorem Fs.length : ∀ {fs : List (Nat × FE.W)} {vs : List (Str × V)}, Fs G K ρ H fs vs → fs.length = vs.length
  | _, _, .nil => rfl
  | _, _, .cons _ _ r => by simp [Fs.length r]
theorem fld_ne {a b : Nat} (l1 : G.nf a = true) (l2 : G.nf b = true) (h : a ≠ b) : G.fld a ≠ G.fld b := fun e => h (G.inj a b l1 l2 e)
theorem fget_at (lt : G.nf j = true) : ∀ {fs : List (Nat × FE.W)} {vs : List (Str × V)}, Fs G K ρ H fs vs → (∀ w, fget fs j = some w → ∃ v, vs.lookup (G.fld j) = some v ∧ RW G K ρ H w v) ∧ (fget fs j = none → vs.lookup (G.fld j) = none)
  | _, _, .nil => ⟨fun w e => (by cases e), fun _ => rfl⟩
  | _, _, .cons (f := f) (w := u) (v := x) (fs := fs) (vs := vs) l r rs => by
    obtain ⟨i1, i2⟩ := fget_at lt rs
    by_cases q : f = j
    · subst q
      have e1 : fget ((f, u) :: fs) f = some u := by
        show (match Nat.beq f f with | true => some u | false => fget fs f) = some u
        rw [Nat.beq_refl]
      have e2 : List.lookup (G.fld f) ((G.fld f, x) :: vs) = some x := by simp [List.lookup]
      exact ⟨fun w e => by rw [e1] at e; cases e; exact ⟨x, e2, r⟩, fun e => by rw [e1] at e; cases e⟩
    · have b : Nat.beq f j = false := by
        cases z : Nat.beq f j with
        | false => rfl
        | true => exact absurd (Nat.eq_of_beq_eq_true z) q
      have e1 : fget ((f, u) :: fs) j = fget fs j := by
        show (match Nat.beq f j with | true => some u | false => fget fs j) = fget fs j
        rw [b]
      have b2 : (G.fld j == G.fld f) = false := beq_eq_false_iff_ne.mpr (fld_ne lt l (Ne.symm q))
      have e2 : List.lookup (G.fld j) ((G.fld f, x) :: vs) = vs.lookup (G.fld j) := by simp [List.lookup, b2]
      rw [e1, e2]
      exact ⟨i1, i2⟩
theorem fput_at (lt : G.nf j = true) (r0 : RW G K ρ H w v) : ∀ {fs : List (Nat × FE.W)} {vs : List (Str × V)}, Fs G K ρ H fs vs → Fs G K ρ H (fput fs j w) (putF (G.fld j) v vs)
  | _, _, .nil => .cons lt r0 .nil
  | _, _, .cons (f := f) (w := u) (v := x) (fs := fs) (vs := vs) l r rs => by
    by_cases q : f = j
    · subst q
      have e1 : fput ((f, u) :: fs) f w = (f, w) :: fs := by
        show (match Nat.beq f f with | true => (f, w) :: fs | false => (f, u) :: fput fs f w) = _
        rw [Nat.beq_refl]
      have e2 : putF (G.fld f) v ((G.fld f, x) :: vs) = (G.fld f, v) :: vs := by unfold putF; rw [if_pos rfl]
      rw [e1, e2]
      exact .cons l r0 rs
    · have b : Nat.beq f j = false := by
        cases z : Nat.beq f j with
        | false => rfl
        | true => exact absurd (Nat.eq_of_beq_eq_true z) q
      have e1 : fput ((f, u) :: fs) j w = (f, u) :: fput fs j w := by
        show (match Nat.beq f j with | true => (f, w) :: fs | false => (f, u) :: fput fs j w) = _
        rw [b]
      have e2 : putF (G.fld j) v ((G.fld f, x) :: vs) = (G.fld f, x) :: putF (G.fld j) v vs := by
        show (if G.fld f = G.fld j then _ else _) = _
        rw [if_neg (fld_ne l lt q)]
      rw [e1, e2]
      exact .cons l r (fput_at lt r0 rs)
/-- the field numbered j, named x: a field of instances alone -/
structure AtF (K : PySem.W.Frag) (G : GM) (j : Nat) (x : Str) : Prop where
  lt : G.nf j = true
  nm : G.fld j = x
  ok : ∀ c C, G.ic c = true → G.ca c = some C → Cls K C ∧ NoAttr K C x
end
section
variable {X : Cx} {G : GM} {Z : ZF X.K} {P : FE.Prog} {n r f c j : Nat} {a o e : Expr} {es : List Expr} {sa so sv : Sem} {sl : Slt} {fa C : Addr} {fd : FuncData} {ps : List Str} {x m : Str} {p pos pos' apos : Pos}
theorem ins_at {ρ : Rho} {H : Hp} {h : FE.H} {k : Nat} {d : Addr} {fs : List (Nat × FE.W)} (R : RH G X.K ρ h H) (g : h.get k = some (.ins c fs)) (q : ρ k = some d) : ∃ C dx vs, (G.ic c = true ∧ G.ca c = some C) ∧ H d = some (.ins C dx vs) ∧ Fs G X.K ρ H fs vs := by
  obtain ⟨b, q', t⟩ := R.obj k _ g
  rw [q] at q'; cases q'
  exact t
theorem attW_inv {w : FE.W} {h : FE.H} {k : KW} (run : attW w j h k = true) : ∃ i c fs u, w = .ob i ∧ h.get i = some (.ins c fs) ∧ fget fs j = some u ∧ k u h = true := by
  cases w with
  | ob i =>
    have run : (match h.get i with | some (.ins _ fs) => opt 206 (fget fs j) (fun w => k w h) | _ => stop 207) = true := run
    split at run
    · next c fs g =>
      obtain ⟨u, e, run⟩ := opt_inv run
      exact ⟨i, c, fs, u, rfl, g, e, run⟩
    · cases run
  | non => cases run
  | bl c => cases run
  | int c => cases run
  | str c => cases run
  | tup c => cases run
  | cls c => cases run
  | fn c => cases run
/-- o.x -/
theorem ev_att (T : AtF X.K G j x) (ha : PE X a (EvE G X.K Z sa)) (hb : attributeBase a x X.env (eval a X.env) = eval a X.env := by rfl) : PE X (.Attribute a x pos) (EvE G X.K Z (cAtt sa j)) :=
  (pe_fld ha hb).imp fun σ H Q ⟨ρ, en, h, kx, k, n0, run, fin, fx⟩ => by
    have run : sa en h kx (fun y h => attW y j h k) = true := run
    refine EvE.then n0 run fx fun y h1 v1 H1 ρ1 t1 n1 r1 run1 fx1 => ?_
    obtain ⟨i, c, fs, u, rfl, g, e, run1⟩ := attW_inv run1
    obtain ⟨d, rfl, q⟩ := rw_ob r1
    obtain ⟨C, dx, vs, ⟨gi, gc⟩, ed, rs⟩ := ins_at n1.rh g q
    obtain ⟨v, e2, rv⟩ := (fget_at T.lt rs).1 u e
    rw [T.nm] at e2
    obtain ⟨c1, c2⟩ := T.ok c C gi gc
    exact ⟨d, C, dx, vs, v, rfl, ed, c1, c2, e2, fin u h1 v H1 ρ1 run1 t1 n1.rh rv⟩
theorem tgAtt_inv {y w : FE.W} {en : FE.Env} {h : FE.H} {k : KE} (run : tgAtt y j w en h k = true) : ∃ i c fs, y = .ob i ∧ h.get i = some (.ins c fs) ∧ fs.length < 1000 ∧ k en (h.put i (.ins c (fput fs j w))) = true := by
  cases y with
  | ob i =>
    have run : (match h.get i with | some (.ins c fs) => (match Nat.blt fs.length 1000 with | true => k en (h.put i (.ins c (fput fs j w))) | false => stop 69) | _ => stop 69) = true := run
    split at run
    · next c fs g =>
      split at run
      · next lt => exact ⟨i, c, fs, rfl, g, Nat.blt_eq.mp lt, run⟩
      · cases run
    · cases run
  | non => cases run
  | bl c => cases run
  | int c => cases run
  | str c => cases run
  | tup c => cases run
  | cls c => cases run
  | fn c => cases run
/-- o.x = e -/
theorem es_att (T : AtF X.K G j x) (ho : PE X o (EvE G X.K Z so)) (hv : PE X e (EvE G X.K Z sv)) (hs : swapsWith e (some (.Attribute o x pos')) pos.line X.env = pure false := by rfl) : PS X (.Assign [.Attribute o x pos'] e pos) (EvS G X.K Z (sAsg (FE.gAtt so j) sv)) :=
  (ps_fld ho hv hs).imp fun D σ H ⟨ρ, en, h, k, n0, run, w⟩ => by
    have run : sv en h k.ex (fun y h => so en h k.ex fun z h => tgAtt z j y en h k.nx) = true := run
    refine EvE.then n0 run w.ex fun y h1 v1 H1 ρ1 t1 n1 r1 run1 fx1 => ?_
    refine EvE.then n1 run1 fx1 fun z h2 v2 H2 ρ2 t2 n2 r2 run2 fx2 => ?_
    obtain ⟨i, c, fs, rfl, g, lt, run2⟩ := tgAtt_inv run2
    obtain ⟨d, rfl, q⟩ := rw_ob r2
    obtain ⟨C, dx, vs, ⟨gi, gc⟩, ed, rs⟩ := ins_at n2.rh g q
    obtain ⟨c1, c2⟩ := T.ok c C gi gc
    have rs2 := fput_at T.lt (r1.mono t2) rs
    rw [T.nm] at rs2
    obtain ⟨ex, R'⟩ := n2.rh.put (o := .ins C dx (putF x v1 vs)) (w := .ins c (fput fs j y)) g q (no_tup ed (fun _ z => nomatch z) fun _ _ z => nomatch z) (fun ex => ⟨C, dx, _, ⟨gi, gc⟩, upd_same, rs2.mono ex⟩)
    exact ⟨d, C, dx, vs, rfl, ed, c1, c2, by rw [← rs.length]; exact lt, w.nx en _ σ _ ρ2 run2 ((t1.trans t2).trans ex) (n2.on ex R')⟩
theorem nonK_inv {w : FE.W} {b : B} (run : nonK w b = true) : w = .non ∧ b = true := by
  cases w with
  | non => exact ⟨rfl, run⟩
  | _ => cases run
/-- C(e, ..) -/
theorem ev_new_ (M : Mk X.K C fa) (gc : G.ca c = some C) (gi : G.ic c = true) (F : FnOk X.prog X.w X.K X.mg X.base (CX X.prog X.w) r fa fd ps (SpF G X.K P n f)) (hr : Room (r + 1) X.A) (hg : Gl X x) (hm : X.mg x = some (.ref C)) (hb : Binds X.K fd ps []) (tk : Takes X fun cls d _ H => Z.e cls d H)
    (ha : PA X (e :: es) (EvA G X.K Z sl)) (hdb : (x == ("__debug__" : Str)) = false := by decide) (he : starEach (e :: es) X.env = (false, eval e X.env) :: starEach es X.env := by rfl) (hpl : (backTo pos (starEach es X.env)).any (·.1) = false := by rfl) :
    PE X (.Call (.Name x p) (e :: es) [] pos) (EvE G X.K Z (cNew (callN P n) c f sl)) :=
  (pe_make M F hr hg hm hb .nil (passes_call tk fun _ _ _ _ h => h) ha hdb he hpl).imp fun σ H Q ⟨ρ, en, h, kx, k, n0, run, fin, fx⟩ => by
    have run : sl en h kx (fun ws h => newK h (.ins c []) fun o h => callN P n f (o :: ws) h kx fun w h => nonK w (k o h)) = true := run
    refine EvA.then n0 run fx fun ws h1 vs H1 ρ1 t1 n1 r1 run1 fx1 => ?_
    intro y dx hy hdx ne
    rw [List.append_nil]
    have t2 : Ext X.K ρ1 H1 ρ1 (upd H1 dx (.own y)) := ext_new hdx (fun _ _ z => z) fun _ _ z => .inl z
    have R1 : RH G X.K ρ1 h1 (upd H1 dx (.own y)) := n1.rh.unseen (fun m z => n1.rh.live m dx z hdx) (.none hdx)
    obtain ⟨_, hm2, run2⟩ := newK_inv run1
    obtain ⟨ρ2, e1, ex, R2⟩ := R1.new (o := .ins C dx []) (p := y) (by rw [upd_ne (Ne.symm ne)]; exact hy) hm2 (w := .ins c []) (fun ρ' ex => ⟨C, dx, [], ⟨gi, gc⟩, upd_same, .nil⟩)
    have t3 := t2.trans ex
    refine ⟨ρ2, _, _, kx, .ob h1.n :: ws, R2, .cons (.ob e1) (r1.mono t3), run2, fun w h' v H3 ρ3 a b c' d => ?_, (fx1.mono t3).to⟩
    obtain ⟨rfl, a⟩ := nonK_inv a
    cases d
    exact ⟨rfl, fin (.ob h1.n) h' (.ref y) H3 ρ3 a ((t1.trans t3).trans b) c' (.ob (b.map _ _ e1))⟩
theorem insHere_inv {w : FE.W} {h : FE.H} {b : B} (run : insHere c j w h b = true) : ∃ i fs, w = .ob i ∧ h.get i = some (.ins c fs) ∧ fget fs j = none ∧ b = true := by
  cases w with
  | ob i =>
    have r2 : (match h.get i with | some (.ins c' fs) => (match Nat.beq c' c with | true => (match fget fs j with | none => b | some _ => stop 212) | false => stop 213) | _ => stop 213) = true := run
    clear run
    split at r2
    · next c' fs g =>
      split at r2
      · next z =>
        have z := Nat.eq_of_beq_eq_true z
        subst z
        split at r2
        · next e => exact ⟨i, fs, rfl, g, e, r2⟩
        · cases r2
      · cases r2
    · cases r2
  | non => cases run
  | bl c => cases run
  | int c => cases run
  | str c => cases run
  | tup c => cases run
  | cls c => cases run
  | fn c => cases run
/-- o.m(e, ..) -/
theorem ev_meth {pl : PySem.Sem Bool} (cl : Cls X.K C) (hm : Meth X.K C m fa) (gc : G.ca c = some C) (lt : G.nf j = true) (nm : G.fld j = m) (F : FnOk X.prog X.w X.K X.mg X.base (CX X.prog X.w) r fa fd ps (SpF G X.K P n f)) (hr : Room r X.A) (hb : Binds X.K fd ps []) (tk : Takes X fun cls d _ H => Z.e cls d H)
    (ho : PE X o (EvE G X.K Z so)) (ha : PA X (e :: es) (EvA G X.K Z sl)) (hst : starEach (e :: es) X.env = (false, eval e X.env) :: starEach es X.env := by rfl) (hpl : (backTo pos (starEach es X.env)).any (·.1) = false := by rfl)
    (ht : eval (.Call (.Attribute o m apos) (e :: es) [] pos) X.env = (do
      let ov ← eval o X.env
      standAt apos.atName
      let (g, first) ← holding [ov] (getMethod ov m pl)
      callWith pos g first (backTo pos (starEach (e :: es) X.env)) (backToKw pos (keywordEach [] X.env))) := by rfl) :
    PE X (.Call (.Attribute o m apos) (e :: es) [] pos) (EvE G X.K Z (cMeth1 (callN P n) so c j f sl)) :=
  (pe_meth ho cl hm F hr hb .nil (passes_call tk fun _ _ _ _ h => h) ha hst hpl ht).imp fun σ H Q ⟨ρ, en, h, kx, k, n0, run, fin, fx⟩ => by
    have run : so en h kx (fun y h => insHere c j y h (sl en h kx fun ws h => callN P n f (y :: ws) h kx k)) = true := run
    refine EvE.then n0 run fx fun y h1 v1 H1 ρ1 t1 n1 r1 run1 fx1 => ?_
    obtain ⟨i, fs, rfl, g, e0, run1⟩ := insHere_inv run1
    obtain ⟨d, rfl, q⟩ := rw_ob r1
    obtain ⟨C', dx, vs, ⟨gi, gc'⟩, ed, rs⟩ := ins_at n1.rh g q
    rw [gc] at gc'; cases gc'
    have ln := (fget_at lt rs).2 e0
    rw [nm] at ln
    refine ⟨d, dx, vs, rfl, ed, ln, ?_⟩
    refine EvA.then n1 run1 fx1 fun ws h2 xs H2 ρ2 t2 n2 r2 run2 fx2 => ?_
    rw [List.append_nil]
    exact ⟨ρ2, h2, k, kx, .ob i :: ws, n2.rh, .cons (r1.mono t2) r2, run2, fin.mono (t1.trans t2), fx2.to⟩
/-- an own class with instances -/
structure InsC (K : PySem.W.Frag) (mg : Str → Option Value) (G : GM) (x : Str) (c : Nat) (C : Addr) : Prop where
  at_ : mg x = some (.ref C)
  gc : G.ca c = some C
  gi : G.ic c = true
  cl : Cls K C
/-- one of its methods -/
structure MeC (K : PySem.W.Frag) (G : GM) (C : Addr) (m : Str) (j : Nat) (fa : Addr) : Prop where
  me : Meth K C m fa
  lt : G.nf j = true
  nm : G.fld j = m
theorem ev_new1 (T : InsC X.K X.mg G x c C) (M : Mk X.K C fa) (F : FnOk X.prog X.w X.K X.mg X.base (CX X.prog X.w) r fa fd ps (SpF G X.K P n f)) (hr : Room (r + 1) X.A) (hg : Gl X x) (hb : Binds X.K fd ps []) (tk : Takes X fun cls d _ H => Z.e cls d H)
    (ha : PA X (e :: es) (EvA G X.K Z sl)) (hdb : (x == ("__debug__" : Str)) = false := by decide) (he : starEach (e :: es) X.env = (false, eval e X.env) :: starEach es X.env := by rfl) (hpl : (backTo pos (starEach es X.env)).any (·.1) = false := by rfl) :
    PE X (.Call (.Name x p) (e :: es) [] pos) (EvE G X.K Z (cNew (callN P n) c f sl)) := ev_new_ M T.gc T.gi F hr hg T.at_ hb tk ha hdb he hpl
theorem ev_me {pl : PySem.Sem Bool} (T : InsC X.K X.mg G x c C) (M : MeC X.K G C m j fa) (F : FnOk X.prog X.w X.K X.mg X.base (CX X.prog X.w) r fa fd ps (SpF G X.K P n f)) (hr : Room r X.A) (hb : Binds X.K fd ps []) (tk : Takes X fun cls d _ H => Z.e cls d H)
    (ho : PE X o (EvE G X.K Z so)) (ha : PA X (e :: es) (EvA G X.K Z sl)) (hst : starEach (e :: es) X.env = (false, eval e X.env) :: starEach es X.env := by rfl) (hpl : (backTo pos (starEach es X.env)).any (·.1) = false := by rfl)
    (ht : eval (.Call (.Attribute o m apos) (e :: es) [] pos) X.env = (do
      let ov ← eval o X.env
      standAt apos.atName
      let (g, first) ← holding [ov] (getMethod ov m pl)
      callWith pos g first (backTo pos (starEach (e :: es) X.env)) (backToKw pos (keywordEach [] X.env))) := by rfl) :
    PE X (.Call (.Attribute o m apos) (e :: es) [] pos) (EvE G X.K Z (cMeth1 (callN P n) so c j f sl)) := ev_meth T.cl M.me T.gc M.lt M.nm F hr hb tk ho ha hst hpl ht
end
end FE
end
section
set_option Elab.async false
set_option linter.all false
set_option maxRecDepth 100000
/-! FeHead: the head's facts. -/
namespace FE
open PySem PySem.Spec PyProof.Rows L2
abbrev Fct := PySem.W.Frag → Bool
/-- an own class's __init__ that closes over its class: the class, the qualified name, the def, the names of the body -/
structure SupD where
  cls : Str
  qual : Str
  st : Stmt
  sf : Str
  pl : Str
  nm : Str
def bodyOfCls : Stmt → List Stmt
  | .ClassDef (body := b) .. => b
  | _ => []
/-- such a function, but for the cell's place -/
def fnC (K : PySem.W.Frag) (x : Str) : He.FnW := match K.lookup (He.fAd K (x, some "__init__")) with
  | some ⟨_, _, .func fd, _⟩ => some (fd.name, fd.qualname, fd.params, fd.body, fd.scope, fd.globals, fd.closure.map (fun c => (c.1, 0)), fd.builtins)
  | _ => none
def SupD.val (d : SupD) : He.FnW := some ("__init__", d.qual, defArgs d.st, .stmts (defBody d.st), defScope d.st, mainGlobals, [("__class__", 0)], builtinsNs)
abbrev AlF : Type := Bool × (List He.FnW × List He.FnW)
def obsF (fs : List Fct) (fn : List He.DefD) (sp : List SupD) (K : PySem.W.Frag) : AlF := ((fs.all fun f => f K) && fn.all fun d => d.ok K, (fn.map fun d => He.fnW K d.at_, sp.map fun d => fnC K d.cls))
def valF (fn : List He.DefD) (sp : List SupD) : AlF := (true, (fn.map He.DefD.val, sp.map SupD.val))
def SaysF (fs : List Fct) (fn : List He.DefD) (sp : List SupD) (K : PySem.W.Frag) : Prop := obsF fs fn sp K = valF fn sp
def obsFG (n : Nat) (fs : List Fct) (fn : List He.DefD) (sp : List SupD) (g : Addr → Option Obj) : AlF := obsF fs fn sp (He.frG g (cStatics :: He.asD g n))
def hookF (n : Nat) (fs : List Fct) (fn : List He.DefD) (sp : List SupD) : PySem.W.Hook where
  α := AlF
  obs := fun s => obsFG n fs fn sp s.heap.get?
  val := fun _ => valF fn sp
  says := fun _ h => ∃ K : PySem.W.Frag, K.In h ∧ SaysF fs fn sp K
  of := fun _ _ e => ⟨_, He.frG_in, e⟩
  keeps := fun _ _ _ ⟨K, hK, c⟩ k => ⟨K, PySem.W.Frag.In.keeps hK k, c⟩
theorem obsFG_eq {n : Nat} {fs : List Fct} {fn : List He.DefD} {sp : List SupD} {g : Addr → Option Obj} {s : Shared} (h : ∀ a, g a = s.heap.get? a) : obsFG n fs fn sp g = (hookF n fs fn sp).obs s := by
  rw [(funext h : g = s.heap.get?)] <;> rfl
section
variable {fs : List Fct} {fn : List He.DefD} {sp : List SupD} {K : PySem.W.Frag}
theorem SaysF.both (c : SaysF fs fn sp K) : (fs.all fun f => f K) = true ∧ (fn.all fun d => d.ok K) = true := Bool.and_eq_true_iff.mp (congrArg (fun z : AlF => z.1) c)
theorem SaysF.fact (c : SaysF fs fn sp K) (i : Nat) {f : Fct} (h : fs[i]? = some f := by rfl) : f K = true := List.all_eq_true.mp c.both.1 f (List.mem_of_getElem? h)
theorem SaysF.def_ (c : SaysF fs fn sp K) (i : Nat) {d : He.DefD} (h : fn[i]? = some d := by rfl) : ∃ fd, FunD K d.name d.qual d.params d.body d.scope (d.dvs K) (d.kws K) (He.fAd K d.at_) fd := by
  have e : (fn.map fun d => He.fnW K d.at_)[i]? = (fn.map He.DefD.val)[i]? := by rw [show fn.map (fun d => He.fnW K d.at_) = fn.map He.DefD.val from congrArg (fun z : AlF => z.2.1) c]
  rw [List.getElem?_map, List.getElem?_map, h] at e
  exact He.DefD.funD (Option.some.inj e) (List.all_eq_true.mp c.both.2 d (List.mem_of_getElem? h))
theorem SaysF.sup (c : SaysF fs fn sp K) (i : Nat) {d : SupD} (h : sp[i]? = some d := by rfl) : fnC K d.cls = d.val := by
  have e : (sp.map fun d => fnC K d.cls)[i]? = (sp.map SupD.val)[i]? := by rw [show sp.map (fun d => fnC K d.cls) = sp.map SupD.val from congrArg (fun z : AlF => z.2.2) c]
  rw [List.getElem?_map, List.getElem?_map, h] at e
  exact Option.some.inj e
end
/-- a def of the module, without defaults -/
abbrev defd (x : Str) (st : Stmt) : He.DefD := ⟨(x, none), x, x, defArgs st, defBody st, defScope st, [], []⟩
/-- a method of an own class -/
abbrev defm (C x y : Str) (st : Stmt) : He.DefD := ⟨(C, some x), x, y, defArgs st, defBody st, defScope st, [], []⟩
/-! ### facts -/
def gloF (x : Str) : Fct := fun K => (He.Fa.glo x).ok K
def freeF (x : Str) : Fct := fun K => (He.Fa.free x).ok K
def strF (x z : Str) : Fct := fun K => (He.Fa.str x z).ok K
def intF (x : Str) (i : Int) : Fct := fun K => (He.Fa.int x i).ok K
def isB (K : PySem.W.Frag) (D : Addr) : Bool := (PySem.W.clsIn K D).isSome && (decide (PySem.W.findIn K (.ref D) "__getattribute__" = some (some (.builtin "BaseException.__getattribute__"))) && (decide (PySem.W.findIn K (.ref D) "__getattr__" = some none) &&
  (decide (PySem.W.subIn K (.ref D) (.type "BaseException") = some true) && (decide (PySem.W.findIn K (.ref D) "__class__" = some (some (.builtin "object.__class__"))) && (decide (PySem.W.specialIn K (.builtin "object.__class__") "__get__" = some (some (.builtin "getset_descriptor.__get__"))) &&
  (decide (PySem.W.takesIn K (.builtin "object.__class__") = some true) && decide (PySem.W.mroIn K D (.type "object") = some true)))))))
theorem isB_ok {K : PySem.W.Frag} {D : Addr} (h : isB K D = true) : IsC K D := by
  unfold isB at h
  simp only [Bool.and_eq_true, decide_eq_true_eq] at h
  obtain ⟨a, b, c, d, e, f, g, i⟩ := h
  exact ⟨a, b, c, d, e, f, g, i⟩
def clsF (base : List Value) (newId : String) (x : Str) : Fct := fun K => (He.Fa.glo x).ok K && (PySem.W.keepIn K (.ref (He.ga K x)) && (decide (PySem.W.subIn K (.ref (He.ga K x)) (.type "BaseException") = some true) && (decide (PySem.W.typeIn K (.ref (He.ga K x)) = some (.type "type")) &&
  (isB K (He.ga K x) && PySem.W.excIn K (He.ga K x) base newId))))
/-- which class is which, in except clauses -/
def emF (cl : List Str) : Fct := fun K => cl.zipIdx.all fun x => cl.zipIdx.all fun y => decide (PySem.W.exmOne K (.ref (He.ga K y.1)) (.ref (He.ga K x.1)) = some (Nat.beq x.2 y.2))
def kitF (x : Str) (cv : PySem.W.Frag → Value) (b : Bool) : Fct := fun K => decide (PySem.W.kitOne K (.ref (He.ga K x)) (cv K) = some b)
theorem kit_ok {x : Str} {cv : PySem.W.Frag → Value} {b : Bool} {K : PySem.W.Frag} (h : kitF x cv b K = true) : PySem.W.kitOne K (.ref (He.ga K x)) (cv K) = some b := of_decide_eq_true h
/-- names: of exceptions' fields by the class, of instances' fields; classes with instances -/
structure Nm where
  su : List (Nat × Str)
  fl : List Str
  ic : List Nat
def nfB (fl : List Str) (n : Nat) : Bool := decide fl.Nodup && (Nat.ble 1000 n && Nat.blt (n - 1000) fl.length)
def fldB (su : Nm) (n : Nat) : Str := match Nat.ble 1000 n with
  | true => su.fl.getD (n - 1000) ""
  | false => (su.su.lookup n).getD ""
theorem fldB_inj (su : Nm) (a b : Nat) (h1 : nfB su.fl a = true) (h2 : nfB su.fl b = true) (e : fldB su a = fldB su b) : a = b := by
  unfold nfB at h1 h2
  rw [Bool.and_eq_true, Bool.and_eq_true, decide_eq_true_eq] at h1 h2
  obtain ⟨nd, a1, a2⟩ := h1
  obtain ⟨_, b1, b2⟩ := h2
  unfold fldB at e
  rw [a1, b1] at e
  have a1 := Nat.le_of_ble_eq_true a1
  have b1 := Nat.le_of_ble_eq_true b1
  have a2 := Nat.blt_eq.mp a2
  have b2 := Nat.blt_eq.mp b2
  simp only [List.getD_eq_getElem?_getD, List.getElem?_eq_getElem a2, List.getElem?_eq_getElem b2, Option.getD_some] at e
  have w := List.pairwise_iff_getElem.mp nd
  rcases Nat.lt_trichotomy (a - 1000) (b - 1000) with l | l | l
  · exact absurd e (w _ _ a2 b2 l)
  · omega
  · exact absurd e.symm (w _ _ b2 a2 l)
/-- the reading of values: o, the script if it is an object of the module; su: the classes with a field -/
def gm (K : PySem.W.Frag) (cl : List Str) (su : Nm) (o : Option Addr) : GM := ⟨fun f => match f with | 0 => o | _ + 1 => none, fun c => (cl[c]?).map (He.ga K), fldB su, fun c => match su.su.lookup c with | some _ => [c] | none => [], nfB su.fl, fun c => su.ic.contains c, fldB_inj su⟩
/-- facts of instances -/
def clF (x : Str) : Fct := fun K => (He.Fa.cls x).ok K
def mkF (x : Str) : Fct := fun K => (He.Fa.mkr x).ok K
def meF (x m : Str) : Fct := fun K => (He.Fa.meth x m).ok K
def attF (cl : List Str) (ic : List Nat) (f : Str) : Fct := fun K => ic.all fun c => match cl[c]? with
  | some x => (He.Fa.cls x).ok K && (He.Fa.noat x f).ok K
  | none => true
theorem insc_of {K : PySem.W.Frag} {h : Heap} {mg : Str → Option Value} {cl : List Str} {su : Nm} {o : Option Addr} {x : Str} {c : Nat} (X : K.In h) (N : h.Ns mainGlobals mg) (hc : cl[c]? = some x) (hi : su.ic.contains c = true) (f1 : gloF x K = true) (f2 : clF x K = true) : InsC K mg (gm K cl su o) x c (He.ga K x) :=
  ⟨He.glo_ok X N f1, by show (cl[c]?).map (He.ga K) = _; rw [hc] <;> rfl, hi, He.cls_ok f2⟩
theorem atf_of {K : PySem.W.Frag} {cl : List Str} {su : Nm} {o : Option Addr} {j : Nat} {f : Str} (h1 : nfB su.fl j = true) (h2 : fldB su j = f) (h3 : attF cl su.ic f K = true) : AtF K (gm K cl su o) j f :=
  ⟨h1, h2, fun c C gi gc => by
    have gi : su.ic.contains c = true := gi
    have gc : (cl[c]?).map (He.ga K) = some C := gc
    have m : c ∈ su.ic := by simpa using gi
    have z := List.all_eq_true.mp h3 c m
    cases q : cl[c]? with
    | none => rw [q] at gc; cases gc
    | some x =>
      rw [q] at gc
      have gc : He.ga K x = C := Option.some.inj gc
      subst gc
      simp only [q] at z
      obtain ⟨z1, z2⟩ := Bool.and_eq_true_iff.mp z
      exact ⟨He.cls_ok z1, He.noat_ok z2⟩⟩
/-- of every own error class -/
def clsG (x : Str) : Fct := fun K => (He.Fa.glo x).ok K && (PySem.W.keepIn K (.ref (He.ga K x)) && (decide (PySem.W.subIn K (.ref (He.ga K x)) (.type "BaseException") = some true) && (decide (PySem.W.typeIn K (.ref (He.ga K x)) = some (.type "type")) && isB K (He.ga K x))))
theorem exk_of {K : PySem.W.Frag} {h : Heap} {mg : Str → Option Value} {cl : List Str} {su : Nm} {o : Option Addr} {x : Str} {c : Nat} (X : K.In h) (N : h.Ns mainGlobals mg) (hc : cl[c]? = some x) (f : clsG x K = true) (em : emF cl K = true) : ExK K mg (gm K cl su o) x c (He.ga K x) := by
  unfold clsG at f
  simp only [Bool.and_eq_true, decide_eq_true_eq] at f
  obtain ⟨f1, f2, f3, f4, f5⟩ := f
  refine ⟨He.glo_ok X N f1, ?_, f2, f3, f4, isB_ok f5, fun c' D e => ?_⟩
  · show (cl[c]?).map (He.ga K) = _
    rw [hc] <;> rfl
  · have e : (cl[c']?).map (He.ga K) = some D := e
    cases q : cl[c']? with
    | none => rw [q] at e; cases e
    | some y =>
      rw [q] at e
      have e : He.ga K y = D := Option.some.inj e
      subst e
      have m1 : (x, c) ∈ cl.zipIdx := List.mem_iff_getElem?.mpr ⟨c, by rw [List.getElem?_zipIdx, hc]; simp⟩
      have m2 : (y, c') ∈ cl.zipIdx := List.mem_iff_getElem?.mpr ⟨c', by rw [List.getElem?_zipIdx, q]; simp⟩
      exact of_decide_eq_true (List.all_eq_true.mp (List.all_eq_true.mp em _ m1) _ m2)
theorem ex0_of {K : PySem.W.Frag} {h : Heap} {mg : Str → Option Value} {cl : List Str} {su : Nm} {o : Option Addr} {x : Str} {c : Nat} {base : List Value} {B newId initId : String} (X : K.In h) (N : h.Ns mainGlobals mg) (FB : ExcBaseFacts B newId initId base) (hc : cl[c]? = some x) (f : clsF base newId x K = true) (em : emF cl K = true) (hs : su.su.lookup c = none := by rfl) :
    Ex0 K mg (gm K cl su o) x c (He.ga K x) := by
  unfold clsF at f
  simp only [Bool.and_eq_true, decide_eq_true_eq] at f
  obtain ⟨f1, f2, f3, f4, f5, f6⟩ := f
  refine ⟨exk_of X N hc ?_ em, ?_, ⟨B, newId, initId, base, FB, f6⟩⟩
  · unfold clsG
    simp only [Bool.and_eq_true, decide_eq_true_eq]
    exact ⟨f1, f2, f3, f4, f5⟩
  · show (match su.su.lookup c with | some _ => [c] | none => []) = _
    rw [hs]
/-- of a class with super().__init__ -/
def supF (x nm file : Str) : Fct := fun K =>
  let C := He.ga K x
  let fI := He.ma K C "__init__"
  decide (PySem.W.findIn K (.ref C) "__init__" = some (some (.ref fI))) && (decide (PySem.W.typeIn K (.ref fI) = some (.type "function")) && ((match K.lookup fI with
    | some ⟨_, _, .func fd, _⟩ => (match fd.closure with
      | [p] => (match fd.code with
        | .ref cda => decide (fd.defaults = .none) && (PySem.W.codeIn K (.ref cda) fd.qualname && ((match K.lookup cda with
          | some ⟨_, _, .fields vs, _⟩ => (match (vs[2]? : Option Value) with
            | some (Value.str f _) => decide (f = file)
            | _ => false)
          | _ => false) && (match K.lookup p.2 with
          | some ⟨_, _, .cell (some (.ref D)), _⟩ => decide (D = C)
          | _ => false)))
        | _ => false)
      | _ => false)
    | _ => false) && ((PySem.W.clsIn K C).isSome && (decide (PySem.W.mroIn K C (.ref C) = some true) && (decide (PySem.W.nsIn K cStatics "thirdparty.any" = some none) && (decide (PySem.W.ks_superIn K C C "__init__" = some (some (.builtin "LookupError.__init__"))) &&
  (decide (PySem.W.subIn K (.ref C) (.type "LookupError") = some true) && (PySem.W.excInitIn K C leBase "LookupError.__new__" && (decide (PySem.W.findIn K (.ref C) "__setattr__" = some (some (.builtin "object.__setattr__"))) && (PySem.W.excOver K C leBase && (decide (PySem.W.takerIn K C nm = some none) &&
  (PySem.W.hasDictIn K C && (xfB K C && (decide (PySem.W.findIn K (.ref C) nm = some none) && decide (PySem.W.nsIn K mainGlobals "super" = some none)))))))))))))))
theorem exs_of {PM : Program} {K : PySem.W.Frag} {h : Heap} {mg : Str → Option Value} {cl : List Str} {su : Nm} {o : Option Addr} {c : Nat} {d : SupD} {file : Str} {p0 p1 p2 p3 p4 p5 p6 p7 p8 p9 : Pos} (X : K.In h) (N : h.Ns mainGlobals mg) (hc : cl[c]? = some d.cls) (f : clsG d.cls K = true) (em : emF cl K = true)
    (hs : su.su.lookup c = some d.nm) (h9 : Nat.ble 1000 c = false) (f2 : supF d.cls d.nm file K = true) (e : fnC K d.cls = d.val) (hf : ((PM.main.file : Str) == file) = true) (top : (PM.main.scope.names.lookup ("super" : Str)).isSome = false)
    (hb : defBody d.st = supBody d.sf d.pl d.nm p0 p1 p2 p3 p4 p5 p6 p7 p8 p9) (sc : SupSc (defScope d.st) d.sf d.pl d.nm p0 p1 p2 p3 p4 p5 p6 p7 p8 p9) (ha : ∃ ar, ((defArgs d.st).posonlyargs ++ (defArgs d.st).args).head? = some ar ∧ ar.arg = d.sf)
    (bd : ∀ (kV doc pm : Value) (an : Option Addr) (cdv ct : Value) (cc : Addr) (y u : Value), bindArgs (PySem.W.ksFn "__init__" d.qual (defArgs d.st) (defBody d.st) (defScope d.st) .none kV doc pm an cdv ct cc) ⟨[y, u], []⟩ = pure [(d.sf, y), (d.pl, u)]) :
    ExS PM K mg (gm K cl su o) d.cls d.nm c (He.ga K d.cls) := by
  unfold supF at f2
  simp only [Bool.and_eq_true, decide_eq_true_eq] at f2
  obtain ⟨a1, a2, a3, a4, a5, a6, a7, a8, a9, a10, a11, a12, a13, a14, a15, a16⟩ := f2
  refine ⟨exk_of X N hc f em, ?_, ?_, xfB_ok a14, a15, PySem.W.mg_none_of X N a16, ?_⟩
  · show (match su.su.lookup c with | some _ => [c] | none => []) = _
    rw [hs]
  · show fldB su c = _
    unfold fldB
    rw [h9]
    show (su.su.lookup c).getD "" = _
    rw [hs]; rfl
  · have e0 : (match K.lookup (He.ma K (He.ga K d.cls) "__init__") with
      | some ⟨_, _, .func fd, _⟩ => (some (fd.name, fd.qualname, fd.params, fd.body, fd.scope, fd.globals, fd.closure.map (fun c => (c.1, 0)), fd.builtins) : He.FnW)
      | _ => none) = d.val := e
    cases q : K.lookup (He.ma K (He.ga K d.cls) "__init__") with
    | none => rw [q] at e0; cases e0
    | some ob =>
      obtain ⟨oc, od, dt, osl⟩ := ob
      rw [q] at e0 a3
      cases dt with
      | func fd =>
        obtain ⟨n1, n2, n3, n4, n5, n6, n7, n8, n9, n10, n11, n12, n13, n14, n15⟩ := fd
        have e2 : (some (n1, n2, n3, n4, n5, n6, n7.map (fun c => (c.1, 0)), n15) : He.FnW) = (some ("__init__", d.qual, defArgs d.st, .stmts (defBody d.st), defScope d.st, mainGlobals, [("__class__", 0)], builtinsNs) : He.FnW) := e0
        simp only [Option.some.injEq, Prod.mk.injEq] at e2
        obtain ⟨h1, h2, h3, h4, h5, h6, h7, h8⟩ := e2
        subst h1 h2 h3 h4 h5 h6 h8
        match n7, n13, h7, a3 with
        | [p], .ref cda, h7, a3 =>
          obtain ⟨pn, cc⟩ := p
          simp only [List.map_cons, List.map_nil, List.cons.injEq, Prod.mk.injEq, and_true] at h7
          subst h7
          simp only [Bool.and_eq_true, decide_eq_true_eq] at a3
          obtain ⟨b1, b2, b3, b4⟩ := a3
          have b1 : n8 = Value.none := b1
          subst b1
          refine ⟨_, cc, cda, _, d.sf, d.pl, ⟨⟨"__init__", _, _, p0, p1, p2, p3, p4, p5, p6, p7, p8, p9, _, .none, n9, n10, n11, n12, n14, oc, od, osl, ?_, q, b2, sc, ha⟩, ?_, ?_, Option.isSome_iff_exists.mp a4, a5, top, a6, a7, a8, a9, a10, a11, a12, a13⟩, a1, a2, fun s y u => .of_eq (bd n9 n10 n11 n12 (.ref cda) n14 cc y u)⟩
          · rw [← hb]
          · split at b3
            · rename_i ccl cdd vs ccs ho
              split at b3
              · rename_i fl tf hv
                have ef : fl = file := of_decide_eq_true b3
                exact ⟨ccl, cdd, vs, ccs, fl, tf, ho, hv, by rw [ef]; exact hf⟩
              · cases b3
            · cases b3
          · split at b4
            · rename_i a b D sl ho
              have eD : D = He.ga K d.cls := of_decide_eq_true b4
              subst eD
              exact ⟨a, b, sl, ho⟩
            · cases b4
      | _ => cases e0
/-- one of the functions that a def's facts tell of -/
noncomputable def fdOf (K : PySem.W.Frag) (ne : Nonempty FuncData) (d : He.DefD) : FuncData := @Classical.epsilon FuncData ne fun fd => FunD K d.name d.qual d.params d.body d.scope [] [] (He.fAd K d.at_) fd
theorem fdOf_ok {K : PySem.W.Frag} {ne : Nonempty FuncData} {d : He.DefD} (h : ∃ fd, FunD K d.name d.qual d.params d.body d.scope [] [] (He.fAd K d.at_) fd) : FunD K d.name d.qual d.params d.body d.scope [] [] (He.fAd K d.at_) (fdOf K ne d) :=
  @Classical.epsilon_spec FuncData (fun fd => FunD K d.name d.qual d.params d.body d.scope [] [] (He.fAd K d.at_) fd) h
section
variable {PM : Program} {w : World} {K : PySem.W.Frag} {mg : Str → Option Value} {base : Heap} {CX : CXT} {k : Nat} {fa : Addr} {fd : FuncData} {ps : List Str}
theorem fn_or {s1 s2 : Sp} (h1 : FnOk PM w K mg base CX k fa fd ps s1) (h2 : FnOk PM w K mg base CX k fa fd ps s2) : FnOk PM w K mg base CX k fa fd ps (fun vs H Q E => s1 vs H Q E ∨ s2 vs H Q E) :=
  ⟨fun vs H Q E h => h.elim (h1.len vs H Q E) (h2.len vs H Q E), fun A outer s H args us vs Q E a b c d h => h.elim (h1.run A outer s H args us vs Q E a b c d) (h2.run A outer s H args us vs Q E a b c d)⟩
theorem fn_ex {α : Type} {C : α → Prop} {s : α → Sp} (h1 : ∀ a, C a → FnOk PM w K mg base CX k fa fd ps (s a)) : FnOk PM w K mg base CX k fa fd ps (fun vs H Q E => ∃ a, C a ∧ s a vs H Q E) :=
  ⟨fun vs H Q E ⟨a, ca, h⟩ => (h1 a ca).len vs H Q E h, fun A outer s H args us vs Q E a b c d ⟨x, cx, h⟩ => (h1 x cx).run A outer s H args us vs Q E a b c d h⟩
/-- a def that is called with nothing promised -/
theorem fn_none {G : GM} {P : FE.Prog} {n f : Nat} (h : P.fns f = none) : FnOk PM w K mg base (L2.CX PM w) k fa fd ps (SpF G K P (n + 1) f) :=
  have no : ∀ {vs : List V} {H : Hp} {Q : VK} {E : XK}, SpF G K P (n + 1) f vs H Q E → False := fun ⟨ρ, h', k, kx, ws, _, _, run, _⟩ => by
    obtain ⟨fn, e, _⟩ := callN_inv run
    rw [h] at e; cases e
  ⟨fun vs H Q E h => (no h).elim, fun A outer s H args us vs Q E _ _ _ _ h => (no h).elim⟩
theorem fn_imp {s1 s2 : Sp} (h : FnOk PM w K mg base CX k fa fd ps s1) (i : ∀ vs H Q E, s2 vs H Q E → s1 vs H Q E) : FnOk PM w K mg base CX k fa fd ps s2 :=
  ⟨fun vs H Q E z => h.len vs H Q E (i _ _ _ _ z), fun A outer s H args us vs Q E a b c d z => h.run A outer s H args us vs Q E a b c d (i _ _ _ _ z)⟩
end
/-- a def that lets nothing out -/
theorem fn_quiet {PM : Program} {w : World} {K : PySem.W.Frag} {mg : Str → Option Value} {base : Heap} {k : Nat} {fa : Addr} {fd : FuncData} {ps : List Str} {sp : Sp} (F : FnOk PM w K mg base (L2.CX PM w) k fa fd ps sp) :
    FnOk PM w K mg base (fun _ _ _ _ _ _ => False) k fa fd ps (fun vs H Q _ => sp vs H Q fun _ _ _ => False) :=
  ⟨fun vs H Q E h => F.len _ _ _ _ h, fun A outer s H args us vs Q E a b c d h => codeAny_mono (F.run A outer s H args us vs Q (fun _ _ _ => False) a b c d h) fun r s' q => by
    cases r with
    | error e => exact (let ⟨_, _, _, _, _, _, _, _, _, _, _, _, z⟩ := q; z)
    | ok fl => cases fl <;> exact q⟩
/-! ### the law -/
/-- what the law's def promises: either way that the script may stand -/
def spLaw (K : PySem.W.Frag) (cl : List Str) (su : Nm) (P : FE.Prog) (law : Nat) : Sp := fun vs H Q E => SpF (gm K cl su none) K P LEVEL law vs H Q E ∨ ∃ a, ScrK (gm K cl su (some a)) K ∧ SpF (gm K cl su (some a)) K P LEVEL law vs H Q E
theorem ba_s {f : Nat → B} {n : Nat} (h : belowAll f n = true) (g : f n = true) : belowAll f (n + 1) = true := by
  show (match f n with | true => belowAll f n | false => false) = true
  rw [g]; exact h
theorem law_run {K : PySem.W.Frag} {cl : List Str} {su : Nm} {P : FE.Prog} {law : Nat} (r1 : runLaw P law = true) (r2 : runLaw2 P law = true) {H : Hp} {a : Addr} {ns : List Int} (hl : ns.length ≤ 63) (sq : SqL K H a (ns.map V.int)) : spLaw K cl su P law [.ref a] H (fun v _ => v = .bl true) (fun _ _ _ => False) := by
  have good : ∀ {G : GM} {ρ : Rho}, Fin G K ρ H (fun w _ => isTrueW w) (fun v _ => v = .bl true) := fun {G ρ} w h' v H' ρ' e _ _ r => by
    cases r with
    | bl b => cases b with
      | true => rfl
      | false => cases e
    | _ => cases e
  by_cases z : H a = none
  · refine .inr ⟨a, fun a' e => ?_, ?_⟩
    · have e : some a = some a' := e
      cases e
      refine ⟨ns, fun H' => ?_, hl⟩
      rcases sq with (q | ⟨o, q⟩) | q
      · rw [z] at q; cases q
      · rw [z] at q; cases q
      · exact .inr q
    · refine ⟨fun _ => none, ⟨1, .nil⟩, _, _, [.fn 0], ⟨fun n o q => (by cases q), fun n m a e => (by cases e), fun n _ => ⟨rfl, rfl⟩, (by decide), fun n a e => (by cases e)⟩, .cons (.fn rfl) .nil, r2, good, fun c us h' cl d H' ρ' e => by cases e⟩
  · refine .inl ⟨fun n => if n = 0 then some a else none, ⟨1, T.put .cells 40 .nil 0⟩, _, _, [.ob 0], ⟨fun n o q => ?_, fun n m b e1 e2 => ?_, fun n hn => ?_, by decide, fun n b e => ?_⟩, .cons (.ob rfl) .nil, r1, good, fun c us h' cl d H' ρ' e => by cases e⟩
    · have q : T.get (T.put .cells 40 .nil 0) n = some o := q
      rw [T.get_put _ _ _ _ _ (by decide)] at q
      by_cases y : n = 0
      · subst y
        rw [if_pos rfl] at q
        cases q
        exact ⟨a, rfl, z, ns, sq, hl⟩
      · rw [if_neg y] at q; cases q
    · by_cases y1 : n = 0
      · by_cases y2 : m = 0
        · rw [y1, y2]
        · rw [if_neg y2] at e2; cases e2
      · rw [if_neg y1] at e1; cases e1
    · have hn : 1 ≤ n := hn
      have y : n ≠ 0 := by omega
      refine ⟨if_neg y, ?_⟩
      show T.get (T.put .cells 40 .nil 0) n = none
      rw [T.get_put _ _ _ _ _ (by decide), if_neg y]; rfl
    · by_cases y : n = 0
      · rw [if_pos y] at e; cases e; exact z
      · rw [if_neg y] at e; cases e
end FE
end
section
set_option Elab.async false
set_option linter.all false
set_option maxRecDepth 100000
set_option maxHeartbeats 4000000
namespace K09
open PySem PySem.Spec PyProof.Rows L2 FE
abbrev topS (i : Nat) : Stmt := PySem.Challenge.pw_fewanswers_k09_answers_by_hand_and_refus.main.body.getD i (.Pass ⟨0, 0, 0, 0⟩)
noncomputable section
/-- is_number: thing -/
def b0 (C : CallT) : Stm :=
  (bCons (sRet (cAnd (cIsb (cVar 0) [.int]) (cNot (cIsb (cVar 0) [.bool])))) bNil)
/-- is_below: thing many -/
def b1 (C : CallT) : Stm :=
  (bCons (sRet (cAnd (cCall C 0 (aOne (cVar 0) aNil)) (cCmp2 .le .lt (cCon (.int (.ofNat 0))) (cVar 0) (cVar 1)))) bNil)
/-- is_tuple_of: thing many -/
def b2 (C : CallT) : Stm :=
  (bCons (sRet (cAnd (cIsb (cVar 0) [.tuple]) (cCmp .eq (cLen (cVar 0)) (cVar 1)))) bNil)
/-- tuple_of: thing part -/
def b3 (C : CallT) : Stm :=
  (bCons (sIte (tVal (cIsb (cVar 0) [.list, .tuple])) (bCons (sRet (cBf .tuple (sLc [1] (gSlot 1) (iSeq (cVar 0)) tYes (cCall C 3 (aOne (cVar 1) aNil))))) bNil) bNil) (bCons (sRet (cVar 0)) bNil))
/-- sure: good -/
def b4 (C : CallT) : Stm :=
  (bCons (sIte (tNot (tVal (cVar 0))) (bCons (sRaise 0 aNil) bNil) bNil) bNil)
/-- is_number_set: thing many near far own -/
def b5 (C : CallT) : Stm :=
  (bCons (sIte (tOr (tNot (tVal (cIsb (cVar 0) [.tuple]))) (tNot (tVal (cBf .all (sLc [4] (gSlot 4) (iSeq (cVar 0)) tYes (cCall C 1 (aOne (cVar 4) (aOne (cVar 1) aNil)))))))) (bCons (sRet (cCon (.bl false))) bNil) bNil) (bCons (sRet (cBf .all (sLc [2, 3] (gTupN 2 (gCons (gSlot 2) (gCons (gSlot 3) gNil))) (iZip (cVar 0) (cSlc (cVar 0) (cIntO (cCon (.int (.ofNat 1)))) (cCon .non))) tYes (cCmp .lt (cVar 2) (cVar 3))))) bNil))
/-- is_sign_name: thing own -/
def b6 (C : CallT) : Stm :=
  (bCons (sRet (cAnd (cIsb (cVar 0) [.str]) (cAnd (cCmp2 .lt .le (cCon (.int (.ofNat 0))) (cLen (cVar 0)) (cCon (.int (.ofNat 8)))) (cBf .all (sLc [1] (gSlot 1) (iSeq (cVar 0)) tYes (cCmp .inn (cVar 1) (cCon (.str [97, 98, 99, 100, 101, 102, 103, 104, 105, 106, 107, 108, 109, 110, 111, 112, 113, 114, 115, 116, 117, 118, 119, 120, 121, 122])))))))) bNil)
/-- is_sign: thing -/
def b7 (C : CallT) : Stm :=
  (bCons (sIte (tOr (tNot (tVal (cCall C 2 (aOne (cVar 0) (aOne (cCon (.int (.ofNat 3))) aNil))))) (tOr (tNot (tVal (cCall C 6 (aOne (cIdx (cVar 0) (cCon (.int (.ofNat 0)))) aNil)))) (tNot (tVal (cIsb (cIdx (cVar 0) (cCon (.int (.ofNat 1)))) [.str]))))) (bCons (sRet (cCon (.bl false))) bNil) bNil) (bCons (sIte (tCmp .eq (cIdx (cVar 0) (cCon (.int (.ofNat 1)))) (cCon (.str [112, 108, 97, 105, 110]))) (bCons (sRet (cCall C 1 (aOne (cIdx (cVar 0) (cCon (.int (.ofNat 2)))) (aOne (cBin .add (cCon (.int (.ofNat 3))) (cCon (.int (.ofNat 1)))) aNil)))) bNil) bNil) (bCons (sRet (cAnd (cCmp .inn (cIdx (cVar 0) (cCon (.int (.ofNat 1)))) (cTup (aOne (cCon (.str [115, 119, 97, 112])) (aOne (cCon (.str [98, 97, 103])) aNil)))) (cAnd (cCall C 0 (aOne (cIdx (cVar 0) (cCon (.int (.ofNat 2)))) aNil)) (cCmp .eq (cIdx (cVar 0) (cCon (.int (.ofNat 2)))) (cCon (.int (.ofNat 2))))))) bNil)))
/-- is_book: thing near far own -/
def b8 (C : CallT) : Stm :=
  (bCons (sIte (tOr (tNot (tVal (cIsb (cVar 0) [.tuple]))) (tOr (tNot (tCmp2 .lt .le (cCon (.int (.ofNat 0))) (cLen (cVar 0)) (cCon (.int (.ofNat 8))))) (tNot (tVal (cBf .all (sLc [3] (gSlot 3) (iSeq (cVar 0)) tYes (cCall C 7 (aOne (cVar 3) aNil)))))))) (bCons (sRet (cCon (.bl false))) bNil) bNil) (bCons (sRet (cBf .all (sLc [1, 2] (gTupN 2 (gCons (gSlot 1) (gCons (gSlot 2) gNil))) (iZip (cVar 0) (cSlc (cVar 0) (cIntO (cCon (.int (.ofNat 1)))) (cCon .non))) tYes (cCmp .lt (cIdx (cVar 1) (cCon (.int (.ofNat 0)))) (cIdx (cVar 2) (cCon (.int (.ofNat 0)))))))) bNil))
/-- sure_book: book own -/
def b9 (C : CallT) : Stm :=
  (bCons (sAsg (gSlot 1) (cCall C 3 (aOne (cVar 0) aNil))) (bCons (sEx (cCall C 4 (aOne (cCall C 8 (aOne (cVar 1) aNil)) aNil))) (bCons (sRet (cVar 1)) bNil)))
/-- signs_of: book name kind many -/
def b10 (C : CallT) : Stm :=
  (bCons (sRet (sDc [1, 2, 3] (gTupN 3 (gCons (gSlot 1) (gCons (gSlot 2) (gCons (gSlot 3) gNil)))) (iSeq (cVar 0)) tYes (cVar 1) (cTup (aOne (cVar 2) (aOne (cVar 3) aNil))))) bNil)
/-- parts_fit: signs thing good kind many -/
def b11 (C : CallT) : Stm :=
  (bCons (sIte (tVal (cCall C 0 (aOne (cVar 1) aNil))) (bCons (sRet (cIte (tVal (cCall C 1 (aOne (cVar 1) (aOne (cCon (.int (.ofNat 100))) aNil)))) (cTup aNil) (cCon .non))) bNil) bNil) (bCons (sIte (tOr (tNot (tVal (cCall C 2 (aOne (cVar 1) (aOne (cCon (.int (.ofNat 2))) aNil))))) (tOr (tNot (tVal (cIsb (cIdx (cVar 1) (cCon (.int (.ofNat 0)))) [.str]))) (tNot (tVal (cIsb (cIdx (cVar 1) (cCon (.int (.ofNat 1)))) [.tuple]))))) (bCons (sRet (cCon .non)) bNil) bNil) (bCons (sIte (tCmp .notin (cIdx (cVar 1) (cCon (.int (.ofNat 0)))) (cVar 0)) (bCons (sRet (cCon .non)) bNil) bNil) (bCons (sAsg (gTupN 2 (gCons (gSlot 3) (gCons (gSlot 4) gNil))) (cIdx (cVar 0) (cIdx (cVar 1) (cCon (.int (.ofNat 0)))))) (bCons (sAsg (gSlot 2) (cIte (tCmp .eq (cVar 3) (cCon (.str [98, 97, 103]))) (cCmp .ge (cLen (cIdx (cVar 1) (cCon (.int (.ofNat 1))))) (cVar 4)) (cCmp .eq (cLen (cIdx (cVar 1) (cCon (.int (.ofNat 1))))) (cVar 4)))) (bCons (sRet (cIte (tVal (cVar 2)) (cIdx (cVar 1) (cCon (.int (.ofNat 1)))) (cCon .non))) bNil))))))
/-- is_term_by: signs thing line parts -/
def b12 (C : CallT) : Stm :=
  (bCons (sAsg (gSlot 2) (cLst (aOne (cVar 1) aNil))) (bCons (sWhl (tCmp .ne (cVar 2) (cLst aNil)) (bCons (sAsg (gSlot 3) (cCall C 11 (aOne (cVar 0) (aOne (cLm .pop (cVar 2) aNil) aNil)))) (bCons (sIte (tCmp .is (cVar 3) (cCon .non)) (bCons (sRet (cCon (.bl false))) bNil) bNil) (bCons (sEx (cLm .extend (cVar 2) (aOne (cBf .list (cSeqOf (cVar 3))) aNil))) bNil)))) (bCons (sRet (cCon (.bl true))) bNil)))
/-- sure_term: book term own -/
def b13 (C : CallT) : Stm :=
  (bCons (sAsg (gSlot 2) (cCall C 3 (aOne (cVar 1) aNil))) (bCons (sEx (cCall C 4 (aOne (cCall C 12 (aOne (cCall C 10 (aOne (cVar 0) aNil)) (aOne (cVar 2) aNil))) aNil))) (bCons (sRet (cVar 2)) bNil)))
/-- sure_equations: book equations own signs pair term -/
def b14 (C : CallT) : Stm :=
  (bCons (sAsg (gSlot 2) (cCall C 3 (aOne (cVar 1) aNil))) (bCons (sEx (cCall C 4 (aOne (cAnd (cIsb (cVar 2) [.tuple]) (cBf .all (sLc [4] (gSlot 4) (iSeq (cVar 2)) tYes (cCall C 2 (aOne (cVar 4) (aOne (cCon (.int (.ofNat 2))) aNil)))))) aNil))) (bCons (sAsg (gSlot 3) (cCall C 10 (aOne (cVar 0) aNil))) (bCons (sEx (cCall C 4 (aOne (cBf .all (sLc2 [4, 5] (gSlot 4) (iSeq (cVar 2)) tYes [5] (gSlot 5) (iSeq (cVar 4)) tYes (cCall C 12 (aOne (cVar 3) (aOne (cVar 5) aNil))))) aNil))) (bCons (sRet (cVar 2)) bNil)))))
/-- parts_in: own -/
def b15 (C : CallT) : Stm :=
  (bCons (sRet (cIte (tVal (cCall C 0 (aOne (cVar 0) aNil))) (cTup aNil) (cIdx (cVar 0) (cCon (.int (.ofNat 1)))))) bNil)
/-- words_in: signs own below part -/
def b16 (C : CallT) : Stm :=
  (bCons (sIte (tVal (cCall C 0 (aOne (cVar 1) aNil))) (bCons (sRet (cCon (.int (.ofNat 1)))) bNil) bNil) (bCons (sAsg (gSlot 2) (cBf .sum (sLc [3] (gSlot 3) (iSeq (cIdx (cVar 1) (cCon (.int (.ofNat 1))))) tYes (cCall C 16 (aOne (cVar 0) (aOne (cVar 3) aNil)))))) (bCons (sRet (cBin .add (cVar 2) (cIte (tCmp .eq (cIdx (cIdx (cVar 0) (cIdx (cVar 1) (cCon (.int (.ofNat 0))))) (cCon (.int (.ofNat 0)))) (cCon (.str [98, 97, 103]))) (cBin .sub (cLen (cIdx (cVar 1) (cCon (.int (.ofNat 1))))) (cCon (.int (.ofNat 1)))) (cCon (.int (.ofNat 1)))))) bNil)))
/-- walked: own found line path here place part -/
def b17 (C : CallT) : Stm :=
  (bCons (sPar [1, 2] (aOne (cLst aNil) (aOne (cLst (aOne (cTup (aOne (cTup aNil) (aOne (cVar 0) aNil))) aNil)) aNil))) (bCons (sWhl (tCmp .ne (cVar 2) (cLst aNil)) (bCons (sAsg (gTupN 2 (gCons (gSlot 3) (gCons (gSlot 4) gNil))) (cLm .pop (cVar 2) aNil)) (bCons (sEx (cLm .append (cVar 1) (aOne (cTup (aOne (cVar 3) (aOne (cVar 4) aNil))) aNil))) (bCons (sEx (cLm .extend (cVar 2) (aOne (cRevA (cLst (sLc [5, 6] (gTupN 2 (gCons (gSlot 5) (gCons (gSlot 6) gNil))) (iEnum (cCall C 15 (aOne (cVar 4) aNil))) tYes (cTup (aOne (cTup (aStar (cSeqOf (cVar 3)) (aOne (cVar 5) aNil))) (aOne (cVar 6) aNil)))))) aNil))) bNil)))) (bCons (sRet (cVar 1)) bNil)))
/-- unknowns_in: own _ here -/
def b18 (C : CallT) : Stm :=
  (bCons (sRet (cBf .tuple (cSeqOf (cSset (sLc [1, 2] (gTupN 2 (gCons (gSlot 1) (gCons (gSlot 2) gNil))) (iSeq (cCall C 17 (aOne (cVar 0) aNil))) (tVal (cCall C 0 (aOne (cVar 2) aNil))) (cVar 2)))))) bNil)
/-- key_of: signs own behind name parts words keys part key -/
def b19 (C : CallT) : Stm :=
  (bCons (sIte (tVal (cCall C 0 (aOne (cVar 1) aNil))) (bCons (sRet (cTup (aOne (cCon (.int (.ofNat 1))) (aOne (cCon (.int (.ofNat 0))) (aOne (cVar 1) aNil))))) bNil) bNil) (bCons (sAsg (gTupN 2 (gCons (gSlot 3) (gCons (gSlot 4) gNil))) (cVar 1)) (bCons (sPar [5, 6] (aOne (cCall C 16 (aOne (cVar 0) (aOne (cVar 1) aNil))) (aOne (cLst (sLc [7] (gSlot 7) (iSeq (cVar 4)) tYes (cCall C 19 (aOne (cVar 0) (aOne (cVar 7) aNil))))) aNil))) (bCons (sIte (tCmp .ne (cIdx (cIdx (cVar 0) (cVar 3)) (cCon (.int (.ofNat 0)))) (cCon (.str [98, 97, 103]))) (bCons (sRet (cTup (aOne (cVar 5) (aOne (cCon (.int (.ofNat 1))) (aOne (cVar 3) (aOne (cBf .tuple (cSeqOf (cVar 6))) aNil)))))) bNil) bNil) (bCons (sAsg (gSlot 2) (cLst (sLc [7, 8] (gTupN 2 (gCons (gSlot 8) (gCons (gSlot 7) gNil))) (iZip (cVar 6) (cVar 4)) (tAnd (tNot (tVal (cCall C 0 (aOne (cVar 7) aNil)))) (tCmp .gt (cIdx (cVar 7) (cCon (.int (.ofNat 0)))) (cVar 3))) (cVar 8)))) (bCons (sRet (cTup (aOne (cVar 5) (aOne (cCon (.int (.ofNat 1))) (aOne (cVar 3) (aOne (cBf .tuple (cSeqOf (cRevA (cSrt (cVar 2))))) (aOne (cLen (cVar 4)) (aOne (cBf .tuple (cSeqOf (cRevA (cSrt (cVar 6))))) aNil)))))))) bNil))))))
/-- in_order: signs forms _ own -/
def b20 (C : CallT) : Stm :=
  (bCons (sRet (cLst (sLc [2, 3] (gTupN 2 (gCons (gSlot 2) (gCons (gSlot 3) gNil))) (iSeq (cBf .sorted (sLc [3] (gSlot 3) (iSeq (cVar 1)) tYes (cTup (aOne (cCall C 19 (aOne (cVar 0) (aOne (cVar 3) aNil))) (aOne (cVar 3) aNil)))))) tYes (cVar 3)))) bNil)
/-- flat_parts: name parts found part -/
def b21 (C : CallT) : Stm :=
  (bCons (sAsg (gSlot 2) (cLst aNil)) (bCons (sFor (gSlot 3) (iSeq (cVar 1)) (bCons (sIte (tAnd (tNot (tVal (cCall C 0 (aOne (cVar 3) aNil)))) (tCmp .eq (cIdx (cVar 3) (cCon (.int (.ofNat 0)))) (cVar 0))) (bCons (sEx (cLm .extend (cVar 2) (aOne (cBf .list (cSeqOf (cIdx (cVar 3) (cCon (.int (.ofNat 1)))))) aNil))) bNil) (bCons (sEx (cLm .append (cVar 2) (aOne (cVar 3) aNil))) bNil)) bNil)) (bCons (sRet (cVar 2)) bNil)))
/-- formed_by: signs own name parts part -/
def b22 (C : CallT) : Stm :=
  (bCons (sIte (tVal (cCall C 0 (aOne (cVar 1) aNil))) (bCons (sRet (cVar 1)) bNil) bNil) (bCons (sPar [2, 3] (aOne (cIdx (cVar 1) (cCon (.int (.ofNat 0)))) (aOne (cLst (sLc [4] (gSlot 4) (iSeq (cIdx (cVar 1) (cCon (.int (.ofNat 1))))) tYes (cCall C 22 (aOne (cVar 0) (aOne (cVar 4) aNil))))) aNil))) (bCons (sIte (tCmp .eq (cIdx (cIdx (cVar 0) (cVar 2)) (cCon (.int (.ofNat 0)))) (cCon (.str [112, 108, 97, 105, 110]))) (bCons (sRet (cTup (aOne (cVar 2) (aOne (cBf .tuple (cSeqOf (cVar 3))) aNil)))) bNil) bNil) (bCons (sIte (tCmp .eq (cIdx (cIdx (cVar 0) (cVar 2)) (cCon (.int (.ofNat 0)))) (cCon (.str [98, 97, 103]))) (bCons (sAsg (gSlot 3) (cCall C 21 (aOne (cVar 2) (aOne (cVar 3) aNil)))) bNil) bNil) (bCons (sRet (cTup (aOne (cVar 2) (aOne (cBf .tuple (cSeqOf (cCall C 20 (aOne (cVar 0) (aOne (cVar 3) aNil))))) aNil)))) bNil)))))
/-- bag_of: signs name forms some -/
def b23 (C : CallT) : Stm :=
  (bCons (sAsg (gSlot 3) (cCall C 21 (aOne (cVar 1) (aOne (cVar 2) aNil)))) (bCons (sRet (cIte (tCmp .eq (cLen (cVar 3)) (cCon (.int (.ofNat 1)))) (cIdx (cVar 3) (cCon (.int (.ofNat 0)))) (cTup (aOne (cVar 1) (aOne (cBf .tuple (cSeqOf (cCall C 20 (aOne (cVar 0) (aOne (cVar 3) aNil))))) aNil))))) bNil))
/-- is_answer_by: signs thing own near far -/
def b24 (C : CallT) : Stm :=
  (bCons (sIte (tOr (tNot (tVal (cIsb (cVar 1) [.tuple]))) (tNot (tVal (cBf .all (sLc [2] (gSlot 2) (iSeq (cVar 1)) tYes (cCall C 2 (aOne (cVar 2) (aOne (cCon (.int (.ofNat 2))) aNil)))))))) (bCons (sRet (cCon (.bl false))) bNil) bNil) (bCons (sIte (tNot (tVal (cBf .all (sLc [2] (gSlot 2) (iSeq (cVar 1)) tYes (cAnd (cCall C 1 (aOne (cIdx (cVar 2) (cCon (.int (.ofNat 0)))) (aOne (cCon (.int (.ofNat 100))) aNil))) (cCall C 12 (aOne (cVar 0) (aOne (cIdx (cVar 2) (cCon (.int (.ofNat 1)))) aNil)))))))) (bCons (sRet (cCon (.bl false))) bNil) bNil) (bCons (sIte (tNot (tVal (cBf .all (sLc [3, 4] (gTupN 2 (gCons (gSlot 3) (gCons (gSlot 4) gNil))) (iZip (cVar 1) (cSlc (cVar 1) (cIntO (cCon (.int (.ofNat 1)))) (cCon .non))) tYes (cCmp .lt (cIdx (cVar 3) (cCon (.int (.ofNat 0)))) (cIdx (cVar 4) (cCon (.int (.ofNat 0))))))))) (bCons (sRet (cCon (.bl false))) bNil) bNil) (bCons (sRet (cNot (cBf .any (sLc [2] (gSlot 2) (iSeq (cVar 1)) tYes (cAnd (cCall C 0 (aOne (cIdx (cVar 2) (cCon (.int (.ofNat 1)))) aNil)) (cCmp .eq (cIdx (cVar 2) (cCon (.int (.ofNat 0)))) (cIdx (cVar 2) (cCon (.int (.ofNat 1)))))))))) bNil))))
/-- is_answer: book thing -/
def b25 (C : CallT) : Stm :=
  (bCons (sRet (cCall C 24 (aOne (cCall C 10 (aOne (cCall C 9 (aOne (cVar 0) aNil)) aNil)) (aOne (cVar 1) aNil)))) bNil)
/-- sure_answer: book answer own -/
def b26 (C : CallT) : Stm :=
  (bCons (sAsg (gSlot 2) (cCall C 3 (aOne (cVar 1) aNil))) (bCons (sEx (cCall C 4 (aOne (cCall C 24 (aOne (cCall C 10 (aOne (cVar 0) aNil)) (aOne (cVar 2) aNil))) aNil))) (bCons (sRet (cVar 2)) bNil)))
/-- sure_unknowns: unknowns own -/
def b27 (C : CallT) : Stm :=
  (bCons (sAsg (gSlot 1) (cCall C 3 (aOne (cVar 0) aNil))) (bCons (sEx (cCall C 4 (aOne (cCall C 5 (aOne (cVar 1) (aOne (cCon (.int (.ofNat 100))) aNil))) aNil))) (bCons (sRet (cVar 1)) bNil)))
/-- put_told: signs pairs own name parts part -/
def b28 (C : CallT) : Stm :=
  (bCons (sIte (tVal (cCall C 0 (aOne (cVar 2) aNil))) (bCons (sRet (cIte (tCmp .inn (cVar 2) (cVar 1)) (cCall C 22 (aOne (cVar 0) (aOne (cIdx (cVar 1) (cVar 2)) aNil))) (cVar 2))) bNil) bNil) (bCons (sPar [3, 4] (aOne (cIdx (cVar 2) (cCon (.int (.ofNat 0)))) (aOne (cLst (sLc [5] (gSlot 5) (iSeq (cIdx (cVar 2) (cCon (.int (.ofNat 1))))) tYes (cCall C 28 (aOne (cVar 0) (aOne (cVar 1) (aOne (cVar 5) aNil)))))) aNil))) (bCons (sIte (tCmp .eq (cIdx (cIdx (cVar 0) (cVar 3)) (cCon (.int (.ofNat 0)))) (cCon (.str [112, 108, 97, 105, 110]))) (bCons (sRet (cTup (aOne (cVar 3) (aOne (cBf .tuple (cSeqOf (cVar 4))) aNil)))) bNil) bNil) (bCons (sIte (tCmp .eq (cIdx (cIdx (cVar 0) (cVar 3)) (cCon (.int (.ofNat 0)))) (cCon (.str [98, 97, 103]))) (bCons (sRet (cCall C 23 (aOne (cVar 0) (aOne (cVar 3) (aOne (cVar 4) aNil))))) bNil) bNil) (bCons (sRet (cTup (aOne (cVar 3) (aOne (cBf .tuple (cSeqOf (cCall C 20 (aOne (cVar 0) (aOne (cVar 4) aNil))))) aNil)))) bNil)))))
/-- answer_of: signs pairs found own pair -/
def b29 (C : CallT) : Stm :=
  (bCons (sAsg (gSlot 2) (cLst (sLc [3] (gSlot 3) (iSeq (cSrt (cVar 1))) tYes (cTup (aOne (cVar 3) (aOne (cCall C 22 (aOne (cVar 0) (aOne (cIdx (cVar 1) (cVar 3)) aNil))) aNil)))))) (bCons (sRet (cBf .tuple (sLc [4] (gSlot 4) (iSeq (cVar 2)) (tOr (tNot (tVal (cCall C 0 (aOne (cIdx (cVar 4) (cCon (.int (.ofNat 1)))) aNil)))) (tCmp .ne (cIdx (cVar 4) (cCon (.int (.ofNat 0)))) (cIdx (cVar 4) (cCon (.int (.ofNat 1)))))) (cVar 4)))) bNil))
/-- put_in: book answer term own pairs signs -/
def b30 (C : CallT) : Stm :=
  (bCons (sAsg (gSlot 3) (cCall C 9 (aOne (cVar 0) aNil))) (bCons (sPar [4, 5] (aOne (cBf .dict (cSeqOf (cCall C 26 (aOne (cVar 3) (aOne (cVar 1) aNil))))) (aOne (cCall C 10 (aOne (cVar 3) aNil)) aNil))) (bCons (sRet (cCall C 28 (aOne (cVar 5) (aOne (cVar 4) (aOne (cCall C 13 (aOne (cVar 3) (aOne (cVar 2) aNil))) aNil))))) bNil)))
/-- put_in_all: book answer equations own some pairs signs left right -/
def b31 (C : CallT) : Stm :=
  (bCons (sAsg (gSlot 3) (cCall C 9 (aOne (cVar 0) aNil))) (bCons (sAsg (gTupN 2 (gCons (gSlot 5) (gCons (gSlot 6) gNil))) (cTup (aOne (cBf .dict (cSeqOf (cCall C 26 (aOne (cVar 3) (aOne (cVar 1) aNil))))) (aOne (cCall C 10 (aOne (cVar 3) aNil)) aNil)))) (bCons (sAsg (gSlot 4) (cCall C 14 (aOne (cVar 3) (aOne (cVar 2) aNil)))) (bCons (sRet (cBf .tuple (sLc [7, 8] (gTupN 2 (gCons (gSlot 7) (gCons (gSlot 8) gNil))) (iSeq (cVar 4)) tYes (cTup (aOne (cCall C 28 (aOne (cVar 6) (aOne (cVar 5) (aOne (cVar 7) aNil)))) (aOne (cCall C 28 (aOne (cVar 6) (aOne (cVar 5) (aOne (cVar 8) aNil)))) aNil)))))) bNil))))
/-- together: signs one other found unknown term -/
def b32 (C : CallT) : Stm :=
  (bCons (sLock 1 (sAsg (gSlot 3) (sDc [4, 5] (gTupN 2 (gCons (gSlot 4) (gCons (gSlot 5) gNil))) (iItems (cVar 1)) tYes (cVar 4) (cCall C 28 (aOne (cVar 0) (aOne (cVar 2) (aOne (cVar 5) aNil))))))) (bCons (sLock 2 (sFor (gTupN 2 (gCons (gSlot 4) (gCons (gSlot 5) gNil))) (iItems (cVar 2)) (bCons (sIte (tCmp .notin (cVar 4) (cVar 3)) (bCons (sAsg (gSub (cVar 3) (cVar 4)) (cVar 5)) bNil) bNil) bNil))) (bCons (sRet (cVar 3)) bNil)))
/-- put_together: book one other own near far signs -/
def b33 (C : CallT) : Stm :=
  (bCons (sAsg (gSlot 3) (cCall C 9 (aOne (cVar 0) aNil))) (bCons (sAsg (gSlot 4) (cBf .dict (cSeqOf (cCall C 26 (aOne (cVar 3) (aOne (cVar 1) aNil)))))) (bCons (sPar [5, 6] (aOne (cBf .dict (cSeqOf (cCall C 26 (aOne (cVar 3) (aOne (cVar 2) aNil))))) (aOne (cCall C 10 (aOne (cVar 3) aNil)) aNil))) (bCons (sRet (cCall C 29 (aOne (cVar 6) (aOne (cCall C 32 (aOne (cVar 6) (aOne (cVar 4) (aOne (cVar 5) aNil)))) aNil)))) bNil))))
/-- answer_kept: book answer unknowns own pairs some unknown -/
def b34 (C : CallT) : Stm :=
  (bCons (sAsg (gSlot 3) (cCall C 9 (aOne (cVar 0) aNil))) (bCons (sAsg (gTupN 2 (gCons (gSlot 4) (gCons (gSlot 5) gNil))) (cTup (aOne (cBf .dict (cSeqOf (cCall C 26 (aOne (cVar 3) (aOne (cVar 1) aNil))))) (aOne (cCall C 27 (aOne (cVar 2) aNil)) aNil)))) (bCons (sRet (cCall C 29 (aOne (cCall C 10 (aOne (cVar 3) aNil)) (aOne (sDc [6] (gSlot 6) (iSeq (cVar 5)) (tCmp .inn (cVar 6) (cVar 4)) (cVar 6) (cIdx (cVar 4) (cVar 6))) aNil)))) bNil)))
/-- does_solve: book equations answer own some pairs signs left right -/
def b35 (C : CallT) : Stm :=
  (bCons (sAsg (gSlot 3) (cCall C 9 (aOne (cVar 0) aNil))) (bCons (sAsg (gSlot 4) (cCall C 14 (aOne (cVar 3) (aOne (cVar 1) aNil)))) (bCons (sAsg (gTupN 2 (gCons (gSlot 5) (gCons (gSlot 6) gNil))) (cTup (aOne (cBf .dict (cSeqOf (cCall C 26 (aOne (cVar 3) (aOne (cVar 2) aNil))))) (aOne (cCall C 10 (aOne (cVar 3) aNil)) aNil)))) (bCons (sRet (cBf .all (sLc [7, 8] (gTupN 2 (gCons (gSlot 7) (gCons (gSlot 8) gNil))) (iSeq (cVar 4)) tYes (cCmp .eq (cCall C 28 (aOne (cVar 6) (aOne (cVar 5) (aOne (cVar 7) aNil)))) (cCall C 28 (aOne (cVar 6) (aOne (cVar 5) (aOne (cVar 8) aNil)))))))) bNil))))
/-- do_alike: book one other unknowns own near far signs unknown -/
def b36 (C : CallT) : Stm :=
  (bCons (sAsg (gSlot 4) (cCall C 9 (aOne (cVar 0) aNil))) (bCons (sAsg (gSlot 5) (cBf .dict (cSeqOf (cCall C 26 (aOne (cVar 4) (aOne (cVar 1) aNil)))))) (bCons (sAsg (gTupN 2 (gCons (gSlot 6) (gCons (gSlot 7) gNil))) (cTup (aOne (cBf .dict (cSeqOf (cCall C 26 (aOne (cVar 4) (aOne (cVar 2) aNil))))) (aOne (cCall C 10 (aOne (cVar 4) aNil)) aNil)))) (bCons (sRet (cBf .all (sLc [8] (gSlot 8) (iSeq (cCall C 27 (aOne (cVar 3) aNil))) tYes (cCmp .eq (cCall C 28 (aOne (cVar 7) (aOne (cVar 5) (aOne (cVar 8) aNil)))) (cCall C 28 (aOne (cVar 7) (aOne (cVar 6) (aOne (cVar 8) aNil)))))))) bNil))))
/-- left_open: book answer unknowns own found pairs signs unknown some -/
def b37 (C : CallT) : Stm :=
  (bCons (sAsg (gSlot 3) (cCall C 9 (aOne (cVar 0) aNil))) (bCons (sAsg (gTupN 2 (gCons (gSlot 5) (gCons (gSlot 6) gNil))) (cTup (aOne (cBf .dict (cSeqOf (cCall C 26 (aOne (cVar 3) (aOne (cVar 1) aNil))))) (aOne (cCall C 10 (aOne (cVar 3) aNil)) aNil)))) (bCons (sAsg (gSlot 4) (cLst (sLc [7] (gSlot 7) (iSeq (cCall C 27 (aOne (cVar 2) aNil))) tYes (cCall C 18 (aOne (cCall C 28 (aOne (cVar 6) (aOne (cVar 5) (aOne (cVar 7) aNil)))) aNil))))) (bCons (sRet (cBf .tuple (cSeqOf (cSset (sLc2 [7, 8] (gSlot 8) (iSeq (cVar 4)) tYes [7] (gSlot 7) (iSeq (cVar 8)) tYes (cVar 7)))))) bNil))))
/-- is_exchange: pairs goals goal -/
def b38 (C : CallT) : Stm :=
  (bCons (sAsg (gSlot 1) (cDvl (cVar 0))) (bCons (sRet (cAnd (cBf .all (sLc [2] (gSlot 2) (iSeq (cVar 1)) tYes (cCall C 0 (aOne (cVar 2) aNil)))) (cCmp .eq (cLset (cLstOf (cVar 1))) (cLen (cVar 1))))) bNil))
/-- is_renaming: book answer unknowns own pairs some unknown -/
def b39 (C : CallT) : Stm :=
  (bCons (sAsg (gSlot 3) (cCall C 9 (aOne (cVar 0) aNil))) (bCons (sAsg (gTupN 2 (gCons (gSlot 4) (gCons (gSlot 5) gNil))) (cTup (aOne (cBf .dict (cSeqOf (cCall C 26 (aOne (cVar 3) (aOne (cVar 1) aNil))))) (aOne (cCall C 27 (aOne (cVar 2) aNil)) aNil)))) (bCons (sRet (cCall C 38 (aOne (sDc [6] (gSlot 6) (iSeq (cVar 5)) tYes (cVar 6) (cDm .get (cVar 4) (aOne (cVar 6) (aOne (cVar 6) aNil)))) aNil))) bNil)))
/-- renaming_back: book answer unknowns own goals pairs some unknown goal -/
def b40 (C : CallT) : Stm :=
  (bCons (sAsg (gSlot 3) (cCall C 9 (aOne (cVar 0) aNil))) (bCons (sAsg (gTupN 2 (gCons (gSlot 5) (gCons (gSlot 6) gNil))) (cTup (aOne (cBf .dict (cSeqOf (cCall C 26 (aOne (cVar 3) (aOne (cVar 1) aNil))))) (aOne (cCall C 27 (aOne (cVar 2) aNil)) aNil)))) (bCons (sAsg (gSlot 4) (sDc [7] (gSlot 7) (iSeq (cVar 6)) tYes (cVar 7) (cDm .get (cVar 5) (aOne (cVar 7) (aOne (cVar 7) aNil))))) (bCons (sIte (tNot (tVal (cCall C 38 (aOne (cVar 4) aNil)))) (bCons (sRaise 1 aNil) bNil) bNil) (bCons (sLock 4 (sRet (cCall C 29 (aOne (cCall C 10 (aOne (cVar 3) aNil)) (aOne (sDc [7, 8] (gTupN 2 (gCons (gSlot 7) (gCons (gSlot 8) gNil))) (iItems (cVar 4)) tYes (cVar 8) (cVar 7)) aNil))))) bNil)))))
/-- _law_same: got due mine own -/
def b44 (C : CallT) : Stm :=
  (bCons (sIte (tVal (cIsb (cVar 1) [.list, .tuple])) (bCons (sIte (tOr (tCmp .ne (cIsb (cVar 0) [.list]) (cIsb (cVar 1) [.list])) (tCmp .ne (cIsb (cVar 0) [.tuple]) (cIsb (cVar 1) [.tuple]))) (bCons (sRet (cCon (.bl false))) bNil) bNil) (bCons (sRet (cAnd (cCmp .eq (cLen (cVar 0)) (cLen (cVar 1))) (cBf .all (sLc [2, 3] (gTupN 2 (gCons (gSlot 2) (gCons (gSlot 3) gNil))) (iZip (cVar 0) (cVar 1)) tYes (cCall C 44 (aOne (cVar 2) (aOne (cVar 3) aNil))))))) bNil)) bNil) (bCons (sIte (tVal (cIsb (cVar 1) [.str])) (bCons (sRet (cAnd (cIsb (cVar 0) [.str]) (cCmp .eq (cVar 0) (cVar 1)))) bNil) bNil) (bCons (sIte (tOr (tCmp .is (cVar 1) (cCon .non)) (tVal (cIsb (cVar 1) [.bool]))) (bCons (sRet (cAnd (cCmp .eq (cCmp .is (cVar 0) (cCon .non)) (cCmp .is (cVar 1) (cCon .non))) (cAnd (cCmp .eq (cIsb (cVar 0) [.bool]) (cIsb (cVar 1) [.bool])) (cCmp .eq (cVar 0) (cVar 1))))) bNil) bNil) (bCons (sRet (cAnd (cIsb (cVar 0) [.int]) (cAnd (cNot (cIsb (cVar 0) [.bool])) (cCmp .eq (cVar 0) (cVar 1))))) bNil))))
/-- _law_lists: matter own -/
def b45 (C : CallT) : Stm :=
  (bCons (sRet (cIte (tVal (cIsb (cVar 0) [.list, .tuple])) (cLst (sLc [1] (gSlot 1) (iSeq (cVar 0)) tYes (cCall C 45 (aOne (cVar 1) aNil)))) (cVar 0))) bNil)
/-- _law_kind: name -/
def b46 (C : CallT) : Stm :=
  (bCons (sRet (cIte (tCmp .inn (cVar 0) (cTup (aOne (cCon (.str [112])) (aOne (cCon (.str [113])) aNil)))) (cCon (.str [115, 119, 97, 112])) (cIte (tCmp .inn (cVar 0) (cTup (aOne (cCon (.str [115])) (aOne (cCon (.str [116])) aNil)))) (cCon (.str [98, 97, 103])) (cCon (.str [112, 108, 97, 105, 110]))))) bNil)
/-- _law_book: rows name many -/
def b47 (C : CallT) : Stm :=
  (bCons (sAsg (gSlot 0) (cLst (aOne (cTup (aOne (cCon (.str [97])) (aOne (cCon (.int (.ofNat 0))) aNil))) (aOne (cTup (aOne (cCon (.str [98])) (aOne (cCon (.int (.ofNat 0))) aNil))) (aOne (cTup (aOne (cCon (.str [99])) (aOne (cCon (.int (.ofNat 0))) aNil))) (aOne (cTup (aOne (cCon (.str [102])) (aOne (cCon (.int (.ofNat 1))) aNil))) (aOne (cTup (aOne (cCon (.str [103])) (aOne (cCon (.int (.ofNat 2))) aNil))) (aOne (cTup (aOne (cCon (.str [112])) (aOne (cCon (.int (.ofNat 2))) aNil))) (aOne (cTup (aOne (cCon (.str [115])) (aOne (cCon (.int (.ofNat 2))) aNil))) (aOne (cTup (aOne (cCon (.str [116])) (aOne (cCon (.int (.ofNat 2))) aNil))) aNil)))))))))) (bCons (sRet (cBf .tuple (sLc [1, 2] (gTupN 2 (gCons (gSlot 1) (gCons (gSlot 2) gNil))) (iSeq (cVar 0)) tYes (cTup (aOne (cVar 1) (aOne (cCall C 46 (aOne (cVar 1) aNil)) (aOne (cVar 2) aNil))))))) bNil))
/-- _law_told_right: soft got due book a b one other near far -/
def b48 (C : CallT) : Stm :=
  (bCons (sPar [3, 4, 5] (aOne (cCall C 47 aNil) (aOne (cTup (aOne (cCon (.str [97])) (aOne (cTup aNil) aNil))) (aOne (cTup (aOne (cCon (.str [98])) (aOne (cTup aNil) aNil))) aNil)))) (bCons (sPar [6, 7] (aOne (cTup (aOne (cTup (aOne (cCon (.int (.ofNat 0))) (aOne (cTup (aOne (cCon (.str [115])) (aOne (cTup (aOne (cCon (.int (.ofNat 2))) (aOne (cVar 4) aNil))) aNil))) aNil))) (aOne (cTup (aOne (cCon (.int (.ofNat 1))) (aOne (cTup (aOne (cCon (.str [102])) (aOne (cTup (aOne (cCon (.int (.ofNat 0))) aNil)) aNil))) aNil))) (aOne (cTup (aOne (cCon (.int (.ofNat 3))) (aOne (cCon (.int (.ofNat 2))) aNil))) aNil)))) (aOne (cTup (aOne (cTup (aOne (cCon (.int (.ofNat 0))) (aOne (cVar 5) aNil))) (aOne (cTup (aOne (cCon (.int (.ofNat 2))) (aOne (cTup (aOne (cCon (.str [115])) (aOne (cTup (aOne (cVar 5) (aOne (cCon (.int (.ofNat 0))) aNil))) aNil))) aNil))) (aOne (cTup (aOne (cCon (.int (.ofNat 4))) (aOne (cCon (.int (.ofNat 5))) aNil))) aNil)))) aNil))) (bCons (sPar [8, 9] (aOne (cIte (tVal (cVar 0)) (cCall C 45 (aOne (cVar 6) aNil)) (cVar 6)) (aOne (cIte (tVal (cVar 0)) (cCall C 45 (aOne (cVar 7) aNil)) (cVar 7)) aNil))) (bCons (sAsg (gSlot 1) (cLst (aOne (cCall C 30 (aOne (cVar 3) (aOne (cVar 8) (aOne (cTup (aOne (cCon (.str [115])) (aOne (cTup (aOne (cCon (.int (.ofNat 0))) (aOne (cCon (.int (.ofNat 1))) aNil))) aNil))) aNil)))) (aOne (cCall C 30 (aOne (cVar 3) (aOne (cVar 8) (aOne (cTup (aOne (cCon (.str [112])) (aOne (cTup (aOne (cCon (.int (.ofNat 3))) (aOne (cCon (.int (.ofNat 1))) aNil))) aNil))) aNil)))) (aOne (cCallP C 30 0 [2, 1, 0] aNil (aOne (cCon (.int (.ofNat 9))) (aOne (cVar 8) (aOne (cVar 3) aNil)))) (aOne (cCall C 30 (aOne (cVar 3) (aOne (cTup aNil) (aOne (cTup (aOne (cCon (.str [115])) (aOne (cTup (aOne (cCon (.int (.ofNat 1))) (aOne (cCon (.int (.ofNat 0))) aNil))) aNil))) aNil)))) aNil)))))) (bCons (sAsg (gSlot 2) (cLst (aOne (cTup (aOne (cCon (.str [115])) (aOne (cTup (aOne (cCon (.int (.ofNat 2))) (aOne (cVar 4) (aOne (cTup (aOne (cCon (.str [102])) (aOne (cTup (aOne (cCon (.int (.ofNat 0))) aNil)) aNil))) aNil)))) aNil))) (aOne (cTup (aOne (cCon (.str [112])) (aOne (cTup (aOne (cCon (.int (.ofNat 2))) (aOne (cTup (aOne (cCon (.str [102])) (aOne (cTup (aOne (cCon (.int (.ofNat 0))) aNil)) aNil))) aNil))) aNil))) (aOne (cCon (.int (.ofNat 9))) (aOne (cTup (aOne (cCon (.str [115])) (aOne (cTup (aOne (cCon (.int (.ofNat 0))) (aOne (cCon (.int (.ofNat 1))) aNil))) aNil))) aNil)))))) (bCons (sAsg (gSlot 1) (cBin .add (cVar 1) (cLst (aOne (cCall C 31 (aOne (cVar 3) (aOne (cVar 9) (aOne (cTup (aOne (cTup (aOne (cCon (.int (.ofNat 0))) (aOne (cCon (.int (.ofNat 2))) aNil))) (aOne (cTup (aOne (cTup (aOne (cCon (.str [115])) (aOne (cTup (aOne (cCon (.int (.ofNat 2))) (aOne (cCon (.int (.ofNat 2))) aNil))) aNil))) (aOne (cVar 4) aNil))) aNil))) aNil)))) (aOne (cCallP C 31 0 [2, 1, 0] aNil (aOne (cLst aNil) (aOne (cVar 9) (aOne (cVar 3) aNil)))) aNil))))) (bCons (sAsg (gSlot 2) (cBin .add (cVar 2) (cLst (aOne (cTup (aOne (cTup (aOne (cVar 5) (aOne (cTup (aOne (cCon (.str [115])) (aOne (cTup (aOne (cCon (.int (.ofNat 0))) (aOne (cVar 5) aNil))) aNil))) aNil))) (aOne (cTup (aOne (cTup (aOne (cCon (.str [115])) (aOne (cTup (aOne (cCon (.int (.ofNat 0))) (aOne (cCon (.int (.ofNat 0))) (aOne (cVar 5) (aOne (cVar 5) aNil))))) aNil))) (aOne (cVar 4) aNil))) aNil))) (aOne (cTup aNil) aNil))))) (bCons (sAsg (gSlot 1) (cBin .add (cVar 1) (cLst (aOne (cCall C 33 (aOne (cVar 3) (aOne (cVar 8) (aOne (cVar 9) aNil)))) (aOne (cCall C 33 (aOne (cVar 3) (aOne (cVar 9) (aOne (cVar 8) aNil)))) (aOne (cCallP C 33 0 [2, 1, 0] aNil (aOne (cTup aNil) (aOne (cLst (aOne (cLst (aOne (cCon (.int (.ofNat 7))) (aOne (cLst (aOne (cCon (.str [115])) (aOne (cLst (aOne (cVar 4) (aOne (cCon (.int (.ofNat 1))) aNil))) aNil))) aNil))) aNil)) (aOne (cVar 3) aNil)))) (aOne (cCall C 33 (aOne (cVar 3) (aOne (cTup aNil) (aOne (cTup (aOne (cTup (aOne (cCon (.int (.ofNat 2))) (aOne (cTup (aOne (cCon (.str [115])) (aOne (cTup (aOne (cVar 5) (aOne (cCon (.int (.ofNat 0))) aNil))) aNil))) aNil))) aNil)) aNil)))) aNil))))))) (bCons (sAsg (gSlot 2) (cBin .add (cVar 2) (cLst (aOne (cTup (aOne (cTup (aOne (cCon (.int (.ofNat 0))) (aOne (cTup (aOne (cCon (.str [115])) (aOne (cTup (aOne (cCon (.int (.ofNat 0))) (aOne (cVar 4) (aOne (cVar 5) aNil)))) aNil))) aNil))) (aOne (cTup (aOne (cCon (.int (.ofNat 1))) (aOne (cTup (aOne (cCon (.str [102])) (aOne (cTup (aOne (cVar 5) aNil)) aNil))) aNil))) (aOne (cTup (aOne (cCon (.int (.ofNat 2))) (aOne (cTup (aOne (cCon (.str [115])) (aOne (cTup (aOne (cCon (.int (.ofNat 0))) (aOne (cVar 5) aNil))) aNil))) aNil))) (aOne (cTup (aOne (cCon (.int (.ofNat 3))) (aOne (cTup (aOne (cCon (.str [115])) (aOne (cTup (aOne (cCon (.int (.ofNat 0))) (aOne (cVar 5) aNil))) aNil))) aNil))) (aOne (cTup (aOne (cCon (.int (.ofNat 4))) (aOne (cCon (.int (.ofNat 5))) aNil))) aNil)))))) aNil)))) (bCons (sAsg (gSlot 2) (cBin .add (cVar 2) (cLst (aOne (cTup (aOne (cTup (aOne (cCon (.int (.ofNat 0))) (aOne (cVar 5) aNil))) (aOne (cTup (aOne (cCon (.int (.ofNat 1))) (aOne (cTup (aOne (cCon (.str [102])) (aOne (cTup (aOne (cCon (.int (.ofNat 0))) aNil)) aNil))) aNil))) (aOne (cTup (aOne (cCon (.int (.ofNat 2))) (aOne (cTup (aOne (cCon (.str [115])) (aOne (cTup (aOne (cCon (.int (.ofNat 2))) (aOne (cVar 4) (aOne (cVar 5) aNil)))) aNil))) aNil))) (aOne (cTup (aOne (cCon (.int (.ofNat 3))) (aOne (cCon (.int (.ofNat 2))) aNil))) (aOne (cTup (aOne (cCon (.int (.ofNat 4))) (aOne (cCon (.int (.ofNat 5))) aNil))) aNil)))))) (aOne (cTup (aOne (cTup (aOne (cCon (.int (.ofNat 7))) (aOne (cTup (aOne (cCon (.str [115])) (aOne (cTup (aOne (cCon (.int (.ofNat 1))) (aOne (cVar 4) aNil))) aNil))) aNil))) aNil)) (aOne (cTup (aOne (cTup (aOne (cCon (.int (.ofNat 2))) (aOne (cTup (aOne (cCon (.str [115])) (aOne (cTup (aOne (cCon (.int (.ofNat 0))) (aOne (cVar 5) aNil))) aNil))) aNil))) aNil)) aNil)))))) (bCons (sAsg (gSlot 1) (cBin .add (cVar 1) (cLst (aOne (cCall C 34 (aOne (cVar 3) (aOne (cVar 8) (aOne (cTup (aOne (cCon (.int (.ofNat 0))) (aOne (cCon (.int (.ofNat 2))) (aOne (cCon (.int (.ofNat 3))) (aOne (cCon (.int (.ofNat 8))) aNil))))) aNil)))) (aOne (cCallP C 34 0 [2, 1, 0] aNil (aOne (cTup aNil) (aOne (cVar 8) (aOne (cVar 3) aNil)))) aNil))))) (bCons (sAsg (gSlot 1) (cBin .add (cVar 1) (cLst (aOne (cCall C 36 (aOne (cVar 3) (aOne (cVar 8) (aOne (cTup (aOne (cTup (aOne (cCon (.int (.ofNat 0))) (aOne (cTup (aOne (cCon (.str [115])) (aOne (cTup (aOne (cVar 4) (aOne (cCon (.int (.ofNat 2))) aNil))) aNil))) aNil))) (aOne (cTup (aOne (cCon (.int (.ofNat 3))) (aOne (cCon (.int (.ofNat 2))) aNil))) aNil))) (aOne (cTup (aOne (cCon (.int (.ofNat 0))) (aOne (cCon (.int (.ofNat 2))) (aOne (cCon (.int (.ofNat 3))) aNil)))) aNil))))) (aOne (cCall C 36 (aOne (cVar 3) (aOne (cVar 8) (aOne (cTup (aOne (cTup (aOne (cCon (.int (.ofNat 3))) (aOne (cCon (.int (.ofNat 2))) aNil))) aNil)) (aOne (cTup (aOne (cCon (.int (.ofNat 0))) (aOne (cCon (.int (.ofNat 3))) aNil))) aNil))))) aNil))))) (bCons (sAsg (gSlot 2) (cBin .add (cVar 2) (cLst (aOne (cTup (aOne (cTup (aOne (cCon (.int (.ofNat 0))) (aOne (cTup (aOne (cCon (.str [115])) (aOne (cTup (aOne (cCon (.int (.ofNat 2))) (aOne (cVar 4) aNil))) aNil))) aNil))) (aOne (cTup (aOne (cCon (.int (.ofNat 3))) (aOne (cCon (.int (.ofNat 2))) aNil))) aNil))) (aOne (cTup aNil) (aOne (cCon (.bl true)) (aOne (cCon (.bl false)) aNil))))))) (bCons (sAsg (gSlot 1) (cBin .add (cVar 1) (cLst (aOne (cCall C 36 (aOne (cVar 3) (aOne (cVar 8) (aOne (cVar 9) (aOne (cLst aNil) aNil))))) (aOne (cCall C 37 (aOne (cVar 3) (aOne (cVar 8) (aOne (cTup (aOne (cCon (.int (.ofNat 0))) (aOne (cCon (.int (.ofNat 1))) (aOne (cCon (.int (.ofNat 2))) (aOne (cCon (.int (.ofNat 3))) aNil))))) aNil)))) (aOne (cCall C 37 (aOne (cVar 3) (aOne (cTup (aOne (cTup (aOne (cCon (.int (.ofNat 0))) (aOne (cVar 4) aNil))) aNil)) (aOne (cTup (aOne (cCon (.int (.ofNat 0))) aNil)) aNil)))) aNil)))))) (bCons (sAsg (gSlot 1) (cBin .add (cVar 1) (cLst (aOne (cCall C 37 (aOne (cVar 3) (aOne (cTup aNil) (aOne (cTup (aOne (cCon (.int (.ofNat 1))) (aOne (cCon (.int (.ofNat 4))) aNil))) aNil)))) (aOne (cCall C 35 (aOne (cVar 3) (aOne (cTup (aOne (cTup (aOne (cCon (.int (.ofNat 0))) (aOne (cTup (aOne (cCon (.str [115])) (aOne (cTup (aOne (cVar 4) (aOne (cCon (.int (.ofNat 3))) aNil))) aNil))) aNil))) (aOne (cTup (aOne (cCon (.int (.ofNat 3))) (aOne (cCon (.int (.ofNat 2))) aNil))) aNil))) (aOne (cVar 8) aNil)))) aNil))))) (bCons (sAsg (gSlot 2) (cBin .add (cVar 2) (cLst (aOne (cCon (.bl true)) (aOne (cTup (aOne (cCon (.int (.ofNat 0))) (aOne (cCon (.int (.ofNat 2))) aNil))) (aOne (cTup aNil) (aOne (cTup (aOne (cCon (.int (.ofNat 1))) (aOne (cCon (.int (.ofNat 4))) aNil))) (aOne (cCon (.bl true)) aNil)))))))) (bCons (sAsg (gSlot 1) (cBin .add (cVar 1) (cLst (aOne (cCallP C 35 0 [2, 0, 1] aNil (aOne (cTup (aOne (cTup (aOne (cCon (.int (.ofNat 0))) (aOne (cCon (.int (.ofNat 1))) aNil))) aNil)) (aOne (cVar 8) (aOne (cVar 3) aNil)))) (aOne (cCall C 35 (aOne (cVar 3) (aOne (cTup aNil) (aOne (cTup aNil) aNil)))) (aOne (cCall C 39 (aOne (cVar 3) (aOne (cTup (aOne (cTup (aOne (cCon (.int (.ofNat 0))) (aOne (cCon (.int (.ofNat 1))) aNil))) (aOne (cTup (aOne (cCon (.int (.ofNat 1))) (aOne (cCon (.int (.ofNat 2))) aNil))) aNil))) (aOne (cTup (aOne (cCon (.int (.ofNat 0))) (aOne (cCon (.int (.ofNat 1))) aNil))) aNil)))) aNil)))))) (bCons (sAsg (gSlot 1) (cBin .add (cVar 1) (cLst (aOne (cCall C 39 (aOne (cVar 3) (aOne (cTup (aOne (cTup (aOne (cCon (.int (.ofNat 0))) (aOne (cCon (.int (.ofNat 1))) aNil))) (aOne (cTup (aOne (cCon (.int (.ofNat 1))) (aOne (cCon (.int (.ofNat 2))) aNil))) aNil))) (aOne (cTup (aOne (cCon (.int (.ofNat 0))) (aOne (cCon (.int (.ofNat 1))) (aOne (cCon (.int (.ofNat 2))) aNil)))) aNil)))) (aOne (cCall C 39 (aOne (cVar 3) (aOne (cTup (aOne (cTup (aOne (cCon (.int (.ofNat 0))) (aOne (cVar 4) aNil))) aNil)) (aOne (cTup (aOne (cCon (.int (.ofNat 0))) aNil)) aNil)))) aNil))))) (bCons (sAsg (gSlot 2) (cBin .add (cVar 2) (cLst (aOne (cCon (.bl false)) (aOne (cCon (.bl true)) (aOne (cCon (.bl true)) (aOne (cCon (.bl false)) (aOne (cCon (.bl false)) aNil)))))))) (bCons (sAsg (gSlot 1) (cBin .add (cVar 1) (cLst (aOne (cCall C 39 (aOne (cVar 3) (aOne (cTup (aOne (cTup (aOne (cCon (.int (.ofNat 0))) (aOne (cVar 4) aNil))) aNil)) (aOne (cTup (aOne (cCon (.int (.ofNat 1))) aNil)) aNil)))) (aOne (cCall C 39 (aOne (cVar 3) (aOne (cTup aNil) (aOne (cTup aNil) aNil)))) (aOne (cCall C 39 (aOne (cVar 3) (aOne (cTup (aOne (cTup (aOne (cCon (.int (.ofNat 3))) (aOne (cCon (.int (.ofNat 1))) aNil))) aNil)) (aOne (cTup (aOne (cCon (.int (.ofNat 1))) (aOne (cCon (.int (.ofNat 3))) aNil))) aNil)))) aNil)))))) (bCons (sAsg (gSlot 1) (cBin .add (cVar 1) (cLst (aOne (cCall C 40 (aOne (cVar 3) (aOne (cTup (aOne (cTup (aOne (cCon (.int (.ofNat 0))) (aOne (cCon (.int (.ofNat 1))) aNil))) (aOne (cTup (aOne (cCon (.int (.ofNat 1))) (aOne (cCon (.int (.ofNat 2))) aNil))) aNil))) (aOne (cTup (aOne (cCon (.int (.ofNat 0))) (aOne (cCon (.int (.ofNat 1))) aNil))) aNil)))) (aOne (cCall C 40 (aOne (cVar 3) (aOne (cTup (aOne (cTup (aOne (cCon (.int (.ofNat 0))) (aOne (cCon (.int (.ofNat 5))) aNil))) aNil)) (aOne (cTup (aOne (cCon (.int (.ofNat 2))) aNil)) aNil)))) aNil))))) (bCons (sRet (cCall C 44 (aOne (cBin .add (cVar 1) (cLst (aOne (cCallP C 40 0 [1, 2, 0] aNil (aOne (cTup (aOne (cCon (.int (.ofNat 0))) (aOne (cCon (.int (.ofNat 1))) aNil))) (aOne (cVar 3) (aOne (cTup (aOne (cTup (aOne (cCon (.int (.ofNat 0))) (aOne (cCon (.int (.ofNat 1))) aNil))) (aOne (cTup (aOne (cCon (.int (.ofNat 1))) (aOne (cCon (.int (.ofNat 0))) aNil))) aNil))) aNil)))) aNil))) (aOne (cBin .add (cVar 2) (cLst (aOne (cCon (.bl true)) (aOne (cCon (.bl true)) (aOne (cCon (.bl false)) (aOne (cTup (aOne (cTup (aOne (cCon (.int (.ofNat 1))) (aOne (cCon (.int (.ofNat 0))) aNil))) (aOne (cTup (aOne (cCon (.int (.ofNat 2))) (aOne (cCon (.int (.ofNat 1))) aNil))) aNil))) (aOne (cTup aNil) (aOne (cTup (aOne (cTup (aOne (cCon (.int (.ofNat 0))) (aOne (cCon (.int (.ofNat 1))) aNil))) (aOne (cTup (aOne (cCon (.int (.ofNat 1))) (aOne (cCon (.int (.ofNat 0))) aNil))) aNil))) aNil)))))))) aNil)))) bNil))))))))))))))))))))))
/-- _law_near_right: good bad got book a own -/
def b49 (C : CallT) : Stm :=
  (bCons (sAsg (gTupN 2 (gCons (gSlot 3) (gCons (gSlot 4) gNil))) (cTup (aOne (cCall C 47 aNil) (aOne (cTup (aOne (cCon (.str [97])) (aOne (cTup aNil) aNil))) aNil)))) (bCons (sAsg (gSlot 0) (cLst (aOne (cTup aNil) (aOne (cTup (aOne (cTup (aOne (cCon (.int (.ofNat 0))) (aOne (cCon (.int (.ofNat 1))) aNil))) aNil)) (aOne (cTup (aOne (cTup (aOne (cCon (.int (.ofNat 0))) (aOne (cVar 4) aNil))) (aOne (cTup (aOne (cCon (.int (.ofNat 99))) (aOne (cCon (.int (.ofNat 0))) aNil))) aNil))) (aOne (cTup (aOne (cTup (aOne (cCon (.int (.ofNat 5))) (aOne (cTup (aOne (cCon (.str [115])) (aOne (cTup (aOne (cCon (.int (.ofNat 5))) (aOne (cCon (.int (.ofNat 0))) (aOne (cTup (aOne (cCon (.str [115])) (aOne (cTup (aOne (cCon (.int (.ofNat 1))) (aOne (cCon (.int (.ofNat 1))) aNil))) aNil))) aNil)))) aNil))) aNil))) aNil)) aNil)))))) (bCons (sAsg (gSlot 1) (cLst (aOne (cTup (aOne (cTup (aOne (cCon (.int (.ofNat 0))) (aOne (cCon (.int (.ofNat 0))) aNil))) aNil)) (aOne (cTup (aOne (cTup (aOne (cCon (.int (.ofNat 1))) (aOne (cVar 4) aNil))) (aOne (cTup (aOne (cCon (.int (.ofNat 0))) (aOne (cVar 4) aNil))) aNil))) (aOne (cTup (aOne (cTup (aOne (cCon (.int (.ofNat 0))) (aOne (cVar 4) aNil))) (aOne (cTup (aOne (cCon (.int (.ofNat 0))) (aOne (cCon (.int (.ofNat 1))) aNil))) aNil))) (aOne (cLst (aOne (cTup (aOne (cCon (.int (.ofNat 0))) (aOne (cVar 4) aNil))) aNil)) (aOne (cTup (aOne (cLst (aOne (cCon (.int (.ofNat 0))) (aOne (cVar 4) aNil))) aNil)) (aOne (cTup (aOne (cTup (aOne (cCon (.int (.ofNat 100))) (aOne (cVar 4) aNil))) aNil)) (aOne (cTup (aOne (cTup (aOne (cNeg (cCon (.int (.ofNat 1)))) (aOne (cVar 4) aNil))) aNil)) (aOne (cTup (aOne (cTup (aOne (cCon (.bl true)) (aOne (cVar 4) aNil))) aNil)) aNil)))))))))) (bCons (sAsg (gSlot 1) (cBin .add (cVar 1) (cLst (aOne (cTup (aOne (cTup (aOne (cCon (.int (.ofNat 0))) (aOne (cTup (aOne (cCon (.str [115])) (aOne (cTup (aOne (cCon (.int (.ofNat 0))) aNil)) aNil))) aNil))) aNil)) (aOne (cTup (aOne (cTup (aOne (cCon (.int (.ofNat 0))) aNil)) aNil)) (aOne (cTup (aOne (cTup (aOne (cCon (.int (.ofNat 0))) (aOne (cVar 4) (aOne (cVar 4) aNil)))) aNil)) (aOne (cCon .non) (aOne (cCon (.int (.ofNat 0))) (aOne (cTup (aOne (cTup (aOne (cCon (.int (.ofNat 0))) (aOne (cLst (aOne (cCon (.str [102])) (aOne (cTup (aOne (cCon (.int (.ofNat 0))) aNil)) aNil))) aNil))) aNil)) (aOne (cTup (aOne (cTup (aOne (cTup (aOne (cCon (.int (.ofNat 0))) aNil)) (aOne (cVar 4) aNil))) aNil)) (aOne (cTup (aOne (cTup (aOne (cCon (.int (.ofNat 0))) (aOne (cCon .non) aNil))) aNil)) aNil))))))))))) (bCons (sAsg (gSlot 2) (cBin .add (cLst (sLc [5] (gSlot 5) (iSeq (cVar 0)) tYes (cCall C 25 (aOne (cVar 3) (aOne (cVar 5) aNil))))) (cLst (sLc [5] (gSlot 5) (iSeq (cVar 1)) tYes (cCall C 25 (aOne (cVar 3) (aOne (cVar 5) aNil))))))) (bCons (sRet (cCall C 44 (aOne (cVar 2) (aOne (cBin .add (cBin .mul (cLst (aOne (cCon (.bl true)) aNil)) (cCon (.int (.ofNat 4)))) (cBin .mul (cLst (aOne (cCon (.bl false)) aNil)) (cCon (.int (.ofNat 16))))) aNil)))) bNil))))))
/-- _law_try: door book answer term caught -/
def b50 (C : CallT) : Stm :=
  (bCons (sTry 5 (bCons (sIte (tCmp .eq (cVar 0) (cCon (.int (.ofNat 0)))) (bCons (sEx (cCall C 30 (aOne (cVar 1) (aOne (cVar 2) (aOne (cVar 3) aNil))))) bNil) (bCons (sIte (tCmp .eq (cVar 0) (cCon (.int (.ofNat 1)))) (bCons (sEx (cCall C 31 (aOne (cVar 1) (aOne (cVar 2) (aOne (cTup (aOne (cTup (aOne (cCon (.int (.ofNat 0))) (aOne (cVar 3) aNil))) aNil)) aNil))))) bNil) (bCons (sIte (tCmp .eq (cVar 0) (cCon (.int (.ofNat 2)))) (bCons (sEx (cCall C 33 (aOne (cVar 1) (aOne (cVar 2) (aOne (cTup (aOne (cTup (aOne (cCon (.int (.ofNat 0))) (aOne (cVar 3) aNil))) aNil)) aNil))))) bNil) (bCons (sIte (tCmp .eq (cVar 0) (cCon (.int (.ofNat 3)))) (bCons (sEx (cCall C 35 (aOne (cVar 1) (aOne (cTup (aOne (cTup (aOne (cVar 3) (aOne (cCon (.int (.ofNat 0))) aNil))) aNil)) (aOne (cVar 2) aNil))))) bNil) (bCons (sIte (tCmp .eq (cVar 0) (cCon (.int (.ofNat 4)))) (bCons (sEx (cCall C 33 (aOne (cVar 1) (aOne (cTup (aOne (cTup (aOne (cCon (.int (.ofNat 5))) (aOne (cVar 3) aNil))) aNil)) (aOne (cVar 2) aNil))))) bNil) (bCons (sEx (cCall C 36 (aOne (cVar 1) (aOne (cVar 2) (aOne (cTup (aOne (cTup (aOne (cCon (.int (.ofNat 5))) (aOne (cVar 3) aNil))) aNil)) (aOne (cTup aNil) aNil)))))) bNil)) bNil)) bNil)) bNil)) bNil)) bNil) (hOn 0 (some 4) (fun ws => (bCons (sRet (cCon (.bl true))) bNil)) hNil)) (bCons (sRet (cCon (.str [116, 111, 108, 100]))) bNil))
/-- _law_open: door book answer unknowns caught -/
def b51 (C : CallT) : Stm :=
  (bCons (sTry 5 (bCons (sIte (tCmp .eq (cVar 0) (cCon (.int (.ofNat 0)))) (bCons (sEx (cCall C 34 (aOne (cVar 1) (aOne (cVar 2) (aOne (cVar 3) aNil))))) bNil) (bCons (sIte (tCmp .eq (cVar 0) (cCon (.int (.ofNat 1)))) (bCons (sEx (cCall C 37 (aOne (cVar 1) (aOne (cVar 2) (aOne (cVar 3) aNil))))) bNil) (bCons (sIte (tCmp .eq (cVar 0) (cCon (.int (.ofNat 2)))) (bCons (sEx (cCall C 36 (aOne (cVar 1) (aOne (cVar 2) (aOne (cVar 2) (aOne (cVar 3) aNil)))))) bNil) (bCons (sIte (tCmp .eq (cVar 0) (cCon (.int (.ofNat 3)))) (bCons (sEx (cCall C 39 (aOne (cVar 1) (aOne (cVar 2) (aOne (cVar 3) aNil))))) bNil) (bCons (sEx (cCall C 40 (aOne (cVar 1) (aOne (cVar 2) (aOne (cVar 3) aNil))))) bNil)) bNil)) bNil)) bNil)) bNil) (hOn 1 (some 4) (fun ws => (bCons (sRet (cLst (aOne (cCon (.str [99, 97, 110, 110, 111, 116])) (aOne (cCon (.bl true)) aNil)))) bNil)) (hOn 0 (some 4) (fun ws => (bCons (sRet (cCon (.bl true))) bNil)) hNil))) (bCons (sRet (cCon (.str [116, 111, 108, 100]))) bNil))
/-- _law_refused_right: door got book a own -/
def b52 (C : CallT) : Stm :=
  (bCons (sAsg (gTupN 3 (gCons (gSlot 2) (gCons (gSlot 3) (gCons (gSlot 1) gNil)))) (cTup (aOne (cCall C 47 aNil) (aOne (cTup (aOne (cCon (.str [97])) (aOne (cTup aNil) aNil))) (aOne (cLst aNil) aNil))))) (bCons (sFor (gSlot 0) (iRng1 (cCon (.int (.ofNat 6)))) (bCons (sAsg (gSlot 1) (cBin .add (cVar 1) (cLst (sLc [4] (gSlot 4) (iSeq (cTup (aOne (cCon .non) (aOne (cTup (aOne (cTup (aOne (cCon (.int (.ofNat 0))) (aOne (cCon (.int (.ofNat 0))) aNil))) aNil)) (aOne (cTup (aOne (cTup (aOne (cCon (.int (.ofNat 1))) (aOne (cVar 3) aNil))) (aOne (cTup (aOne (cCon (.int (.ofNat 0))) (aOne (cVar 3) aNil))) aNil))) (aOne (cTup (aOne (cTup (aOne (cCon (.int (.ofNat 0))) (aOne (cTup (aOne (cCon (.str [100])) (aOne (cTup aNil) aNil))) aNil))) aNil)) aNil)))))) tYes (cCall C 50 (aOne (cVar 0) (aOne (cVar 2) (aOne (cVar 4) (aOne (cVar 3) aNil))))))))) (bCons (sAsg (gSlot 1) (cBin .add (cBin .add (cVar 1) (cLst (sLc [4] (gSlot 4) (iSeq (cTup (aOne (cCon .non) (aOne (cTup (aOne (cCon (.str [115])) (aOne (cTup (aOne (cCon (.int (.ofNat 0))) aNil)) aNil))) (aOne (cCon (.int (.ofNat 100))) aNil))))) tYes (cCall C 50 (aOne (cVar 0) (aOne (cVar 2) (aOne (cTup aNil) (aOne (cVar 4) aNil)))))))) (cLst (sLc [4] (gSlot 4) (iSeq (cTup (aOne (cCon .non) (aOne (cTup aNil) (aOne (cRevA (cVar 2)) aNil))))) tYes (cCall C 50 (aOne (cVar 0) (aOne (cVar 4) (aOne (cTup aNil) (aOne (cVar 3) aNil))))))))) bNil))) (bCons (sFor (gSlot 0) (iRng1 (cCon (.int (.ofNat 5)))) (bCons (sAsg (gSlot 1) (cBin .add (cBin .add (cVar 1) (cLst (sLc [4] (gSlot 4) (iSeq (cTup (aOne (cCon .non) (aOne (cTup (aOne (cCon (.int (.ofNat 1))) (aOne (cCon (.int (.ofNat 0))) aNil))) (aOne (cTup (aOne (cCon (.int (.ofNat 0))) (aOne (cCon (.int (.ofNat 0))) aNil))) (aOne (cTup (aOne (cNeg (cCon (.int (.ofNat 1)))) aNil)) (aOne (cTup (aOne (cCon (.int (.ofNat 100))) aNil)) (aOne (cCon (.int (.ofNat 0))) (aOne (cTup (aOne (cCon (.bl true)) aNil)) aNil))))))))) tYes (cCall C 51 (aOne (cVar 0) (aOne (cVar 2) (aOne (cTup aNil) (aOne (cVar 4) aNil)))))))) (cLst (aOne (cCall C 51 (aOne (cVar 0) (aOne (cVar 2) (aOne (cTup (aOne (cTup (aOne (cCon (.int (.ofNat 0))) (aOne (cCon (.int (.ofNat 0))) aNil))) aNil)) (aOne (cTup (aOne (cCon (.int (.ofNat 0))) aNil)) aNil))))) (aOne (cCall C 51 (aOne (cVar 0) (aOne (cTup aNil) (aOne (cTup aNil) (aOne (cTup aNil) aNil))))) aNil))))) bNil)) (bCons (sAsg (gSlot 1) (cBin .add (cVar 1) (cLst (sLc [4] (gSlot 4) (iSeq (cTup (aOne (cTup (aOne (cTup (aOne (cCon (.int (.ofNat 0))) (aOne (cVar 3) aNil))) aNil)) (aOne (cTup (aOne (cTup (aOne (cCon (.int (.ofNat 0))) (aOne (cCon (.int (.ofNat 1))) aNil))) aNil)) (aOne (cTup (aOne (cTup (aOne (cCon (.int (.ofNat 1))) (aOne (cTup (aOne (cCon (.str [115])) (aOne (cTup (aOne (cCon (.int (.ofNat 0))) (aOne (cCon (.int (.ofNat 1))) aNil))) aNil))) aNil))) aNil)) (aOne (cTup (aOne (cTup (aOne (cCon (.int (.ofNat 0))) (aOne (cCon (.int (.ofNat 2))) aNil))) (aOne (cTup (aOne (cCon (.int (.ofNat 1))) (aOne (cCon (.int (.ofNat 2))) aNil))) aNil))) aNil)))))) tYes (cCall C 51 (aOne (cCon (.int (.ofNat 4))) (aOne (cVar 2) (aOne (cVar 4) (aOne (cTup (aOne (cCon (.int (.ofNat 0))) (aOne (cCon (.int (.ofNat 1))) aNil))) aNil))))))))) (bCons (sRet (cCall C 44 (aOne (cVar 1) (aOne (cBin .add (cBin .mul (cLst (aOne (cCon (.bl true)) aNil)) (cCon (.int (.ofNat 105)))) (cBin .mul (cLst (aOne (cLst (aOne (cCon (.str [99, 97, 110, 110, 111, 116])) (aOne (cCon (.bl true)) aNil))) aNil)) (cCon (.int (.ofNat 4))))) aNil)))) bNil)))))
/-- law: script urn part soft -/
def lawRest (C : CallT) : Stm :=
  (bCons (sRet (cIte (tCmp .eq (cVar 2) (cCon (.int (.ofNat 0)))) (cCall C 48 (aOne (cVar 3) aNil)) (cIte (tCmp .eq (cVar 2) (cCon (.int (.ofNat 1)))) (cCall C 49 aNil) (cCall C 52 aNil)))) bNil)
def b53 (R : CallT → Stm) (C : CallT) : Stm :=
  (bCons (sAsg (gSlot 1) (cCall C 41 (aOne (cCall C 43 (aOne (cVar 0) (aOne (cCon (.int (.ofNat 1))) aNil))) (aOne (cCon (.int (.ofNat 0))) aNil)))) (bCons (sPar [2, 3] (aOne (cCall C 42 (aOne (cVar 1) (aOne (cCon (.int (.ofNat 3))) aNil))) (aOne (cCmp .eq (cCall C 42 (aOne (cVar 1) (aOne (cCon (.int (.ofNat 2))) aNil))) (cCon (.int (.ofNat 0)))) aNil))) (R C)))
def PR (R : CallT → Stm) : Prog := ⟨fun n => (bif Nat.blt n 27 then (bif Nat.blt n 13 then (bif Nat.blt n 6 then (bif Nat.blt n 3 then (bif Nat.blt n 1 then some ⟨1, 1, [], b0⟩ else (bif Nat.blt n 2 then some ⟨2, 2, [], b1⟩ else some ⟨2, 2, [], b2⟩)) else (bif Nat.blt n 4 then some ⟨1, 2, [], b3⟩ else (bif Nat.blt n 5 then some ⟨1, 1, [], b4⟩ else some ⟨2, 5, [], b5⟩))) else (bif Nat.blt n 9 then (bif Nat.blt n 7 then some ⟨1, 2, [], b6⟩ else (bif Nat.blt n 8 then some ⟨1, 1, [], b7⟩ else some ⟨1, 4, [], b8⟩)) else (bif Nat.blt n 11 then (bif Nat.blt n 10 then some ⟨1, 2, [], b9⟩ else some ⟨1, 4, [], b10⟩) else (bif Nat.blt n 12 then some ⟨2, 5, [], b11⟩ else some ⟨2, 4, [], b12⟩)))) else (bif Nat.blt n 20 then (bif Nat.blt n 16 then (bif Nat.blt n 14 then some ⟨2, 3, [], b13⟩ else (bif Nat.blt n 15 then some ⟨2, 6, [], b14⟩ else some ⟨1, 1, [], b15⟩)) else (bif Nat.blt n 18 then (bif Nat.blt n 17 then some ⟨2, 4, [], b16⟩ else some ⟨1, 7, [], b17⟩) else (bif Nat.blt n 19 then some ⟨1, 3, [], b18⟩ else some ⟨2, 9, [], b19⟩))) else (bif Nat.blt n 23 then (bif Nat.blt n 21 then some ⟨2, 4, [], b20⟩ else (bif Nat.blt n 22 then some ⟨2, 4, [], b21⟩ else some ⟨2, 5, [], b22⟩)) else (bif Nat.blt n 25 then (bif Nat.blt n 24 then some ⟨3, 4, [], b23⟩ else some ⟨2, 5, [], b24⟩) else (bif Nat.blt n 26 then some ⟨2, 2, [], b25⟩ else some ⟨2, 3, [], b26⟩))))) else (bif Nat.blt n 41 then (bif Nat.blt n 34 then (bif Nat.blt n 30 then (bif Nat.blt n 28 then some ⟨1, 2, [], b27⟩ else (bif Nat.blt n 29 then some ⟨3, 6, [], b28⟩ else some ⟨2, 5, [], b29⟩)) else (bif Nat.blt n 32 then (bif Nat.blt n 31 then some ⟨3, 6, [], b30⟩ else some ⟨3, 9, [], b31⟩) else (bif Nat.blt n 33 then some ⟨3, 6, [], b32⟩ else some ⟨3, 7, [], b33⟩))) else (bif Nat.blt n 37 then (bif Nat.blt n 35 then some ⟨3, 7, [], b34⟩ else (bif Nat.blt n 36 then some ⟨3, 9, [], b35⟩ else some ⟨4, 9, [], b36⟩)) else (bif Nat.blt n 39 then (bif Nat.blt n 38 then some ⟨3, 9, [], b37⟩ else some ⟨1, 3, [], b38⟩) else (bif Nat.blt n 40 then some ⟨3, 7, [], b39⟩ else some ⟨3, 9, [], b40⟩)))) else (bif Nat.blt n 48 then (bif Nat.blt n 44 then (bif Nat.blt n 42 then some ⟨2, 2, [], boxB⟩ else (bif Nat.blt n 43 then some ⟨2, 2, [], takeB⟩ else some ⟨2, 2, [], cellsB⟩)) else (bif Nat.blt n 46 then (bif Nat.blt n 45 then some ⟨2, 4, [], b44⟩ else some ⟨1, 2, [], b45⟩) else (bif Nat.blt n 47 then some ⟨1, 1, [], b46⟩ else some ⟨0, 3, [], b47⟩))) else (bif Nat.blt n 51 then (bif Nat.blt n 49 then some ⟨1, 10, [], b48⟩ else (bif Nat.blt n 50 then some ⟨0, 6, [], b49⟩ else some ⟨4, 5, [], b50⟩)) else (bif Nat.blt n 53 then (bif Nat.blt n 52 then some ⟨4, 5, [], b51⟩ else some ⟨0, 5, [], b52⟩) else (bif Nat.blt n 54 then some ⟨1, 4, [], b53 R⟩ else none)))))), fun _ => none⟩
def P : Prog := PR lawRest
def LAW : Nat := 53
end
abbrev FnP (K : PySem.W.Frag) (x y : Str) (st : Stmt) (f : Addr) (fd : FuncData) : Prop := FunD K x y (defArgs st) (defBody st) (defScope st) [] [] f fd
abbrev s0 : Stmt := topS 4
theorem sc0 : FnScope ["thing"] ["thing"] (defScope s0) := ⟨rfl, rfl, rfl, by decide +kernel, rfl, by decide +kernel, by decide +kernel⟩
abbrev s1 : Stmt := topS 5
theorem sc1 : FnScope ["thing", "many"] ["thing", "many"] (defScope s1) := ⟨rfl, rfl, rfl, by decide +kernel, rfl, by decide +kernel, by decide +kernel⟩
abbrev s2 : Stmt := topS 6
theorem sc2 : FnScope ["thing", "many"] ["thing", "many"] (defScope s2) := ⟨rfl, rfl, rfl, by decide +kernel, rfl, by decide +kernel, by decide +kernel⟩
abbrev s3 : Stmt := topS 7
theorem sc3 : FnScope ["thing", "part"] ["thing"] (defScope s3) := ⟨rfl, rfl, rfl, by decide +kernel, rfl, by decide +kernel, by decide +kernel⟩
abbrev s4 : Stmt := topS 8
theorem sc4 : FnScope ["good"] ["good"] (defScope s4) := ⟨rfl, rfl, rfl, by decide +kernel, rfl, by decide +kernel, by decide +kernel⟩
abbrev s5 : Stmt := topS 9
theorem sc5 : FnScope ["thing", "many", "near", "far", "own"] ["thing", "many"] (defScope s5) := ⟨rfl, rfl, rfl, by decide +kernel, rfl, by decide +kernel, by decide +kernel⟩
abbrev s6 : Stmt := topS 19
theorem sc6 : FnScope ["thing", "own"] ["thing"] (defScope s6) := ⟨rfl, rfl, rfl, by decide +kernel, rfl, by decide +kernel, by decide +kernel⟩
abbrev s7 : Stmt := topS 20
theorem sc7 : FnScope ["thing"] ["thing"] (defScope s7) := ⟨rfl, rfl, rfl, by decide +kernel, rfl, by decide +kernel, by decide +kernel⟩
abbrev s8 : Stmt := topS 21
theorem sc8 : FnScope ["thing", "near", "far", "own"] ["thing"] (defScope s8) := ⟨rfl, rfl, rfl, by decide +kernel, rfl, by decide +kernel, by decide +kernel⟩
abbrev s9 : Stmt := topS 22
theorem sc9 : FnScope ["book", "own"] ["book"] (defScope s9) := ⟨rfl, rfl, rfl, by decide +kernel, rfl, by decide +kernel, by decide +kernel⟩
abbrev s10 : Stmt := topS 23
theorem sc10 : FnScope ["book", "name", "kind", "many"] ["book"] (defScope s10) := ⟨rfl, rfl, rfl, by decide +kernel, rfl, by decide +kernel, by decide +kernel⟩
abbrev s11 : Stmt := topS 24
theorem sc11 : FnScope ["signs", "thing", "good", "kind", "many"] ["signs", "thing"] (defScope s11) := ⟨rfl, rfl, rfl, by decide +kernel, rfl, by decide +kernel, by decide +kernel⟩
abbrev s12 : Stmt := topS 25
theorem sc12 : FnScope ["signs", "thing", "line", "parts"] ["signs", "thing"] (defScope s12) := ⟨rfl, rfl, rfl, by decide +kernel, rfl, by decide +kernel, by decide +kernel⟩
abbrev s13 : Stmt := topS 26
theorem sc13 : FnScope ["book", "term", "own"] ["book", "term"] (defScope s13) := ⟨rfl, rfl, rfl, by decide +kernel, rfl, by decide +kernel, by decide +kernel⟩
abbrev s14 : Stmt := topS 27
theorem sc14 : FnScope ["book", "equations", "own", "signs", "pair", "term"] ["book", "equations"] (defScope s14) := ⟨rfl, rfl, rfl, by decide +kernel, rfl, by decide +kernel, by decide +kernel⟩
abbrev s15 : Stmt := topS 28
theorem sc15 : FnScope ["own"] ["own"] (defScope s15) := ⟨rfl, rfl, rfl, by decide +kernel, rfl, by decide +kernel, by decide +kernel⟩
abbrev s16 : Stmt := topS 29
theorem sc16 : FnScope ["signs", "own", "below", "part"] ["signs", "own"] (defScope s16) := ⟨rfl, rfl, rfl, by decide +kernel, rfl, by decide +kernel, by decide +kernel⟩
abbrev s17 : Stmt := topS 30
theorem sc17 : FnScope ["own", "found", "line", "path", "here", "place", "part"] ["own"] (defScope s17) := ⟨rfl, rfl, rfl, by decide +kernel, rfl, by decide +kernel, by decide +kernel⟩
abbrev s18 : Stmt := topS 31
theorem sc18 : FnScope ["own", "_", "here"] ["own"] (defScope s18) := ⟨rfl, rfl, rfl, by decide +kernel, rfl, by decide +kernel, by decide +kernel⟩
abbrev s19 : Stmt := topS 33
theorem sc19 : FnScope ["signs", "own", "behind", "name", "parts", "words", "keys", "part", "key"] ["signs", "own"] (defScope s19) := ⟨rfl, rfl, rfl, by decide +kernel, rfl, by decide +kernel, by decide +kernel⟩
abbrev s20 : Stmt := topS 34
theorem sc20 : FnScope ["signs", "forms", "_", "own"] ["signs", "forms"] (defScope s20) := ⟨rfl, rfl, rfl, by decide +kernel, rfl, by decide +kernel, by decide +kernel⟩
abbrev s21 : Stmt := topS 35
theorem sc21 : FnScope ["name", "parts", "found", "part"] ["name", "parts"] (defScope s21) := ⟨rfl, rfl, rfl, by decide +kernel, rfl, by decide +kernel, by decide +kernel⟩
abbrev s22 : Stmt := topS 36
theorem sc22 : FnScope ["signs", "own", "name", "parts", "part"] ["signs", "own"] (defScope s22) := ⟨rfl, rfl, rfl, by decide +kernel, rfl, by decide +kernel, by decide +kernel⟩
abbrev s23 : Stmt := topS 37
theorem sc23 : FnScope ["signs", "name", "forms", "some"] ["signs", "name", "forms"] (defScope s23) := ⟨rfl, rfl, rfl, by decide +kernel, rfl, by decide +kernel, by decide +kernel⟩
abbrev s24 : Stmt := topS 39
theorem sc24 : FnScope ["signs", "thing", "own", "near", "far"] ["signs", "thing"] (defScope s24) := ⟨rfl, rfl, rfl, by decide +kernel, rfl, by decide +kernel, by decide +kernel⟩
abbrev s25 : Stmt := topS 40
theorem sc25 : FnScope ["book", "thing"] ["book", "thing"] (defScope s25) := ⟨rfl, rfl, rfl, by decide +kernel, rfl, by decide +kernel, by decide +kernel⟩
abbrev s26 : Stmt := topS 41
theorem sc26 : FnScope ["book", "answer", "own"] ["book", "answer"] (defScope s26) := ⟨rfl, rfl, rfl, by decide +kernel, rfl, by decide +kernel, by decide +kernel⟩
abbrev s27 : Stmt := topS 42
theorem sc27 : FnScope ["unknowns", "own"] ["unknowns"] (defScope s27) := ⟨rfl, rfl, rfl, by decide +kernel, rfl, by decide +kernel, by decide +kernel⟩
abbrev s28 : Stmt := topS 43
theorem sc28 : FnScope ["signs", "pairs", "own", "name", "parts", "part"] ["signs", "pairs", "own"] (defScope s28) := ⟨rfl, rfl, rfl, by decide +kernel, rfl, by decide +kernel, by decide +kernel⟩
abbrev s29 : Stmt := topS 44
theorem sc29 : FnScope ["signs", "pairs", "found", "own", "pair"] ["signs", "pairs"] (defScope s29) := ⟨rfl, rfl, rfl, by decide +kernel, rfl, by decide +kernel, by decide +kernel⟩
abbrev s30 : Stmt := topS 45
theorem sc30 : FnScope ["book", "answer", "term", "own", "pairs", "signs"] ["book", "answer", "term"] (defScope s30) := ⟨rfl, rfl, rfl, by decide +kernel, rfl, by decide +kernel, by decide +kernel⟩
abbrev s31 : Stmt := topS 46
theorem sc31 : FnScope ["book", "answer", "equations", "own", "some", "pairs", "signs", "left", "right"] ["book", "answer", "equations"] (defScope s31) := ⟨rfl, rfl, rfl, by decide +kernel, rfl, by decide +kernel, by decide +kernel⟩
abbrev s32 : Stmt := topS 47
theorem sc32 : FnScope ["signs", "one", "other", "found", "unknown", "term"] ["signs", "one", "other"] (defScope s32) := ⟨rfl, rfl, rfl, by decide +kernel, rfl, by decide +kernel, by decide +kernel⟩
abbrev s33 : Stmt := topS 48
theorem sc33 : FnScope ["book", "one", "other", "own", "near", "far", "signs"] ["book", "one", "other"] (defScope s33) := ⟨rfl, rfl, rfl, by decide +kernel, rfl, by decide +kernel, by decide +kernel⟩
abbrev s34 : Stmt := topS 49
theorem sc34 : FnScope ["book", "answer", "unknowns", "own", "pairs", "some", "unknown"] ["book", "answer", "unknowns"] (defScope s34) := ⟨rfl, rfl, rfl, by decide +kernel, rfl, by decide +kernel, by decide +kernel⟩
abbrev s35 : Stmt := topS 50
theorem sc35 : FnScope ["book", "equations", "answer", "own", "some", "pairs", "signs", "left", "right"] ["book", "equations", "answer"] (defScope s35) := ⟨rfl, rfl, rfl, by decide +kernel, rfl, by decide +kernel, by decide +kernel⟩
abbrev s36 : Stmt := topS 51
theorem sc36 : FnScope ["book", "one", "other", "unknowns", "own", "near", "far", "signs", "unknown"] ["book", "one", "other", "unknowns"] (defScope s36) := ⟨rfl, rfl, rfl, by decide +kernel, rfl, by decide +kernel, by decide +kernel⟩
abbrev s37 : Stmt := topS 52
theorem sc37 : FnScope ["book", "answer", "unknowns", "own", "found", "pairs", "signs", "unknown", "some"] ["book", "answer", "unknowns"] (defScope s37) := ⟨rfl, rfl, rfl, by decide +kernel, rfl, by decide +kernel, by decide +kernel⟩
abbrev s38 : Stmt := topS 53
theorem sc38 : FnScope ["pairs", "goals", "goal"] ["pairs"] (defScope s38) := ⟨rfl, rfl, rfl, by decide +kernel, rfl, by decide +kernel, by decide +kernel⟩
abbrev s39 : Stmt := topS 54
theorem sc39 : FnScope ["book", "answer", "unknowns", "own", "pairs", "some", "unknown"] ["book", "answer", "unknowns"] (defScope s39) := ⟨rfl, rfl, rfl, by decide +kernel, rfl, by decide +kernel, by decide +kernel⟩
abbrev s40 : Stmt := topS 55
theorem sc40 : FnScope ["book", "answer", "unknowns", "own", "goals", "pairs", "some", "unknown", "goal"] ["book", "answer", "unknowns"] (defScope s40) := ⟨rfl, rfl, rfl, by decide +kernel, rfl, by decide +kernel, by decide +kernel⟩
abbrev s41 : Stmt := topS 57
theorem sc41 : FnScope ["script", "k", "cell"] ["script", "k"] (defScope s41) := ⟨rfl, rfl, rfl, by decide +kernel, rfl, by decide +kernel, by decide +kernel⟩
abbrev s42 : Stmt := topS 58
theorem sc42 : FnScope ["urn", "below", "once", "far", "twice", "drawn"] ["urn", "below"] (defScope s42) := ⟨rfl, rfl, rfl, by decide +kernel, rfl, by decide +kernel, by decide +kernel⟩
abbrev s43 : Stmt := topS 59
theorem sc43 : FnScope ["script", "many", "cells", "k", "cell", "at"] ["script", "many"] (defScope s43) := ⟨rfl, rfl, rfl, by decide +kernel, rfl, by decide +kernel, by decide +kernel⟩
abbrev s44 : Stmt := topS 60
theorem sc44 : FnScope ["got", "due", "mine", "own"] ["got", "due"] (defScope s44) := ⟨rfl, rfl, rfl, by decide +kernel, rfl, by decide +kernel, by decide +kernel⟩
abbrev s45 : Stmt := topS 61
theorem sc45 : FnScope ["matter", "own"] ["matter"] (defScope s45) := ⟨rfl, rfl, rfl, by decide +kernel, rfl, by decide +kernel, by decide +kernel⟩
abbrev s46 : Stmt := topS 62
theorem sc46 : FnScope ["name"] ["name"] (defScope s46) := ⟨rfl, rfl, rfl, by decide +kernel, rfl, by decide +kernel, by decide +kernel⟩
abbrev s47 : Stmt := topS 63
theorem sc47 : FnScope ["rows", "name", "many"] [] (defScope s47) := ⟨rfl, rfl, rfl, by decide +kernel, rfl, by decide +kernel, by decide +kernel⟩
abbrev s48 : Stmt := topS 64
theorem sc48 : FnScope ["soft", "got", "due", "book", "a", "b", "one", "other", "near", "far"] ["soft"] (defScope s48) := ⟨rfl, rfl, rfl, by decide +kernel, rfl, by decide +kernel, by decide +kernel⟩
abbrev s49 : Stmt := topS 65
theorem sc49 : FnScope ["good", "bad", "got", "book", "a", "own"] [] (defScope s49) := ⟨rfl, rfl, rfl, by decide +kernel, rfl, by decide +kernel, by decide +kernel⟩
abbrev s50 : Stmt := topS 66
theorem sc50 : FnScope ["door", "book", "answer", "term", "caught"] ["door", "book", "answer", "term"] (defScope s50) := ⟨rfl, rfl, rfl, by decide +kernel, rfl, by decide +kernel, by decide +kernel⟩
abbrev s51 : Stmt := topS 67
theorem sc51 : FnScope ["door", "book", "answer", "unknowns", "caught"] ["door", "book", "answer", "unknowns"] (defScope s51) := ⟨rfl, rfl, rfl, by decide +kernel, rfl, by decide +kernel, by decide +kernel⟩
abbrev s52 : Stmt := topS 68
theorem sc52 : FnScope ["door", "got", "book", "a", "own"] [] (defScope s52) := ⟨rfl, rfl, rfl, by decide +kernel, rfl, by decide +kernel, by decide +kernel⟩
abbrev s53 : Stmt := topS 69
theorem sc53 : FnScope ["script", "urn", "part", "soft"] ["script"] (defScope s53) := ⟨rfl, rfl, rfl, by decide +kernel, rfl, by decide +kernel, by decide +kernel⟩
structure Fx (PM : Program) (K : PySem.W.Frag) (mg : Str → Option Value) (G : GM) (fa ca : Nat → Addr) (fd : Nat → FuncData) : Prop where
  sk : ScrK G K
  g0 : mg "is_number" = some (.ref (fa 0))
  F0 : FnP K "is_number" "is_number" s0 (fa 0) (fd 0)
  B0 : Binds K (fd 0) ["thing"] []
  g1 : mg "is_below" = some (.ref (fa 1))
  F1 : FnP K "is_below" "is_below" s1 (fa 1) (fd 1)
  B1 : Binds K (fd 1) ["thing", "many"] []
  g2 : mg "is_tuple_of" = some (.ref (fa 2))
  F2 : FnP K "is_tuple_of" "is_tuple_of" s2 (fa 2) (fd 2)
  B2 : Binds K (fd 2) ["thing", "many"] []
  g3 : mg "tuple_of" = some (.ref (fa 3))
  F3 : FnP K "tuple_of" "tuple_of" s3 (fa 3) (fd 3)
  B3 : Binds K (fd 3) ["thing"] []
  g4 : mg "sure" = some (.ref (fa 4))
  F4 : FnP K "sure" "sure" s4 (fa 4) (fd 4)
  B4 : Binds K (fd 4) ["good"] []
  g5 : mg "is_number_set" = some (.ref (fa 5))
  F5 : FnP K "is_number_set" "is_number_set" s5 (fa 5) (fd 5)
  B5 : Binds K (fd 5) ["thing", "many"] []
  g6 : mg "is_sign_name" = some (.ref (fa 6))
  F6 : FnP K "is_sign_name" "is_sign_name" s6 (fa 6) (fd 6)
  B6 : Binds K (fd 6) ["thing"] []
  g7 : mg "is_sign" = some (.ref (fa 7))
  F7 : FnP K "is_sign" "is_sign" s7 (fa 7) (fd 7)
  B7 : Binds K (fd 7) ["thing"] []
  g8 : mg "is_book" = some (.ref (fa 8))
  F8 : FnP K "is_book" "is_book" s8 (fa 8) (fd 8)
  B8 : Binds K (fd 8) ["thing"] []
  g9 : mg "sure_book" = some (.ref (fa 9))
  F9 : FnP K "sure_book" "sure_book" s9 (fa 9) (fd 9)
  B9 : Binds K (fd 9) ["book"] []
  g10 : mg "signs_of" = some (.ref (fa 10))
  F10 : FnP K "signs_of" "signs_of" s10 (fa 10) (fd 10)
  B10 : Binds K (fd 10) ["book"] []
  g11 : mg "parts_fit" = some (.ref (fa 11))
  F11 : FnP K "parts_fit" "parts_fit" s11 (fa 11) (fd 11)
  B11 : Binds K (fd 11) ["signs", "thing"] []
  g12 : mg "is_term_by" = some (.ref (fa 12))
  F12 : FnP K "is_term_by" "is_term_by" s12 (fa 12) (fd 12)
  B12 : Binds K (fd 12) ["signs", "thing"] []
  g13 : mg "sure_term" = some (.ref (fa 13))
  F13 : FnP K "sure_term" "sure_term" s13 (fa 13) (fd 13)
  B13 : Binds K (fd 13) ["book", "term"] []
  g14 : mg "sure_equations" = some (.ref (fa 14))
  F14 : FnP K "sure_equations" "sure_equations" s14 (fa 14) (fd 14)
  B14 : Binds K (fd 14) ["book", "equations"] []
  g15 : mg "parts_in" = some (.ref (fa 15))
  F15 : FnP K "parts_in" "parts_in" s15 (fa 15) (fd 15)
  B15 : Binds K (fd 15) ["own"] []
  g16 : mg "words_in" = some (.ref (fa 16))
  F16 : FnP K "words_in" "words_in" s16 (fa 16) (fd 16)
  B16 : Binds K (fd 16) ["signs", "own"] []
  g17 : mg "walked" = some (.ref (fa 17))
  F17 : FnP K "walked" "walked" s17 (fa 17) (fd 17)
  B17 : Binds K (fd 17) ["own"] []
  g18 : mg "unknowns_in" = some (.ref (fa 18))
  F18 : FnP K "unknowns_in" "unknowns_in" s18 (fa 18) (fd 18)
  B18 : Binds K (fd 18) ["own"] []
  g19 : mg "key_of" = some (.ref (fa 19))
  F19 : FnP K "key_of" "key_of" s19 (fa 19) (fd 19)
  B19 : Binds K (fd 19) ["signs", "own"] []
  g20 : mg "in_order" = some (.ref (fa 20))
  F20 : FnP K "in_order" "in_order" s20 (fa 20) (fd 20)
  B20 : Binds K (fd 20) ["signs", "forms"] []
  g21 : mg "flat_parts" = some (.ref (fa 21))
  F21 : FnP K "flat_parts" "flat_parts" s21 (fa 21) (fd 21)
  B21 : Binds K (fd 21) ["name", "parts"] []
  g22 : mg "formed_by" = some (.ref (fa 22))
  F22 : FnP K "formed_by" "formed_by" s22 (fa 22) (fd 22)
  B22 : Binds K (fd 22) ["signs", "own"] []
  g23 : mg "bag_of" = some (.ref (fa 23))
  F23 : FnP K "bag_of" "bag_of" s23 (fa 23) (fd 23)
  B23 : Binds K (fd 23) ["signs", "name", "forms"] []
  g24 : mg "is_answer_by" = some (.ref (fa 24))
  F24 : FnP K "is_answer_by" "is_answer_by" s24 (fa 24) (fd 24)
  B24 : Binds K (fd 24) ["signs", "thing"] []
  g25 : mg "is_answer" = some (.ref (fa 25))
  F25 : FnP K "is_answer" "is_answer" s25 (fa 25) (fd 25)
  B25 : Binds K (fd 25) ["book", "thing"] []
  g26 : mg "sure_answer" = some (.ref (fa 26))
  F26 : FnP K "sure_answer" "sure_answer" s26 (fa 26) (fd 26)
  B26 : Binds K (fd 26) ["book", "answer"] []
  g27 : mg "sure_unknowns" = some (.ref (fa 27))
  F27 : FnP K "sure_unknowns" "sure_unknowns" s27 (fa 27) (fd 27)
  B27 : Binds K (fd 27) ["unknowns"] []
  g28 : mg "put_told" = some (.ref (fa 28))
  F28 : FnP K "put_told" "put_told" s28 (fa 28) (fd 28)
  B28 : Binds K (fd 28) ["signs", "pairs", "own"] []
  g29 : mg "answer_of" = some (.ref (fa 29))
  F29 : FnP K "answer_of" "answer_of" s29 (fa 29) (fd 29)
  B29 : Binds K (fd 29) ["signs", "pairs"] []
  g30 : mg "put_in" = some (.ref (fa 30))
  F30 : FnP K "put_in" "put_in" s30 (fa 30) (fd 30)
  B30 : Binds K (fd 30) ["book", "answer", "term"] []
  g31 : mg "put_in_all" = some (.ref (fa 31))
  F31 : FnP K "put_in_all" "put_in_all" s31 (fa 31) (fd 31)
  B31 : Binds K (fd 31) ["book", "answer", "equations"] []
  g32 : mg "together" = some (.ref (fa 32))
  F32 : FnP K "together" "together" s32 (fa 32) (fd 32)
  B32 : Binds K (fd 32) ["signs", "one", "other"] []
  g33 : mg "put_together" = some (.ref (fa 33))
  F33 : FnP K "put_together" "put_together" s33 (fa 33) (fd 33)
  B33 : Binds K (fd 33) ["book", "one", "other"] []
  g34 : mg "answer_kept" = some (.ref (fa 34))
  F34 : FnP K "answer_kept" "answer_kept" s34 (fa 34) (fd 34)
  B34 : Binds K (fd 34) ["book", "answer", "unknowns"] []
  g35 : mg "does_solve" = some (.ref (fa 35))
  F35 : FnP K "does_solve" "does_solve" s35 (fa 35) (fd 35)
  B35 : Binds K (fd 35) ["book", "equations", "answer"] []
  g36 : mg "do_alike" = some (.ref (fa 36))
  F36 : FnP K "do_alike" "do_alike" s36 (fa 36) (fd 36)
  B36 : Binds K (fd 36) ["book", "one", "other", "unknowns"] []
  g37 : mg "left_open" = some (.ref (fa 37))
  F37 : FnP K "left_open" "left_open" s37 (fa 37) (fd 37)
  B37 : Binds K (fd 37) ["book", "answer", "unknowns"] []
  g38 : mg "is_exchange" = some (.ref (fa 38))
  F38 : FnP K "is_exchange" "is_exchange" s38 (fa 38) (fd 38)
  B38 : Binds K (fd 38) ["pairs"] []
  g39 : mg "is_renaming" = some (.ref (fa 39))
  F39 : FnP K "is_renaming" "is_renaming" s39 (fa 39) (fd 39)
  B39 : Binds K (fd 39) ["book", "answer", "unknowns"] []
  g40 : mg "renaming_back" = some (.ref (fa 40))
  F40 : FnP K "renaming_back" "renaming_back" s40 (fa 40) (fd 40)
  B40 : Binds K (fd 40) ["book", "answer", "unknowns"] []
  g41 : mg "_law_box" = some (.ref (fa 41))
  F41 : FnP K "_law_box" "_law_box" s41 (fa 41) (fd 41)
  B41 : Binds K (fd 41) ["script", "k"] []
  g42 : mg "_law_take" = some (.ref (fa 42))
  F42 : FnP K "_law_take" "_law_take" s42 (fa 42) (fd 42)
  B42 : Binds K (fd 42) ["urn", "below"] []
  g43 : mg "_law_cells" = some (.ref (fa 43))
  F43 : FnP K "_law_cells" "_law_cells" s43 (fa 43) (fd 43)
  B43 : Binds K (fd 43) ["script", "many"] []
  g44 : mg "_law_same" = some (.ref (fa 44))
  F44 : FnP K "_law_same" "_law_same" s44 (fa 44) (fd 44)
  B44 : Binds K (fd 44) ["got", "due"] []
  g45 : mg "_law_lists" = some (.ref (fa 45))
  F45 : FnP K "_law_lists" "_law_lists" s45 (fa 45) (fd 45)
  B45 : Binds K (fd 45) ["matter"] []
  g46 : mg "_law_kind" = some (.ref (fa 46))
  F46 : FnP K "_law_kind" "_law_kind" s46 (fa 46) (fd 46)
  B46 : Binds K (fd 46) ["name"] []
  g47 : mg "_law_book" = some (.ref (fa 47))
  F47 : FnP K "_law_book" "_law_book" s47 (fa 47) (fd 47)
  B47 : Binds K (fd 47) [] []
  g48 : mg "_law_told_right" = some (.ref (fa 48))
  F48 : FnP K "_law_told_right" "_law_told_right" s48 (fa 48) (fd 48)
  B48 : Binds K (fd 48) ["soft"] []
  g49 : mg "_law_near_right" = some (.ref (fa 49))
  F49 : FnP K "_law_near_right" "_law_near_right" s49 (fa 49) (fd 49)
  B49 : Binds K (fd 49) [] []
  g50 : mg "_law_try" = some (.ref (fa 50))
  F50 : FnP K "_law_try" "_law_try" s50 (fa 50) (fd 50)
  B50 : Binds K (fd 50) ["door", "book", "answer", "term"] []
  g51 : mg "_law_open" = some (.ref (fa 51))
  F51 : FnP K "_law_open" "_law_open" s51 (fa 51) (fd 51)
  B51 : Binds K (fd 51) ["door", "book", "answer", "unknowns"] []
  g52 : mg "_law_refused_right" = some (.ref (fa 52))
  F52 : FnP K "_law_refused_right" "_law_refused_right" s52 (fa 52) (fd 52)
  B52 : Binds K (fd 52) [] []
  g53 : mg "law" = some (.ref (fa 53))
  F53 : FnP K "law" "law" s53 (fa 53) (fd 53)
  B53 : Binds K (fd 53) ["script"] []
  b_ValueError : mg "ValueError" = none
  b_abs : mg "abs" = none
  b_all : mg "all" = none
  b_any : mg "any" = none
  b_bool : mg "bool" = none
  b_dict : mg "dict" = none
  b_enumerate : mg "enumerate" = none
  b_int : mg "int" = none
  b_isinstance : mg "isinstance" = none
  b_len : mg "len" = none
  b_list : mg "list" = none
  b_range : mg "range" = none
  b_set : mg "set" = none
  b_sorted : mg "sorted" = none
  b_str : mg "str" = none
  b_sum : mg "sum" = none
  b_tuple : mg "tuple" = none
  b_zip : mg "zip" = none
  c_BAG : ∃ t, mg "BAG" = some (.str (toS [98, 97, 103]) t)
  c_MOST_NAME : ∃ t, mg "MOST_NAME" = some (.int 8 t)
  c_MOST_PLAIN : ∃ t, mg "MOST_PLAIN" = some (.int 3 t)
  c_MOST_SIGNS : ∃ t, mg "MOST_SIGNS" = some (.int 8 t)
  c_MOST_UNKNOWN : ∃ t, mg "MOST_UNKNOWN" = some (.int 100 t)
  c_PLAIN : ∃ t, mg "PLAIN" = some (.str (toS [112, 108, 97, 105, 110]) t)
  c_SMALL : ∃ t, mg "SMALL" = some (.str (toS [97, 98, 99, 100, 101, 102, 103, 104, 105, 106, 107, 108, 109, 110, 111, 112, 113, 114, 115, 116, 117, 118, 119, 120, 121, 122]) t)
  c_SWAP : ∃ t, mg "SWAP" = some (.str (toS [115, 119, 97, 112]) t)
  e0 : Ex0 K mg G "Unfit" 0 (ca 0)
  e1 : Ex0 K mg G "CanNot" 1 (ca 1)
  i0_ValueError : PySem.W.kitOne K (.ref (ca 0)) (.type "ValueError") = some true
  i1_ValueError : PySem.W.kitOne K (.ref (ca 1)) (.type "ValueError") = some true
  k30_0_term_answer_book : KBn K (fd 30) ["book", "answer", "term"] 0 ["term", "answer", "book"] (fun us ws => permL (us ++ ws) [2, 1, 0]) (fun us ws => permL (us ++ ws) [2, 1, 0])
  k31_0_equations_answer_book : KBn K (fd 31) ["book", "answer", "equations"] 0 ["equations", "answer", "book"] (fun us ws => permL (us ++ ws) [2, 1, 0]) (fun us ws => permL (us ++ ws) [2, 1, 0])
  k33_0_other_one_book : KBn K (fd 33) ["book", "one", "other"] 0 ["other", "one", "book"] (fun us ws => permL (us ++ ws) [2, 1, 0]) (fun us ws => permL (us ++ ws) [2, 1, 0])
  k34_0_unknowns_answer_book : KBn K (fd 34) ["book", "answer", "unknowns"] 0 ["unknowns", "answer", "book"] (fun us ws => permL (us ++ ws) [2, 1, 0]) (fun us ws => permL (us ++ ws) [2, 1, 0])
  k35_0_equations_answer_book : KBn K (fd 35) ["book", "equations", "answer"] 0 ["equations", "answer", "book"] (fun us ws => permL (us ++ ws) [2, 0, 1]) (fun us ws => permL (us ++ ws) [2, 0, 1])
  k40_0_unknowns_book_answer : KBn K (fd 40) ["book", "answer", "unknowns"] 0 ["unknowns", "book", "answer"] (fun us ws => permL (us ++ ws) [1, 2, 0]) (fun us ws => permL (us ++ ws) [1, 2, 0])
def psL (n : Nat) : List Str := (bif Nat.blt n 27 then (bif Nat.blt n 13 then (bif Nat.blt n 6 then (bif Nat.blt n 3 then (bif Nat.blt n 1 then ["thing"] else (bif Nat.blt n 2 then ["thing", "many"] else ["thing", "many"])) else (bif Nat.blt n 4 then ["thing"] else (bif Nat.blt n 5 then ["good"] else ["thing", "many"]))) else (bif Nat.blt n 9 then (bif Nat.blt n 7 then ["thing"] else (bif Nat.blt n 8 then ["thing"] else ["thing"])) else (bif Nat.blt n 11 then (bif Nat.blt n 10 then ["book"] else ["book"]) else (bif Nat.blt n 12 then ["signs", "thing"] else ["signs", "thing"])))) else (bif Nat.blt n 20 then (bif Nat.blt n 16 then (bif Nat.blt n 14 then ["book", "term"] else (bif Nat.blt n 15 then ["book", "equations"] else ["own"])) else (bif Nat.blt n 18 then (bif Nat.blt n 17 then ["signs", "own"] else ["own"]) else (bif Nat.blt n 19 then ["own"] else ["signs", "own"]))) else (bif Nat.blt n 23 then (bif Nat.blt n 21 then ["signs", "forms"] else (bif Nat.blt n 22 then ["name", "parts"] else ["signs", "own"])) else (bif Nat.blt n 25 then (bif Nat.blt n 24 then ["signs", "name", "forms"] else ["signs", "thing"]) else (bif Nat.blt n 26 then ["book", "thing"] else ["book", "answer"]))))) else (bif Nat.blt n 41 then (bif Nat.blt n 34 then (bif Nat.blt n 30 then (bif Nat.blt n 28 then ["unknowns"] else (bif Nat.blt n 29 then ["signs", "pairs", "own"] else ["signs", "pairs"])) else (bif Nat.blt n 32 then (bif Nat.blt n 31 then ["book", "answer", "term"] else ["book", "answer", "equations"]) else (bif Nat.blt n 33 then ["signs", "one", "other"] else ["book", "one", "other"]))) else (bif Nat.blt n 37 then (bif Nat.blt n 35 then ["book", "answer", "unknowns"] else (bif Nat.blt n 36 then ["book", "equations", "answer"] else ["book", "one", "other", "unknowns"])) else (bif Nat.blt n 39 then (bif Nat.blt n 38 then ["book", "answer", "unknowns"] else ["pairs"]) else (bif Nat.blt n 40 then ["book", "answer", "unknowns"] else ["book", "answer", "unknowns"])))) else (bif Nat.blt n 48 then (bif Nat.blt n 44 then (bif Nat.blt n 42 then ["script", "k"] else (bif Nat.blt n 43 then ["urn", "below"] else ["script", "many"])) else (bif Nat.blt n 46 then (bif Nat.blt n 45 then ["got", "due"] else ["matter"]) else (bif Nat.blt n 47 then ["name"] else []))) else (bif Nat.blt n 51 then (bif Nat.blt n 49 then ["soft"] else (bif Nat.blt n 50 then [] else ["door", "book", "answer", "term"])) else (bif Nat.blt n 53 then (bif Nat.blt n 52 then ["door", "book", "answer", "unknowns"] else []) else (bif Nat.blt n 54 then ["script"] else []))))))
section
variable {PM : Program} {w : World} {K : PySem.W.Frag} {mg : Str → Option Value} {base : Heap} {G : GM} {fa ca : Nat → Addr} {n : Nat}
/-- all defs keep their promises at the level n -/
def AllOk (PM : Program) (w : World) (K : PySem.W.Frag) (mg : Str → Option Value) (base : Heap) (G : GM) (fa : Nat → Addr) (fd : Nat → FuncData) (n : Nat) : Prop := ∀ i, Nat.blt i 54 = true → FnOk PM w K mg base (CX PM w) (2 * n) (fa i) (fd i) (psL i) (SpF G K P n i)
theorem ok_take (F : FunD K "_law_take" "_law_take" (defArgs s42) (defBody s42) (defScope s42) [] [] f fd) (mI : mg "int" = none) : FnOk PM w K mg base (CX PM w) (n + 1) f fd ["urn", "below"] spTake := by
  refine F.ok sc42 (fun vs H Q E h => ?_) (fun cdv A outer s H vs Q E hr h => ?_)
  · obtain ⟨a, u, v, c, b, rfl, _⟩ := h; rfl
  refine ⟨_, pss_cons (ps_if (pt_cmp (pc_gt (pe_ix ix_list (pv 0) pe_int (fun _ _ => rfl)) pe_int))
        (pss_cons (ps_set (i := 5) sc42.nd rfl (.inl rfl) (pe_op op_mod (pe_callTy call_int1 rfl mI (by rfl) (pa_cons (pe_ix ix_list (pv 0) pe_int (fun _ _ => rfl)) pa_nil)) (pv 1)))
          (pss_cons (ps_asg (pe_op op_fdiv (pe_ix ix_list (pv 0) pe_int (fun _ _ => rfl)) (pv 1)) (pg_sub (pv 0) pe_int set_list))
            (pss_one (ps_ret (pv 5))))) pss_nil)
      (pss_cons (ps_asg (pe_op op_add (pe_ix ix_list (pv 0) pe_int (fun _ _ => rfl)) pe_int) (pg_sub (pv 0) pe_int set_list))
      (pss_cons (ps_set (i := 2) sc42.nd rfl (.inl rfl) (pe_op op_mod (pe_callTy call_int1 rfl mI (by rfl) (pa_cons (pe_op op_mul (pe_op op_add (pe_ix ix_list (pv 0) pe_int (fun _ _ => rfl)) (pe_op op_mul pe_int (pe_ix ix_list (pv 0) pe_int (fun _ _ => rfl)))) (pe_op op_add pe_int (pe_ix ix_list (pv 0) pe_int (fun _ _ => rfl)))) pa_nil)) pe_int))
      (pss_cons (ps_set (i := 3) sc42.nd rfl (.inl rfl) (pe_op op_add (pe_op op_mod (pe_callTy call_int1 rfl mI (by rfl) (pa_cons (pv 2) pa_nil)) pe_int) pe_int))
      (pss_cons (ps_set (i := 4) sc42.nd rfl (.inl rfl) (pe_op op_mod (pe_callTy call_int1 rfl mI (by rfl) (pa_cons (pe_op op_mul (pe_op op_add (pe_op op_add (pv 2) (pe_ix ix_list (pv 0) pe_int (fun _ _ => rfl))) (pe_op op_fdiv (pe_ix ix_list (pv 0) pe_int (fun _ _ => rfl)) pe_int)) (pv 3)) pa_nil)) pe_int))
        (pss_one (ps_ret (pe_op op_mod (pe_callTy call_int1 rfl mI (by rfl) (pa_cons (pe_op op_fdiv (pe_op op_mod (pe_callTy call_int1 rfl mI (by rfl) (pa_cons (pe_op op_add (pe_op op_mul (pv 4) pe_int) (pv 2)) pa_nil)) pe_int) pe_int) pa_nil)) (pv 1)))))))), ?_⟩
  · obtain ⟨a, u, v, c, b, rfl, e, c0, c1, b0, b1, q⟩ := h
    have s0 : (start ["urn", "below", "once", "far", "twice", "drawn"] [V.ref a, V.int b])[0]? = some (some (V.ref a)) := rfl
    have s1 : (start ["urn", "below", "once", "far", "twice", "drawn"] [V.ref a, V.int b])[1]? = some (some (V.int b)) := rfl
    have bi : (0 : Int) < (b : Int) := by omega
    have back : ∀ (x : Int) (u' c' : Int), 0 ≤ c' → c' ≤ c + 1 → Q (.int (x % (b : Int))) (upd H a (.lst [.int u', .int v, .int c'])) := fun x u' c' h1 h2 => by
      have n0 : 0 ≤ x % (b : Int) := Int.emod_nonneg _ (by omega)
      have nb : x % (b : Int) < b := Int.emod_lt_of_pos _ bi
      have := q (x % (b : Int)).toNat u' c' (by omega) h1 h2
      rwa [Int.toNat_of_nonneg n0] at this
    refine ⟨_, s0, a, _, 0, _, rfl, rfl, .inl (.inl e), rfl, u, 0, rfl, rfl, _, rfl, ?_⟩
    by_cases hu : u > 0
    · show (if decide (u > 0) = true then _ else _)
      rw [if_pos (decide_eq_true hu)]
      refine ⟨_, s0, a, _, 0, _, rfl, rfl, .inl (.inl e), rfl, .inl ⟨u, rfl, _, s1, u, b, rfl, rfl, bi, ?_⟩⟩
      refine ⟨_, s0, a, _, 0, _, rfl, rfl, .inl (.inl e), rfl, _, s1, u, b, rfl, rfl, ⟨bi, by omega⟩, ?_⟩
      refine ⟨_, s0, a, _, 0, 0, rfl, rfl, e, rfl, ?_⟩
      exact ⟨_, rfl, back u _ c c0 (by omega)⟩
    · show (if decide (u > 0) = true then _ else _)
      rw [if_neg (fun z => hu (of_decide_eq_true z))]
      refine ⟨_, s0, a, _, 2, _, rfl, rfl, .inl (.inl e), rfl, c, 1, rfl, rfl, ?_⟩
      refine ⟨_, s0, a, _, 2, 2, rfl, rfl, e, rfl, ?_⟩
      have e2 : upd H a (.lst ([V.int u, .int v, .int c].set 2 (.int (c + 1)))) a = some (.lst [.int u, .int v, .int (c + 1)]) := upd_same
      have l2 : SqL K (upd H a (.lst ([V.int u, .int v, .int c].set 2 (.int (c + 1))))) a [.int u, .int v, .int (c + 1)] := .inl (.inl e2)
      refine ⟨_, s0, a, _, 1, _, rfl, rfl, l2, rfl, _, s0, a, _, 2, _, rfl, rfl, l2, rfl, ?_⟩
      refine ⟨_, _, rfl, rfl, .inl ⟨by decide, by decide⟩, _, _, rfl, rfl, _, s0, a, _, 2, _, rfl, rfl, l2, rfl, _, _, rfl, rfl, _, _, rfl, rfl, .inr ⟨by omega, by omega⟩, .inl ⟨_, rfl, _, _, rfl, rfl, by show (0 : Int) < _; decide, ?_⟩⟩
      refine ⟨_, rfl, .inl ⟨_, rfl, _, _, rfl, rfl, by show (0 : Int) < _; decide, _, _, rfl, rfl, ?_⟩⟩
      refine ⟨_, rfl, _, s0, a, _, 2, _, rfl, rfl, l2, rfl, _, _, rfl, rfl, _, s0, a, _, 1, _, rfl, rfl, l2, rfl, _, _, rfl, rfl, ⟨by decide, by decide⟩, _, _, rfl, rfl, _, rfl, _, _, rfl, rfl, .inr ⟨by omega, by omega⟩, .inl ⟨_, rfl, _, _, rfl, rfl, by show (0 : Int) < _; decide, ?_⟩⟩
      exact ⟨_, rfl, _, _, rfl, rfl, .inr ⟨by decide, by decide⟩, _, rfl, _, _, rfl, rfl, .inl ⟨_, rfl, _, _, rfl, rfl, by show (0 : Int) < _; decide, _, _, rfl, rfl, ⟨by decide, by decide⟩, .inl ⟨_, rfl, _, rfl, _, _, rfl, rfl, bi, back _ u (c + 1) (by omega) (by omega)⟩⟩⟩

theorem ok_box (F : FunD K "_law_box" "_law_box" (defArgs s41) (defBody s41) (defScope s41) [] [] f fd) (mI : mg "int" = none) (mA : mg "abs" = none) (mL : mg "len" = none) : FnOk PM w K mg base (CX PM w) (n + 1) f fd ["script", "k"] (spBox K) := by
  refine F.ok sc41 (fun vs H Q E h => ?_) (fun cdv A outer s H vs Q E hr h => ?_)
  · obtain ⟨a, xs, rfl, _⟩ := h; rfl
  refine ⟨_, pss_cons (ps_set (i := 2) sc41.nd rfl (.inl rfl) (pe_ifExp (pt_cmp (pc_lt (pv 1) (pe_callB call_len rfl mL boot_len (pa_cons (pv 0) pa_nil)))) (pe_ix ix_list (pv 0) (pv 1) (fun _ _ => rfl)) pe_int))
    (pss_one (ps_ret (pe_lst (pa_cons (pe_op op_mul (pe_callB call_abs rfl mA (by rfl) (pa_cons (pv 2) pa_nil)) (pe_callTy call_int1 rfl mI (by rfl) (pa_cons (pe_cmp (pc_ge (pe_callB call_abs rfl mA (by rfl) (pa_cons (pv 2) pa_nil)) (pe_op op_pow pe_int pe_int))) pa_nil)))
      (pa_cons (pe_op op_add (pe_op op_add (pe_op op_mod (pe_callTy call_int1 rfl mI (by rfl) (pa_cons (pv 2) pa_nil)) pe_int) (pe_op op_mul pe_int (pv 1))) pe_int) (pa_cons pe_int pa_nil)))))), ?_⟩
  obtain ⟨a, xs, rfl, sq, q⟩ := h
  have s0 : (start ["script", "k", "cell"] [V.ref a, V.int 0])[0]? = some (some (V.ref a)) := rfl
  have s1 : (start ["script", "k", "cell"] [V.ref a, V.int 0])[1]? = some (some (V.int 0)) := rfl
  refine ⟨_, s1, _, s0, V.ref a, (xs.map V.int).length, rfl, .inl ⟨_, sq, rfl⟩, 0, ((xs.map V.int).length : Nat), rfl, rfl, _, rfl, ?_⟩
  have bd : ∀ b : Bool, -(2 ^ 64) < (if b = true then (1 : Int) else 0) ∧ (if b = true then (1 : Int) else 0) < 2 ^ 64 := fun b => by cases b <;> decide
  cases xs with
  | nil =>
    show (if decide ((0 : Int) < (0 : Int)) = true then _ else _)
    rw [if_neg (by decide)]
    refine ⟨_, rfl, _, rfl, _, rfl, _, rfl, 10, 18, rfl, rfl, ⟨by decide, by decide, by decide⟩, _, _, rfl, rfl, .inr ⟨_, rfl, _, _, rfl, rfl, .inr (bd _), ?_⟩⟩
    refine ⟨_, rfl, .inl ⟨_, rfl, _, _, rfl, rfl, by show (0 : Int) < _; decide, _, rfl, _, _, rfl, rfl, .inl ⟨by decide, by decide⟩, _, _, rfl, rfl, _, _, rfl, rfl, ?_⟩⟩
    exact ⟨by show 3 ≤ _; decide, fun p hn => q _ _ p hn⟩
  | cons x xs =>
    have le : (0 : Int) < (((List.map V.int (x :: xs)).length : Nat) : Int) := by simp
    show (if decide ((0 : Int) < (((List.map V.int (x :: xs)).length : Nat) : Int)) = true then _ else _)
    rw [if_pos (decide_eq_true le)]
    refine ⟨_, s0, _, s1, a, _, 0, .int x, rfl, rfl, sq, by simp [atI, ixN], ?_⟩
    refine ⟨_, rfl, _, rfl, _, rfl, _, rfl, 10, 18, rfl, rfl, ⟨by decide, by decide, by decide⟩, _, _, rfl, rfl, .inr ⟨_, rfl, _, _, rfl, rfl, .inr (bd _), ?_⟩⟩
    refine ⟨_, rfl, .inl ⟨_, rfl, _, _, rfl, rfl, by show (0 : Int) < _; decide, _, rfl, _, _, rfl, rfl, .inl ⟨by decide, by decide⟩, _, _, rfl, rfl, _, _, rfl, rfl, ?_⟩⟩
    exact ⟨by show 3 ≤ _; decide, fun p hn => q _ _ p hn⟩

theorem ok_cells (F : FunD K "_law_cells" "_law_cells" (defArgs s43) (defBody s43) (defScope s43) [] [] f fd) (mI : mg "int" = none) (mA : mg "list" = none) (mE : mg "enumerate" = none) (mL : mg "len" = none) : FnOk PM w K mg base (CX PM w) (n + 1) f fd ["script", "many"] (spCells K) := by
  refine F.ok sc43 (fun vs H Q E h => ?_) (fun cdv A outer s H vs Q E hr h => ?_)
  · obtain ⟨a, xs, rfl, _⟩ := h; rfl
  refine ⟨_, pss_cons (ps_set (i := 2) sc43.nd rfl (.inl rfl) (pe_orT (pe_callTy call_list_of rfl mA (by rfl) (pa_cons (pe_slice sl_list (pv 0) po_none (po_some (pv 1))) pa_nil)) (pe_one (pe_lst (pa_cons pe_int pa_nil)))))
    (pss_cons (ps_for (passes_of rfl) rfl (pi_enum rfl mE (pa_cons (pe_slice sl_list (pv 0) (po_some (pv 1)) (po_some pe_int)) pa_nil)) (pg_tup (n := 2) rfl (pgs_cons (pg_name (i := 3) sc43.nd rfl (.inl rfl)) (pgs_cons (pg_name (i := 4) sc43.nd rfl (.inl rfl)) pgs_nil)))
      (pss_cons (ps_set (i := 5) sc43.nd rfl (.inl rfl) (pe_op op_mod (pe_callTy call_int1 rfl mI (by rfl) (pa_cons (pv 3) pa_nil)) (pe_callB call_len rfl mL boot_len (pa_cons (pv 2) pa_nil))))
        (pss_one (ps_asg (pe_op op_add (pe_ix ix_list (pv 2) (pv 5) (fun _ _ => rfl)) (pe_op op_mul (pv 4) (pe_op op_add (pv 3) pe_int))) (pg_sub (pv 2) (pv 5) set_list)))))
    (pss_one (ps_ret (pv 2)))), ?_⟩
  obtain ⟨a, xs, rfl, sq, hl, q⟩ := h
  have s0 : (start ["script", "many", "cells", "k", "cell", "at"] [V.ref a, V.int 1])[0]? = some (some (V.ref a)) := rfl
  have s1 : (start ["script", "many", "cells", "k", "cell", "at"] [V.ref a, V.int 1])[1]? = some (some (V.int 1)) := rfl
  have cut : ∀ lo hi : Option Int, ∃ cs : List Int, cutV (xs.map V.int) lo hi = cs.map V.int ∧ cs.length ≤ 63 := fun lo hi => by
    refine ⟨(xs.drop (HT.sIx (xs.map V.int).length 0 lo)).take (HT.sIx (xs.map V.int).length (xs.map V.int).length hi - HT.sIx (xs.map V.int).length 0 lo), ?_, ?_⟩
    · unfold cutV; rw [List.map_take, List.map_drop]
    · rw [List.length_take, List.length_drop]; omega
  have keepL : ∀ {H1 : Hp}, (∀ b, H b ≠ none → H1 b = H b) → SqL K H1 a (xs.map V.int) := fun {H1} kp => by
    rcases sq with (z | ⟨o, z⟩) | z
    · exact .inl (.inl ((kp a (by rw [z]; exact fun y => nomatch y)).trans z))
    · exact .inl (.inr ⟨o, (kp a (by rw [z]; exact fun y => nomatch y)).trans z⟩)
    · exact .inr z
  have rest : ∀ (H1 : Hp) (p : Addr) (zs : List Int), (∀ b, H b ≠ none → H1 b = H b) → H p = none → H1 p = some (.lst (zs.map V.int)) → zs.length ≤ 63 → 0 < zs.length →
      tSeq (tFor (L2.iEnum K (tCons (tSl (rSlL K) (tVar 0) (tPart (tVar 1)) (tPart (tC (.int 63)))) tNil)) (L2.gTup K 2 (L2.gCons (gName 3) (L2.gCons (gName 4) L2.gNil)))
        (tSeq (tAsg (tOp (rI (fun x j => 0 < j) fun i j => V.int (i % j)) (tCB (fun xs H Q => (∃ i, xs = [V.int i] ∧ Q (V.int i) H) ∨ ∃ k, xs = [V.bl k] ∧ Q (V.int (if k = true then 1 else 0)) H) (tCons (tVar 3) tNil)) (tCB (fun xs H Q => ∃ x n, xs = [x] ∧ LenV K x H n ∧ Q (.int n) H) (tCons (tVar 2) tNil))) (gName 5))
          (tAsg (tOp (rI0 fun i j => V.int (i + j)) (tOp (rIxL K) (tVar 2) (tVar 5)) (tOp (rI CMul fun i j => V.int (i * j)) (tVar 4) (tOp (rI0 fun i j => V.int (i + j)) (tVar 3) (tC (.int 2))))) (gSub (tVar 2) (tVar 5) rSetL))))
        (tRet (tVar 2)) { nx := fun _ H' => Q .non H', rt := Q } ((start ["script", "many", "cells", "k", "cell", "at"] [V.ref a, V.int 1]).set 2 (some (.ref p))) H1 := by
    intro H1 p zs kp hp ep l63 l1
    obtain ⟨cs, ec, cl⟩ := cut (some 1) (some 63)
    refine ⟨_, rfl, _, rfl, 1, rfl, 63, rfl, a, _, rfl, keepL kp, fun p4 n4 => ⟨p4, _, rfl, .inl (.inl upd_same), ?_⟩⟩
    rw [ec]
    have np : p ≠ p4 := fun z => by rw [z, n4] at ep; cases ep
    have n4H : H p4 = none := by
      cases z : H p4 with
      | none => rfl
      | some o => rw [← kp p4 (by rw [z]; exact fun y => nomatch y), n4] at z; cases z
    refine ⟨fun i m τ G => m = cs.length - i ∧ i ≤ cs.length ∧ τ[1]? = some (some (.int 1)) ∧ τ[2]? = some (some (.ref p)) ∧ 6 ≤ τ.length ∧ (∀ b, H b ≠ none → G b = H b) ∧ G p4 = some (.lst (cs.map V.int)) ∧ ∃ ys : List Int, G p = some (.lst (ys.map V.int)) ∧ ys.length ≤ 63 ∧ 0 < ys.length,
      ⟨cs.length, rfl, Nat.zero_le _, rfl, rfl, by rw [List.length_set]; exact Nat.le_refl 6, fun b hb => (upd_ne fun z => by rw [z, n4H] at hb; exact hb rfl).trans (kp b hb), upd_same, zs, (upd_ne np).trans ep, l63, l1⟩, ?_⟩
    rintro i m τ G ⟨rfl, hi, g1, g2, g6, gk, g4, ys, gp, y63, y1⟩
    by_cases hlt : i < cs.length
    · have hx : (cs.map V.int)[i]? = some (.int cs[i]) := by rw [List.getElem?_map, List.getElem?_eq_getElem hlt]; rfl
      refine .inr ⟨⟨_, _, .inl (.inl g4), hx⟩, fun τ' G' => cs.length - (i + 1) = cs.length - (i + 1) ∧ i + 1 ≤ cs.length ∧ τ'[1]? = some (some (.int 1)) ∧ τ'[2]? = some (some (.ref p)) ∧ 6 ≤ τ'.length ∧ (∀ b, H b ≠ none → G' b = H b) ∧ G' p4 = some (.lst (cs.map V.int)) ∧ ∃ ys : List Int, G' p = some (.lst (ys.map V.int)) ∧ ys.length ≤ 63 ∧ 0 < ys.length,
        fun τ' G' z => ⟨cs.length - (i + 1), by omega, z⟩, ?_⟩
      rintro x G' ⟨T, x', rfl, hT, rfl, hx'⟩
      have ex := hx' _ (.inl (.inl g4))
      rw [hx] at ex
      cases ex
      have tp : p ≠ T := fun z => by rw [z, hT] at gp; cases gp
      have t4 : p4 ≠ T := fun z => by rw [z, hT] at g4; cases g4
      refine ⟨T, _, rfl, .of upd_same, rfl, _, _, rfl, _, _, rfl, rfl, ?_⟩
      have len : ∀ (τ : L2.St) (j : Nat) (v : V), 6 ≤ τ.length → 6 ≤ (τ.set j (some v)).length := fun τ j v h => by rw [List.length_set]; exact h
      have at_ : ∀ (τ : L2.St) (j : Nat) (v : V), 6 ≤ τ.length → j < 6 → (τ.set j (some v))[j]? = some (some v) := fun τ j v h hj => List.getElem?_set_self (by omega)
      have off : ∀ (τ : L2.St) (j k : Nat) (v : V), j ≠ k → (τ.set j (some v))[k]? = τ[k]? := fun τ j k v h => List.getElem?_set_ne h
      have q3 : ((τ.set 3 (some (.int (i : Int)))).set 4 (some (.int cs[i])))[3]? = some (some (.int (i : Int))) := (off _ 4 3 _ (by decide)).trans (at_ τ 3 _ g6 (by decide))
      have q1 : ((τ.set 3 (some (.int (i : Int)))).set 4 (some (.int cs[i])))[1]? = some (some (.int 1)) := (off _ 4 1 _ (by decide)).trans ((off τ 3 1 _ (by decide)).trans g1)
      have gp2 : upd G T (.tup [.int (i : Int), .int cs[i]]) p = some (.lst (ys.map V.int)) := (upd_ne tp).trans gp
      have q2 : ((τ.set 3 (some (.int (i : Int)))).set 4 (some (.int cs[i])))[2]? = some (some (.ref p)) := (off _ 4 2 _ (by decide)).trans ((off τ 3 2 _ (by decide)).trans g2)
      have l1 : (0 : Int) < ((ys.map V.int).length : Nat) := by rw [List.length_map]; omega
      refine ⟨_, q3, .inl ⟨_, rfl, _, q2, _, _, rfl, .inl ⟨_, .inl (.inl gp2), rfl⟩, _, _, rfl, rfl, l1, ?_⟩⟩
      have L0 : ((ys.map V.int).length : Nat) = ys.length := List.length_map ..
      generalize hm : (((ys.map V.int).length : Nat) : Int) = m at l1 ⊢
      have L4 : 6 ≤ ((τ.set 3 (some (.int (i : Int)))).set 4 (some (.int cs[i]))).length := len _ _ _ (len _ _ _ g6)
      generalize hτ : ((τ.set 3 (some (.int (i : Int)))).set 4 (some (.int cs[i]))) = τ4 at q3 q1 L4
      have r2 : (τ4.set 5 (some (.int ((i : Int) % m))))[2]? = some (some (.ref p)) := (off _ 5 2 _ (by decide)).trans (by rw [← hτ]; exact (off _ 4 2 _ (by decide)).trans ((off τ 3 2 _ (by decide)).trans g2))
      have r3 : (τ4.set 5 (some (.int ((i : Int) % m))))[3]? = some (some (.int (i : Int))) := (off _ 5 3 _ (by decide)).trans q3
      have r4 : (τ4.set 5 (some (.int ((i : Int) % m))))[4]? = some (some (.int cs[i])) := (off _ 5 4 _ (by decide)).trans (by rw [← hτ]; exact at_ _ 4 _ (len _ _ _ g6) (by decide))
      have r5 : (τ4.set 5 (some (.int ((i : Int) % m))))[5]? = some (some (.int ((i : Int) % m))) := at_ _ 5 _ L4 (by decide)
      have r1 : (τ4.set 5 (some (.int ((i : Int) % m))))[1]? = some (some (.int 1)) := (off _ 5 1 _ (by decide)).trans q1
      have j0 : 0 ≤ (i : Int) % m := Int.emod_nonneg _ (by omega)
      have j1 : (i : Int) % m < (ys.length : Nat) := by
        have j2 := Int.emod_lt_of_pos (i : Int) l1
        rw [← hm, L0] at j2
        rw [← hm, L0]
        exact j2
      obtain ⟨k, ej⟩ : ∃ k : Nat, (i : Int) % m = k := ⟨((i : Int) % m).toNat, by omega⟩
      have hk : k < ys.length := by omega
      have ixk : ixN (ys.map V.int).length ((i : Int) % m) = some k := by
        rw [ej]
        unfold ixN
        rw [List.length_map]
        rw [if_pos (by omega)]
        simp [hk]
      have atk : atI (ys.map V.int) ((i : Int) % m) = some (.int ys[k]) := by
        unfold atI
        rw [ixk]
        show (ys.map V.int)[k]? = _
        rw [List.getElem?_map, List.getElem?_eq_getElem hk]; rfl
      refine ⟨_, r2, _, r5, p, _, _, _, rfl, rfl, .inl (.inl gp2), atk, _, r4, _, r3, _, _, rfl, rfl, _, _, rfl, rfl, .inr ⟨by omega, by omega⟩, _, _, rfl, rfl, ?_⟩
      refine ⟨_, r2, _, r5, p, _, _, _, rfl, rfl, gp2, ixk, ?_⟩
      have nT : H T = none := by
        cases z : H T with
        | none => rfl
        | some o => rw [← gk T (by rw [z]; exact fun y => nomatch y), hT] at z; cases z
      refine ⟨rfl, by omega, r1, r2, by rw [List.length_set]; exact L4, fun b hb => ?_, ?_, ys.set k _, by rw [upd_same, List.map_set], by rw [List.length_set]; exact y63, by rw [List.length_set]; exact y1⟩
      · rw [upd_ne (fun z => by rw [z, hp] at hb; exact hb rfl), upd_ne (fun z => by rw [z, nT] at hb; exact hb rfl)]
        exact gk b hb
      · rw [upd_ne (Ne.symm np), upd_ne t4]
        exact g4
    · refine .inl ⟨⟨_, .inl (.inl g4), by rw [List.length_map]; omega⟩, _, g2, q ys G p y63 gk hp gp⟩
  obtain ⟨ds, ed, dl⟩ := cut none (some 1)
  refine ⟨_, s0, _, s1, 1, rfl, a, _, rfl, sq, fun p1 n1 => ⟨p1, _, rfl, .inl (.inl (.inl upd_same)), fun p2 n2 => ?_⟩⟩
  rw [ed] at n2 ⊢
  have n1' : p2 ≠ p1 := fun z => by rw [z, upd_same] at n2; cases n2
  have n2H : H p2 = none := (upd_ne n1').symm.trans n2
  have kp2 : ∀ b, H b ≠ none → (upd (upd H p1 (.lst (ds.map V.int))) p2 (.lst (ds.map V.int))) b = H b := fun b hb => by
    rw [upd_ne (fun z => by rw [z, n2H] at hb; exact hb rfl), upd_ne (fun z => by rw [z, n1] at hb; exact hb rfl)]
  refine ⟨!(ds.map V.int).isEmpty, .inl ⟨_, .inl (.inl upd_same), rfl⟩, ?_⟩
  cases ds with
  | nil =>
    refine ⟨by decide, fun p3 n3 => ?_⟩
    have n3a : H p3 = none := by
      cases z : H p3 with
      | none => rfl
      | some o => rw [← kp2 p3 (by rw [z]; exact fun y => nomatch y), n3] at z; cases z
    exact rest _ p3 [0] (fun b hb => (upd_ne (fun z => by rw [z, n3a] at hb; exact hb rfl)).trans (kp2 b hb)) n3a upd_same (by decide) (by decide)
  | cons d ds => exact rest _ p2 (d :: ds) kp2 n2H upd_same dl (Nat.succ_pos _)

variable {fd : Nat → FuncData}
theorem fn0 (fx : Fx PM K mg G fa ca fd) (ok : AllOk PM w K mg base G fa fd n) : FnOk PM w K mg base (CX PM w) (2 * (n + 1)) (fa 0) (fd 0) ["thing"] (SpF G K P (n + 1) 0) :=
  fn_succ (r := 2 * n + 1) fx.F0 sc0 (fn := ⟨1, 1, [], b0⟩) rfl rfl rfl (by decide) fun cdv A outer s H E hr1 => by
    have tk := @tk_cx PM w K mg base ["thing"] "is_number" (defScope s0) (fa 0) cdv A outer s H E
    have hr := hr1.mono (Nat.le_succ (2 * n))
    let C := callN P n
    show PSs _ _ (EvS G K (ZE K E) (bCons (sRet (cAnd (cIsb (cVar 0) [.int]) (cNot (cIsb (cVar 0) [.bool])))) bNil))
    exact (ess_cons (es_ret (ev_and (ev_isb1 (t := .int) (by rfl) fx.b_isinstance (evv 0) (cty fx.b_int)) (ev_bool1 (ev_not (ev_isb1 (t := .bool) (by rfl) fx.b_isinstance (evv 0) (cty fx.b_bool))))))
    ess_nil)
theorem fn1 (fx : Fx PM K mg G fa ca fd) (ok : AllOk PM w K mg base G fa fd n) : FnOk PM w K mg base (CX PM w) (2 * (n + 1)) (fa 1) (fd 1) ["thing", "many"] (SpF G K P (n + 1) 1) :=
  fn_succ (r := 2 * n + 1) fx.F1 sc1 (fn := ⟨2, 2, [], b1⟩) rfl rfl rfl (by decide) fun cdv A outer s H E hr1 => by
    have tk := @tk_cx PM w K mg base ["thing", "many"] "is_below" (defScope s1) (fa 1) cdv A outer s H E
    have hr := hr1.mono (Nat.le_succ (2 * n))
    let C := callN P n
    show PSs _ _ (EvS G K (ZE K E) (bCons (sRet (cAnd (cCall C 0 (aOne (cVar 0) aNil)) (cCmp2 .le .lt (cCon (.int (.ofNat 0))) (cVar 0) (cVar 1)))) bNil))
    exact (ess_cons (es_ret (ev_and (ev_call (ok 0 rfl) hr (by rfl) fx.g0 fx.F0.kp fx.B0 tk (ea_one (evv 0) ea_nil)) (ev_bool1 (ev_cmp2 (op := .le) (op' := .lt) hr.units evi (evv 0) (evv 1) (by rfl)))))
    ess_nil)
theorem fn2 (fx : Fx PM K mg G fa ca fd) (ok : AllOk PM w K mg base G fa fd n) : FnOk PM w K mg base (CX PM w) (2 * (n + 1)) (fa 2) (fd 2) ["thing", "many"] (SpF G K P (n + 1) 2) :=
  fn_succ (r := 2 * n + 1) fx.F2 sc2 (fn := ⟨2, 2, [], b2⟩) rfl rfl rfl (by decide) fun cdv A outer s H E hr1 => by
    have tk := @tk_cx PM w K mg base ["thing", "many"] "is_tuple_of" (defScope s2) (fa 2) cdv A outer s H E
    have hr := hr1.mono (Nat.le_succ (2 * n))
    let C := callN P n
    show PSs _ _ (EvS G K (ZE K E) (bCons (sRet (cAnd (cIsb (cVar 0) [.tuple]) (cCmp .eq (cLen (cVar 0)) (cVar 1)))) bNil))
    exact (ess_cons (es_ret (ev_and (ev_isb1 (t := .tuple) (by rfl) fx.b_isinstance (evv 0) (cty fx.b_tuple)) (ev_bool1 (ev_cmp (op := .eq) hr.units (ev_len (by rfl) fx.b_len (evv 0)) (evv 1) (by rfl)))))
    ess_nil)
theorem fn3 (fx : Fx PM K mg G fa ca fd) (ok : AllOk PM w K mg base G fa fd n) : FnOk PM w K mg base (CX PM w) (2 * (n + 1)) (fa 3) (fd 3) ["thing"] (SpF G K P (n + 1) 3) :=
  fn_succ (r := 2 * n + 1) fx.F3 sc3 (fn := ⟨1, 2, [], b3⟩) rfl rfl rfl (by decide) fun cdv A outer s H E hr1 => by
    have tk := @tk_cx PM w K mg base ["thing", "part"] "tuple_of" (defScope s3) (fa 3) cdv A outer s H E
    have hr := hr1.mono (Nat.le_succ (2 * n))
    let C := callN P n
    show PSs _ _ (EvS G K (ZE K E) (bCons (sIte (tVal (cIsb (cVar 0) [.list, .tuple])) (bCons (sRet (cBf .tuple (sLc [1] (gSlot 1) (iSeq (cVar 0)) tYes (cCall C 3 (aOne (cVar 1) aNil))))) bNil) bNil) (bCons (sRet (cVar 0)) bNil)))
    exact (ess_cons (es_if (et_val (ev_isbs (by rfl) fx.b_isinstance (evv 0) (pa_tys (t := .list) (cty fx.b_list) (pa_tys (t := .tuple) (cty fx.b_tuple) pa_tys0)) (by decide)) (fun _ => rfl)) (ess_cons (es_ret (ev_tupleQ (by rfl) fx.b_tuple (eq_l (el_new (en_lc (own := [("part", 1)]) (vs := [1]) rfl sc3.nd (ei_val (evv 0)) (blkOk_by (by kernel_rfl)) rfl (fun _ _ _ _ _ => (egv_name (i := 1) sc3.nd rfl (by first | exact .inl rfl | exact .inr rfl) (by first | exact .inl rfl | exact .inr rfl) (by decide))) (fun _ _ _ _ _ => ets_nil) (fun _ _ _ _ _ => (ev_call (ok 3 rfl) hr (by rfl) fx.g3 fx.F3.kp fx.B3 tk_blk (ea_one (evv 1) ea_nil))))))))
    ess_nil) ess_nil)
    (ess_cons (es_ret (evv 0))
    ess_nil))
theorem fn4 (fx : Fx PM K mg G fa ca fd) (ok : AllOk PM w K mg base G fa fd n) : FnOk PM w K mg base (CX PM w) (2 * (n + 1)) (fa 4) (fd 4) ["good"] (SpF G K P (n + 1) 4) :=
  fn_succ (r := 2 * n + 1) fx.F4 sc4 (fn := ⟨1, 1, [], b4⟩) rfl rfl rfl (by decide) fun cdv A outer s H E hr1 => by
    have tk := @tk_cx PM w K mg base ["good"] "sure" (defScope s4) (fa 4) cdv A outer s H E
    have hr := hr1.mono (Nat.le_succ (2 * n))
    let C := callN P n
    show PSs _ _ (EvS G K (ZE K E) (bCons (sIte (tNot (tVal (cVar 0))) (bCons (sRaise 0 aNil) bNil) bNil) bNil))
    exact (ess_cons (es_if (et_not (et_val (evv 0) (fun _ => rfl))) (ess_cons (es_raiseU fx.e0 tk)
    ess_nil) ess_nil)
    ess_nil)
theorem fn5 (fx : Fx PM K mg G fa ca fd) (ok : AllOk PM w K mg base G fa fd n) : FnOk PM w K mg base (CX PM w) (2 * (n + 1)) (fa 5) (fd 5) ["thing", "many"] (SpF G K P (n + 1) 5) :=
  fn_succ (r := 2 * n + 1) fx.F5 sc5 (fn := ⟨2, 5, [], b5⟩) rfl rfl rfl (by decide) fun cdv A outer s H E hr1 => by
    have tk := @tk_cx PM w K mg base ["thing", "many", "near", "far", "own"] "is_number_set" (defScope s5) (fa 5) cdv A outer s H E
    have hr := hr1.mono (Nat.le_succ (2 * n))
    let C := callN P n
    show PSs _ _ (EvS G K (ZE K E) (bCons (sIte (tOr (tNot (tVal (cIsb (cVar 0) [.tuple]))) (tNot (tVal (cBf .all (sLc [4] (gSlot 4) (iSeq (cVar 0)) tYes (cCall C 1 (aOne (cVar 4) (aOne (cVar 1) aNil)))))))) (bCons (sRet (cCon (.bl false))) bNil) bNil) (bCons (sRet (cBf .all (sLc [2, 3] (gTupN 2 (gCons (gSlot 2) (gCons (gSlot 3) gNil))) (iZip (cVar 0) (cSlc (cVar 0) (cIntO (cCon (.int (.ofNat 1)))) (cCon .non))) tYes (cCmp .lt (cVar 2) (cVar 3))))) bNil)))
    exact (ess_cons (es_if (PW.pt (ew_or (et_not (et_val (ev_isb1 (t := .tuple) (by rfl) fx.b_isinstance (evv 0) (cty fx.b_tuple)) (fun _ => rfl))) (ew_or1 (et_not (et_val (ev_all rfl (by rfl) fx.b_all (el_new (en_lc (own := [("own", 4)]) (vs := [4]) rfl sc5.nd (ei_val (evv 0)) (blkOk_by (by kernel_rfl)) rfl (fun _ _ _ _ _ => (egv_name (i := 4) sc5.nd rfl (by first | exact .inl rfl | exact .inr rfl) (by first | exact .inl rfl | exact .inr rfl) (by decide))) (fun _ _ _ _ _ => ets_nil) (fun _ _ _ _ _ => (ev_call (ok 1 rfl) hr (by rfl) fx.g1 fx.F1.kp fx.B1 tk_blk (ea_one (evv 4) (ea_one (evv 1) ea_nil))))))) (fun _ => rfl)))))) (ess_cons (es_ret evb)
    ess_nil) ess_nil)
    (ess_cons (es_ret (ev_all rfl (by rfl) fx.b_all (el_new (en_lc (own := [("near", 2), ("far", 3)]) (vs := [2, 3]) rfl sc5.nd (ei_zip (by rfl) fx.b_zip (ea_one (evv 0) (ea_one (ev_slc (evv 0) (ep_some evi) ep_none) ea_nil))) (blkOk_by (by kernel_rfl)) rfl (fun _ _ _ _ _ => (egv_tup (n := 2) rfl (egvs_cons (egv_name (i := 2) sc5.nd rfl (by first | exact .inl rfl | exact .inr rfl) (by first | exact .inl rfl | exact .inr rfl) (by decide)) (egvs_cons (egv_name (i := 3) sc5.nd rfl (by first | exact .inl rfl | exact .inr rfl) (by first | exact .inl rfl | exact .inr rfl) (by decide)) egvs_nil rfl) rfl) rfl rfl)) (fun _ _ _ _ _ => ets_nil) (fun _ _ _ _ _ => (ev_cmp (op := .lt) hr.units (evv 2) (evv 3) (by rfl)))))))
    ess_nil))
theorem fn6 (fx : Fx PM K mg G fa ca fd) (ok : AllOk PM w K mg base G fa fd n) : FnOk PM w K mg base (CX PM w) (2 * (n + 1)) (fa 6) (fd 6) ["thing"] (SpF G K P (n + 1) 6) :=
  fn_succ (r := 2 * n + 1) fx.F6 sc6 (fn := ⟨1, 2, [], b6⟩) rfl rfl rfl (by decide) fun cdv A outer s H E hr1 => by
    have tk := @tk_cx PM w K mg base ["thing", "own"] "is_sign_name" (defScope s6) (fa 6) cdv A outer s H E
    have hr := hr1.mono (Nat.le_succ (2 * n))
    let C := callN P n
    show PSs _ _ (EvS G K (ZE K E) (bCons (sRet (cAnd (cIsb (cVar 0) [.str]) (cAnd (cCmp2 .lt .le (cCon (.int (.ofNat 0))) (cLen (cVar 0)) (cCon (.int (.ofNat 8)))) (cBf .all (sLc [1] (gSlot 1) (iSeq (cVar 0)) tYes (cCmp .inn (cVar 1) (cCon (.str [97, 98, 99, 100, 101, 102, 103, 104, 105, 106, 107, 108, 109, 110, 111, 112, 113, 114, 115, 116, 117, 118, 119, 120, 121, 122])))))))) bNil))
    exact (ess_cons (es_ret (ev_and (ev_isb1 (t := .str) (by rfl) fx.b_isinstance (evv 0) (cty fx.b_str)) (ev_and (ev_cmp2 (op := .lt) (op' := .le) hr.units evi (ev_len (by rfl) fx.b_len (evv 0)) (evgI fx.c_MOST_NAME) (by rfl)) (ev_bool1 (ev_all rfl (by rfl) fx.b_all (el_new (en_lc (own := [("own", 1)]) (vs := [1]) rfl sc6.nd (ei_val (evv 0)) (blkOk_by (by kernel_rfl)) rfl (fun _ _ _ _ _ => (egv_name (i := 1) sc6.nd rfl (by first | exact .inl rfl | exact .inr rfl) (by first | exact .inl rfl | exact .inr rfl) (by decide))) (fun _ _ _ _ _ => ets_nil) (fun _ _ _ _ _ => (ev_cmp (op := .inn) hr.units (evv 1) (evgS fx.c_SMALL) (by rfl))))))))))
    ess_nil)
theorem fn7 (fx : Fx PM K mg G fa ca fd) (ok : AllOk PM w K mg base G fa fd n) : FnOk PM w K mg base (CX PM w) (2 * (n + 1)) (fa 7) (fd 7) ["thing"] (SpF G K P (n + 1) 7) :=
  fn_succ (r := 2 * n + 1) fx.F7 sc7 (fn := ⟨1, 1, [], b7⟩) rfl rfl rfl (by decide) fun cdv A outer s H E hr1 => by
    have tk := @tk_cx PM w K mg base ["thing"] "is_sign" (defScope s7) (fa 7) cdv A outer s H E
    have hr := hr1.mono (Nat.le_succ (2 * n))
    let C := callN P n
    show PSs _ _ (EvS G K (ZE K E) (bCons (sIte (tOr (tNot (tVal (cCall C 2 (aOne (cVar 0) (aOne (cCon (.int (.ofNat 3))) aNil))))) (tOr (tNot (tVal (cCall C 6 (aOne (cIdx (cVar 0) (cCon (.int (.ofNat 0)))) aNil)))) (tNot (tVal (cIsb (cIdx (cVar 0) (cCon (.int (.ofNat 1)))) [.str]))))) (bCons (sRet (cCon (.bl false))) bNil) bNil) (bCons (sIte (tCmp .eq (cIdx (cVar 0) (cCon (.int (.ofNat 1)))) (cCon (.str [112, 108, 97, 105, 110]))) (bCons (sRet (cCall C 1 (aOne (cIdx (cVar 0) (cCon (.int (.ofNat 2)))) (aOne (cBin .add (cCon (.int (.ofNat 3))) (cCon (.int (.ofNat 1)))) aNil)))) bNil) bNil) (bCons (sRet (cAnd (cCmp .inn (cIdx (cVar 0) (cCon (.int (.ofNat 1)))) (cTup (aOne (cCon (.str [115, 119, 97, 112])) (aOne (cCon (.str [98, 97, 103])) aNil)))) (cAnd (cCall C 0 (aOne (cIdx (cVar 0) (cCon (.int (.ofNat 2)))) aNil)) (cCmp .eq (cIdx (cVar 0) (cCon (.int (.ofNat 2)))) (cCon (.int (.ofNat 2))))))) bNil))))
    exact (ess_cons (es_if (PW.pt (ew_or (et_not (et_val (ev_call (ok 2 rfl) hr (by rfl) fx.g2 fx.F2.kp fx.B2 tk (ea_one (evv 0) (ea_one evi ea_nil))) (fun _ => rfl))) (ew_or (et_not (et_val (ev_call (ok 6 rfl) hr (by rfl) fx.g6 fx.F6.kp fx.B6 tk (ea_one (ev_idx hr.units (evv 0) evi (fun _ _ => rfl)) ea_nil)) (fun _ => rfl))) (ew_or1 (et_not (et_val (ev_isb1 (t := .str) (by rfl) fx.b_isinstance (ev_idx hr.units (evv 0) evi (fun _ _ => rfl)) (cty fx.b_str)) (fun _ => rfl))))))) (ess_cons (es_ret evb)
    ess_nil) ess_nil)
    (ess_cons (es_if (et_cmp (op := .eq) hr.units (ev_idx hr.units (evv 0) evi (fun _ _ => rfl)) (evgS fx.c_PLAIN) (by rfl)) (ess_cons (es_ret (ev_call (ok 1 rfl) hr (by rfl) fx.g1 fx.F1.kp fx.B1 tk (ea_one (ev_idx hr.units (evv 0) evi (fun _ _ => rfl)) (ea_one (ev_bin (op := .add) (evgI fx.c_MOST_PLAIN) evi) ea_nil))))
    ess_nil) ess_nil)
    (ess_cons (es_ret (ev_and (ev_cmp (op := .inn) hr.units (ev_idx hr.units (evv 0) evi (fun _ _ => rfl)) (ev_tup (ea_one (evgS fx.c_SWAP) (ea_one (evgS fx.c_BAG) ea_nil))) (by rfl)) (ev_and (ev_call (ok 0 rfl) hr (by rfl) fx.g0 fx.F0.kp fx.B0 tk (ea_one (ev_idx hr.units (evv 0) evi (fun _ _ => rfl)) ea_nil)) (ev_bool1 (ev_cmp (op := .eq) hr.units (ev_idx hr.units (evv 0) evi (fun _ _ => rfl)) evi (by rfl))))))
    ess_nil)))
theorem fn8 (fx : Fx PM K mg G fa ca fd) (ok : AllOk PM w K mg base G fa fd n) : FnOk PM w K mg base (CX PM w) (2 * (n + 1)) (fa 8) (fd 8) ["thing"] (SpF G K P (n + 1) 8) :=
  fn_succ (r := 2 * n + 1) fx.F8 sc8 (fn := ⟨1, 4, [], b8⟩) rfl rfl rfl (by decide) fun cdv A outer s H E hr1 => by
    have tk := @tk_cx PM w K mg base ["thing", "near", "far", "own"] "is_book" (defScope s8) (fa 8) cdv A outer s H E
    have hr := hr1.mono (Nat.le_succ (2 * n))
    let C := callN P n
    show PSs _ _ (EvS G K (ZE K E) (bCons (sIte (tOr (tNot (tVal (cIsb (cVar 0) [.tuple]))) (tOr (tNot (tCmp2 .lt .le (cCon (.int (.ofNat 0))) (cLen (cVar 0)) (cCon (.int (.ofNat 8))))) (tNot (tVal (cBf .all (sLc [3] (gSlot 3) (iSeq (cVar 0)) tYes (cCall C 7 (aOne (cVar 3) aNil)))))))) (bCons (sRet (cCon (.bl false))) bNil) bNil) (bCons (sRet (cBf .all (sLc [1, 2] (gTupN 2 (gCons (gSlot 1) (gCons (gSlot 2) gNil))) (iZip (cVar 0) (cSlc (cVar 0) (cIntO (cCon (.int (.ofNat 1)))) (cCon .non))) tYes (cCmp .lt (cIdx (cVar 1) (cCon (.int (.ofNat 0)))) (cIdx (cVar 2) (cCon (.int (.ofNat 0)))))))) bNil)))
    exact (ess_cons (es_if (PW.pt (ew_or (et_not (et_val (ev_isb1 (t := .tuple) (by rfl) fx.b_isinstance (evv 0) (cty fx.b_tuple)) (fun _ => rfl))) (ew_or (et_not (et_cmp2 (op := .lt) (op' := .le) hr.units evi (ev_len (by rfl) fx.b_len (evv 0)) (evgI fx.c_MOST_SIGNS) (by rfl))) (ew_or1 (et_not (et_val (ev_all rfl (by rfl) fx.b_all (el_new (en_lc (own := [("own", 3)]) (vs := [3]) rfl sc8.nd (ei_val (evv 0)) (blkOk_by (by kernel_rfl)) rfl (fun _ _ _ _ _ => (egv_name (i := 3) sc8.nd rfl (by first | exact .inl rfl | exact .inr rfl) (by first | exact .inl rfl | exact .inr rfl) (by decide))) (fun _ _ _ _ _ => ets_nil) (fun _ _ _ _ _ => (ev_call (ok 7 rfl) hr (by rfl) fx.g7 fx.F7.kp fx.B7 tk_blk (ea_one (evv 3) ea_nil)))))) (fun _ => rfl))))))) (ess_cons (es_ret evb)
    ess_nil) ess_nil)
    (ess_cons (es_ret (ev_all rfl (by rfl) fx.b_all (el_new (en_lc (own := [("near", 1), ("far", 2)]) (vs := [1, 2]) rfl sc8.nd (ei_zip (by rfl) fx.b_zip (ea_one (evv 0) (ea_one (ev_slc (evv 0) (ep_some evi) ep_none) ea_nil))) (blkOk_by (by kernel_rfl)) rfl (fun _ _ _ _ _ => (egv_tup (n := 2) rfl (egvs_cons (egv_name (i := 1) sc8.nd rfl (by first | exact .inl rfl | exact .inr rfl) (by first | exact .inl rfl | exact .inr rfl) (by decide)) (egvs_cons (egv_name (i := 2) sc8.nd rfl (by first | exact .inl rfl | exact .inr rfl) (by first | exact .inl rfl | exact .inr rfl) (by decide)) egvs_nil rfl) rfl) rfl rfl)) (fun _ _ _ _ _ => ets_nil) (fun _ _ _ _ _ => (ev_cmp (op := .lt) hr.units (ev_idx hr.units (evv 1) evi (fun _ _ => rfl)) (ev_idx hr.units (evv 2) evi (fun _ _ => rfl)) (by rfl)))))))
    ess_nil))
theorem fn9 (fx : Fx PM K mg G fa ca fd) (ok : AllOk PM w K mg base G fa fd n) : FnOk PM w K mg base (CX PM w) (2 * (n + 1)) (fa 9) (fd 9) ["book"] (SpF G K P (n + 1) 9) :=
  fn_succ (r := 2 * n + 1) fx.F9 sc9 (fn := ⟨1, 2, [], b9⟩) rfl rfl rfl (by decide) fun cdv A outer s H E hr1 => by
    have tk := @tk_cx PM w K mg base ["book", "own"] "sure_book" (defScope s9) (fa 9) cdv A outer s H E
    have hr := hr1.mono (Nat.le_succ (2 * n))
    let C := callN P n
    show PSs _ _ (EvS G K (ZE K E) (bCons (sAsg (gSlot 1) (cCall C 3 (aOne (cVar 0) aNil))) (bCons (sEx (cCall C 4 (aOne (cCall C 8 (aOne (cVar 1) aNil)) aNil))) (bCons (sRet (cVar 1)) bNil))))
    exact (ess_cons (es_asg (ev_call (ok 3 rfl) hr (by rfl) fx.g3 fx.F3.kp fx.B3 tk (ea_one (evv 0) ea_nil)) (eg_of (eg0_name (i := 1) sc9.nd rfl (by first | exact .inl rfl | exact .inr rfl))))
    (ess_cons (es_expr (ev_call (ok 4 rfl) hr (by rfl) fx.g4 fx.F4.kp fx.B4 tk (ea_one (ev_call (ok 8 rfl) hr (by rfl) fx.g8 fx.F8.kp fx.B8 tk (ea_one (evv 1) ea_nil)) ea_nil)))
    (ess_cons (es_ret (evv 1))
    ess_nil)))
theorem fn10 (fx : Fx PM K mg G fa ca fd) (ok : AllOk PM w K mg base G fa fd n) : FnOk PM w K mg base (CX PM w) (2 * (n + 1)) (fa 10) (fd 10) ["book"] (SpF G K P (n + 1) 10) :=
  fn_succ (r := 2 * n + 1) fx.F10 sc10 (fn := ⟨1, 4, [], b10⟩) rfl rfl rfl (by decide) fun cdv A outer s H E hr1 => by
    have tk := @tk_cx PM w K mg base ["book", "name", "kind", "many"] "signs_of" (defScope s10) (fa 10) cdv A outer s H E
    have hr := hr1.mono (Nat.le_succ (2 * n))
    let C := callN P n
    show PSs _ _ (EvS G K (ZE K E) (bCons (sRet (sDc [1, 2, 3] (gTupN 3 (gCons (gSlot 1) (gCons (gSlot 2) (gCons (gSlot 3) gNil)))) (iSeq (cVar 0)) tYes (cVar 1) (cTup (aOne (cVar 2) (aOne (cVar 3) aNil))))) bNil))
    exact (ess_cons (es_ret (ev_dc (own := [("name", 1), ("kind", 2), ("many", 3)]) (vs := [1, 2, 3]) rfl sc10.nd (ei_val (evv 0)) (blkOk_by (by kernel_rfl)) rfl (fun _ _ _ _ _ => (egv_tup (n := 3) rfl (egvs_cons (egv_name (i := 1) sc10.nd rfl (by first | exact .inl rfl | exact .inr rfl) (by first | exact .inl rfl | exact .inr rfl) (by decide)) (egvs_cons (egv_name (i := 2) sc10.nd rfl (by first | exact .inl rfl | exact .inr rfl) (by first | exact .inl rfl | exact .inr rfl) (by decide)) (egvs_cons (egv_name (i := 3) sc10.nd rfl (by first | exact .inl rfl | exact .inr rfl) (by first | exact .inl rfl | exact .inr rfl) (by decide)) egvs_nil rfl) rfl) rfl) rfl rfl)) (fun _ _ _ _ _ => ets_nil) (fun _ _ _ _ _ => (evv 1)) (fun _ _ _ _ _ => (ev_tup (ea_one (evv 2) (ea_one (evv 3) ea_nil))))))
    ess_nil)
theorem fn11 (fx : Fx PM K mg G fa ca fd) (ok : AllOk PM w K mg base G fa fd n) : FnOk PM w K mg base (CX PM w) (2 * (n + 1)) (fa 11) (fd 11) ["signs", "thing"] (SpF G K P (n + 1) 11) :=
  fn_succ (r := 2 * n + 1) fx.F11 sc11 (fn := ⟨2, 5, [], b11⟩) rfl rfl rfl (by decide) fun cdv A outer s H E hr1 => by
    have tk := @tk_cx PM w K mg base ["signs", "thing", "good", "kind", "many"] "parts_fit" (defScope s11) (fa 11) cdv A outer s H E
    have hr := hr1.mono (Nat.le_succ (2 * n))
    let C := callN P n
    show PSs _ _ (EvS G K (ZE K E) (bCons (sIte (tVal (cCall C 0 (aOne (cVar 1) aNil))) (bCons (sRet (cIte (tVal (cCall C 1 (aOne (cVar 1) (aOne (cCon (.int (.ofNat 100))) aNil)))) (cTup aNil) (cCon .non))) bNil) bNil) (bCons (sIte (tOr (tNot (tVal (cCall C 2 (aOne (cVar 1) (aOne (cCon (.int (.ofNat 2))) aNil))))) (tOr (tNot (tVal (cIsb (cIdx (cVar 1) (cCon (.int (.ofNat 0)))) [.str]))) (tNot (tVal (cIsb (cIdx (cVar 1) (cCon (.int (.ofNat 1)))) [.tuple]))))) (bCons (sRet (cCon .non)) bNil) bNil) (bCons (sIte (tCmp .notin (cIdx (cVar 1) (cCon (.int (.ofNat 0)))) (cVar 0)) (bCons (sRet (cCon .non)) bNil) bNil) (bCons (sAsg (gTupN 2 (gCons (gSlot 3) (gCons (gSlot 4) gNil))) (cIdx (cVar 0) (cIdx (cVar 1) (cCon (.int (.ofNat 0)))))) (bCons (sAsg (gSlot 2) (cIte (tCmp .eq (cVar 3) (cCon (.str [98, 97, 103]))) (cCmp .ge (cLen (cIdx (cVar 1) (cCon (.int (.ofNat 1))))) (cVar 4)) (cCmp .eq (cLen (cIdx (cVar 1) (cCon (.int (.ofNat 1))))) (cVar 4)))) (bCons (sRet (cIte (tVal (cVar 2)) (cIdx (cVar 1) (cCon (.int (.ofNat 1)))) (cCon .non))) bNil)))))))
    exact (ess_cons (es_if (et_val (ev_call (ok 0 rfl) hr (by rfl) fx.g0 fx.F0.kp fx.B0 tk (ea_one (evv 1) ea_nil)) (fun _ => rfl)) (ess_cons (es_ret (ev_ite (et_val (ev_call (ok 1 rfl) hr (by rfl) fx.g1 fx.F1.kp fx.B1 tk (ea_one (evv 1) (ea_one (evgI fx.c_MOST_UNKNOWN) ea_nil))) (fun _ => rfl)) (ev_tup ea_nil) evn))
    ess_nil) ess_nil)
    (ess_cons (es_if (PW.pt (ew_or (et_not (et_val (ev_call (ok 2 rfl) hr (by rfl) fx.g2 fx.F2.kp fx.B2 tk (ea_one (evv 1) (ea_one evi ea_nil))) (fun _ => rfl))) (ew_or (et_not (et_val (ev_isb1 (t := .str) (by rfl) fx.b_isinstance (ev_idx hr.units (evv 1) evi (fun _ _ => rfl)) (cty fx.b_str)) (fun _ => rfl))) (ew_or1 (et_not (et_val (ev_isb1 (t := .tuple) (by rfl) fx.b_isinstance (ev_idx hr.units (evv 1) evi (fun _ _ => rfl)) (cty fx.b_tuple)) (fun _ => rfl))))))) (ess_cons (es_ret evn)
    ess_nil) ess_nil)
    (ess_cons (es_if (et_cmp (op := .notin) hr.units (ev_idx hr.units (evv 1) evi (fun _ _ => rfl)) (evv 0) (by rfl)) (ess_cons (es_ret evn)
    ess_nil) ess_nil)
    (ess_cons (es_asg (ev_idx hr.units (evv 0) (ev_idx hr.units (evv 1) evi (fun _ _ => rfl)) (fun _ _ => rfl)) (eg_of (eg0_tup (n := 2) rfl (egs_cons (eg0_name (i := 3) sc11.nd rfl (by first | exact .inl rfl | exact .inr rfl)) (egs_cons (eg0_name (i := 4) sc11.nd rfl (by first | exact .inl rfl | exact .inr rfl)) egs_nil)))))
    (ess_cons (es_asg (ev_ite (et_cmp (op := .eq) hr.units (evv 3) (evgS fx.c_BAG) (by rfl)) (ev_cmp (op := .ge) hr.units (ev_len (by rfl) fx.b_len (ev_idx hr.units (evv 1) evi (fun _ _ => rfl))) (evv 4) (by rfl)) (ev_cmp (op := .eq) hr.units (ev_len (by rfl) fx.b_len (ev_idx hr.units (evv 1) evi (fun _ _ => rfl))) (evv 4) (by rfl))) (eg_of (eg0_name (i := 2) sc11.nd rfl (by first | exact .inl rfl | exact .inr rfl))))
    (ess_cons (es_ret (ev_ite (et_val (evv 2) (fun _ => rfl)) (ev_idx hr.units (evv 1) evi (fun _ _ => rfl)) evn))
    ess_nil))))))
theorem fn12 (fx : Fx PM K mg G fa ca fd) (ok : AllOk PM w K mg base G fa fd n) : FnOk PM w K mg base (CX PM w) (2 * (n + 1)) (fa 12) (fd 12) ["signs", "thing"] (SpF G K P (n + 1) 12) :=
  fn_succ (r := 2 * n + 1) fx.F12 sc12 (fn := ⟨2, 4, [], b12⟩) rfl rfl rfl (by decide) fun cdv A outer s H E hr1 => by
    have tk := @tk_cx PM w K mg base ["signs", "thing", "line", "parts"] "is_term_by" (defScope s12) (fa 12) cdv A outer s H E
    have hr := hr1.mono (Nat.le_succ (2 * n))
    let C := callN P n
    show PSs _ _ (EvS G K (ZE K E) (bCons (sAsg (gSlot 2) (cLst (aOne (cVar 1) aNil))) (bCons (sWhl (tCmp .ne (cVar 2) (cLst aNil)) (bCons (sAsg (gSlot 3) (cCall C 11 (aOne (cVar 0) (aOne (cLm .pop (cVar 2) aNil) aNil)))) (bCons (sIte (tCmp .is (cVar 3) (cCon .non)) (bCons (sRet (cCon (.bl false))) bNil) bNil) (bCons (sEx (cLm .extend (cVar 2) (aOne (cBf .list (cSeqOf (cVar 3))) aNil))) bNil)))) (bCons (sRet (cCon (.bl true))) bNil))))
    exact (ess_cons (es_asg (ev_lst (ea_one (evv 1) ea_nil)) (eg_of (eg0_name (i := 2) sc12.nd rfl (by first | exact .inl rfl | exact .inr rfl))))
    (ess_cons (es_while (passes_of rfl) (et_cmp (op := .ne) hr.units (evv 2) (ev_lst ea_nil) (by rfl)) (ess_cons (es_asg (ev_call (ok 11 rfl) hr (by rfl) fx.g11 fx.F11.kp fx.B11 tk (ea_one (evv 0) (ea_one (ev_pop (evv 2)) ea_nil))) (eg_of (eg0_name (i := 3) sc12.nd rfl (by first | exact .inl rfl | exact .inr rfl))))
    (ess_cons (es_if (et_cmp (op := .is) hr.units (evv 3) evn (by rfl)) (ess_cons (es_ret evb)
    ess_nil) ess_nil)
    (ess_cons (es_expr (ev_extend (evv 2) (ea_one (ev_listQ (by rfl) fx.b_list (eq_of (evv 3))) ea_nil)))
    ess_nil))))
    (ess_cons (es_ret evb)
    ess_nil)))
theorem fn13 (fx : Fx PM K mg G fa ca fd) (ok : AllOk PM w K mg base G fa fd n) : FnOk PM w K mg base (CX PM w) (2 * (n + 1)) (fa 13) (fd 13) ["book", "term"] (SpF G K P (n + 1) 13) :=
  fn_succ (r := 2 * n + 1) fx.F13 sc13 (fn := ⟨2, 3, [], b13⟩) rfl rfl rfl (by decide) fun cdv A outer s H E hr1 => by
    have tk := @tk_cx PM w K mg base ["book", "term", "own"] "sure_term" (defScope s13) (fa 13) cdv A outer s H E
    have hr := hr1.mono (Nat.le_succ (2 * n))
    let C := callN P n
    show PSs _ _ (EvS G K (ZE K E) (bCons (sAsg (gSlot 2) (cCall C 3 (aOne (cVar 1) aNil))) (bCons (sEx (cCall C 4 (aOne (cCall C 12 (aOne (cCall C 10 (aOne (cVar 0) aNil)) (aOne (cVar 2) aNil))) aNil))) (bCons (sRet (cVar 2)) bNil))))
    exact (ess_cons (es_asg (ev_call (ok 3 rfl) hr (by rfl) fx.g3 fx.F3.kp fx.B3 tk (ea_one (evv 1) ea_nil)) (eg_of (eg0_name (i := 2) sc13.nd rfl (by first | exact .inl rfl | exact .inr rfl))))
    (ess_cons (es_expr (ev_call (ok 4 rfl) hr (by rfl) fx.g4 fx.F4.kp fx.B4 tk (ea_one (ev_call (ok 12 rfl) hr (by rfl) fx.g12 fx.F12.kp fx.B12 tk (ea_one (ev_call (ok 10 rfl) hr (by rfl) fx.g10 fx.F10.kp fx.B10 tk (ea_one (evv 0) ea_nil)) (ea_one (evv 2) ea_nil))) ea_nil)))
    (ess_cons (es_ret (evv 2))
    ess_nil)))
theorem fn14 (fx : Fx PM K mg G fa ca fd) (ok : AllOk PM w K mg base G fa fd n) : FnOk PM w K mg base (CX PM w) (2 * (n + 1)) (fa 14) (fd 14) ["book", "equations"] (SpF G K P (n + 1) 14) :=
  fn_succ (r := 2 * n + 1) fx.F14 sc14 (fn := ⟨2, 6, [], b14⟩) rfl rfl rfl (by decide) fun cdv A outer s H E hr1 => by
    have tk := @tk_cx PM w K mg base ["book", "equations", "own", "signs", "pair", "term"] "sure_equations" (defScope s14) (fa 14) cdv A outer s H E
    have hr := hr1.mono (Nat.le_succ (2 * n))
    let C := callN P n
    show PSs _ _ (EvS G K (ZE K E) (bCons (sAsg (gSlot 2) (cCall C 3 (aOne (cVar 1) aNil))) (bCons (sEx (cCall C 4 (aOne (cAnd (cIsb (cVar 2) [.tuple]) (cBf .all (sLc [4] (gSlot 4) (iSeq (cVar 2)) tYes (cCall C 2 (aOne (cVar 4) (aOne (cCon (.int (.ofNat 2))) aNil)))))) aNil))) (bCons (sAsg (gSlot 3) (cCall C 10 (aOne (cVar 0) aNil))) (bCons (sEx (cCall C 4 (aOne (cBf .all (sLc2 [4, 5] (gSlot 4) (iSeq (cVar 2)) tYes [5] (gSlot 5) (iSeq (cVar 4)) tYes (cCall C 12 (aOne (cVar 3) (aOne (cVar 5) aNil))))) aNil))) (bCons (sRet (cVar 2)) bNil))))))
    exact (ess_cons (es_asg (ev_call (ok 3 rfl) hr (by rfl) fx.g3 fx.F3.kp fx.B3 tk (ea_one (evv 1) ea_nil)) (eg_of (eg0_name (i := 2) sc14.nd rfl (by first | exact .inl rfl | exact .inr rfl))))
    (ess_cons (es_expr (ev_call (ok 4 rfl) hr (by rfl) fx.g4 fx.F4.kp fx.B4 tk (ea_one (ev_and (ev_isb1 (t := .tuple) (by rfl) fx.b_isinstance (evv 2) (cty fx.b_tuple)) (ev_bool1 (ev_all rfl (by rfl) fx.b_all (el_new (en_lc (own := [("pair", 4)]) (vs := [4]) rfl sc14.nd (ei_val (evv 2)) (blkOk_by (by kernel_rfl)) rfl (fun _ _ _ _ _ => (egv_name (i := 4) sc14.nd rfl (by first | exact .inl rfl | exact .inr rfl) (by first | exact .inl rfl | exact .inr rfl) (by decide))) (fun _ _ _ _ _ => ets_nil) (fun _ _ _ _ _ => (ev_call (ok 2 rfl) hr (by rfl) fx.g2 fx.F2.kp fx.B2 tk_blk (ea_one (evv 4) (ea_one evi ea_nil))))))))) ea_nil)))
    (ess_cons (es_asg (ev_call (ok 10 rfl) hr (by rfl) fx.g10 fx.F10.kp fx.B10 tk (ea_one (evv 0) ea_nil)) (eg_of (eg0_name (i := 3) sc14.nd rfl (by first | exact .inl rfl | exact .inr rfl))))
    (ess_cons (es_expr (ev_call (ok 4 rfl) hr (by rfl) fx.g4 fx.F4.kp fx.B4 tk (ea_one (ev_all rfl (by rfl) fx.b_all (el_new (en_lc2 (own := [("pair", 4), ("term", 5)]) (vs := [4, 5]) (vs1 := [5]) rfl sc14.nd (ei_val (evv 2)) (blkOk_by (by kernel_rfl)) rfl (by decide) (fun _ _ _ _ _ => (egv_name (i := 4) sc14.nd rfl (by first | exact .inl rfl | exact .inr rfl) (by first | exact .inl rfl | exact .inr rfl) (by decide))) (fun _ _ _ _ _ => ets_nil) (fun _ _ _ _ _ => (ei_val (evv 4))) (fun _ _ _ _ _ => (egv_name (i := 5) sc14.nd rfl (by first | exact .inl rfl | exact .inr rfl) (by first | exact .inl rfl | exact .inr rfl) (by decide))) (fun _ _ _ _ _ => ets_nil) (fun _ _ _ _ _ => (ev_call (ok 12 rfl) hr (by rfl) fx.g12 fx.F12.kp fx.B12 tk_blk (ea_one (evv 3) (ea_one (evv 5) ea_nil))))))) ea_nil)))
    (ess_cons (es_ret (evv 2))
    ess_nil)))))
theorem fn15 (fx : Fx PM K mg G fa ca fd) (ok : AllOk PM w K mg base G fa fd n) : FnOk PM w K mg base (CX PM w) (2 * (n + 1)) (fa 15) (fd 15) ["own"] (SpF G K P (n + 1) 15) :=
  fn_succ (r := 2 * n + 1) fx.F15 sc15 (fn := ⟨1, 1, [], b15⟩) rfl rfl rfl (by decide) fun cdv A outer s H E hr1 => by
    have tk := @tk_cx PM w K mg base ["own"] "parts_in" (defScope s15) (fa 15) cdv A outer s H E
    have hr := hr1.mono (Nat.le_succ (2 * n))
    let C := callN P n
    show PSs _ _ (EvS G K (ZE K E) (bCons (sRet (cIte (tVal (cCall C 0 (aOne (cVar 0) aNil))) (cTup aNil) (cIdx (cVar 0) (cCon (.int (.ofNat 1)))))) bNil))
    exact (ess_cons (es_ret (ev_ite (et_val (ev_call (ok 0 rfl) hr (by rfl) fx.g0 fx.F0.kp fx.B0 tk (ea_one (evv 0) ea_nil)) (fun _ => rfl)) (ev_tup ea_nil) (ev_idx hr.units (evv 0) evi (fun _ _ => rfl))))
    ess_nil)
theorem fn16 (fx : Fx PM K mg G fa ca fd) (ok : AllOk PM w K mg base G fa fd n) : FnOk PM w K mg base (CX PM w) (2 * (n + 1)) (fa 16) (fd 16) ["signs", "own"] (SpF G K P (n + 1) 16) :=
  fn_succ (r := 2 * n + 1) fx.F16 sc16 (fn := ⟨2, 4, [], b16⟩) rfl rfl rfl (by decide) fun cdv A outer s H E hr1 => by
    have tk := @tk_cx PM w K mg base ["signs", "own", "below", "part"] "words_in" (defScope s16) (fa 16) cdv A outer s H E
    have hr := hr1.mono (Nat.le_succ (2 * n))
    let C := callN P n
    show PSs _ _ (EvS G K (ZE K E) (bCons (sIte (tVal (cCall C 0 (aOne (cVar 1) aNil))) (bCons (sRet (cCon (.int (.ofNat 1)))) bNil) bNil) (bCons (sAsg (gSlot 2) (cBf .sum (sLc [3] (gSlot 3) (iSeq (cIdx (cVar 1) (cCon (.int (.ofNat 1))))) tYes (cCall C 16 (aOne (cVar 0) (aOne (cVar 3) aNil)))))) (bCons (sRet (cBin .add (cVar 2) (cIte (tCmp .eq (cIdx (cIdx (cVar 0) (cIdx (cVar 1) (cCon (.int (.ofNat 0))))) (cCon (.int (.ofNat 0)))) (cCon (.str [98, 97, 103]))) (cBin .sub (cLen (cIdx (cVar 1) (cCon (.int (.ofNat 1))))) (cCon (.int (.ofNat 1)))) (cCon (.int (.ofNat 1)))))) bNil))))
    exact (ess_cons (es_if (et_val (ev_call (ok 0 rfl) hr (by rfl) fx.g0 fx.F0.kp fx.B0 tk (ea_one (evv 1) ea_nil)) (fun _ => rfl)) (ess_cons (es_ret evi)
    ess_nil) ess_nil)
    (ess_cons (es_asg (ev_sum rfl (by rfl) fx.b_sum (el_new (en_lc (own := [("part", 3)]) (vs := [3]) rfl sc16.nd (ei_val (ev_idx hr.units (evv 1) evi (fun _ _ => rfl))) (blkOk_by (by kernel_rfl)) rfl (fun _ _ _ _ _ => (egv_name (i := 3) sc16.nd rfl (by first | exact .inl rfl | exact .inr rfl) (by first | exact .inl rfl | exact .inr rfl) (by decide))) (fun _ _ _ _ _ => ets_nil) (fun _ _ _ _ _ => (ev_call (ok 16 rfl) hr (by rfl) fx.g16 fx.F16.kp fx.B16 tk_blk (ea_one (evv 0) (ea_one (evv 3) ea_nil))))))) (eg_of (eg0_name (i := 2) sc16.nd rfl (by first | exact .inl rfl | exact .inr rfl))))
    (ess_cons (es_ret (ev_bin (op := .add) (evv 2) (ev_ite (et_cmp (op := .eq) hr.units (ev_idx hr.units (ev_idx hr.units (evv 0) (ev_idx hr.units (evv 1) evi (fun _ _ => rfl)) (fun _ _ => rfl)) evi (fun _ _ => rfl)) (evgS fx.c_BAG) (by rfl)) (ev_bin (op := .sub) (ev_len (by rfl) fx.b_len (ev_idx hr.units (evv 1) evi (fun _ _ => rfl))) evi) evi)))
    ess_nil)))
theorem fn17 (fx : Fx PM K mg G fa ca fd) (ok : AllOk PM w K mg base G fa fd n) : FnOk PM w K mg base (CX PM w) (2 * (n + 1)) (fa 17) (fd 17) ["own"] (SpF G K P (n + 1) 17) :=
  fn_succ (r := 2 * n + 1) fx.F17 sc17 (fn := ⟨1, 7, [], b17⟩) rfl rfl rfl (by decide) fun cdv A outer s H E hr1 => by
    have tk := @tk_cx PM w K mg base ["own", "found", "line", "path", "here", "place", "part"] "walked" (defScope s17) (fa 17) cdv A outer s H E
    have hr := hr1.mono (Nat.le_succ (2 * n))
    let C := callN P n
    show PSs _ _ (EvS G K (ZE K E) (bCons (sPar [1, 2] (aOne (cLst aNil) (aOne (cLst (aOne (cTup (aOne (cTup aNil) (aOne (cVar 0) aNil))) aNil)) aNil))) (bCons (sWhl (tCmp .ne (cVar 2) (cLst aNil)) (bCons (sAsg (gTupN 2 (gCons (gSlot 3) (gCons (gSlot 4) gNil))) (cLm .pop (cVar 2) aNil)) (bCons (sEx (cLm .append (cVar 1) (aOne (cTup (aOne (cVar 3) (aOne (cVar 4) aNil))) aNil))) (bCons (sEx (cLm .extend (cVar 2) (aOne (cRevA (cLst (sLc [5, 6] (gTupN 2 (gCons (gSlot 5) (gCons (gSlot 6) gNil))) (iEnum (cCall C 15 (aOne (cVar 4) aNil))) tYes (cTup (aOne (cTup (aStar (cSeqOf (cVar 3)) (aOne (cVar 5) aNil))) (aOne (cVar 6) aNil)))))) aNil))) bNil)))) (bCons (sRet (cVar 1)) bNil))))
    exact (ess_cons (es_par2 rfl sc17.nd rfl rfl (by decide) rfl rfl (ea_one (ev_lst ea_nil) (ea_one (ev_lst (ea_one (ev_tup (ea_one (ev_tup ea_nil) (ea_one (evv 0) ea_nil))) ea_nil)) ea_nil)) (by rfl))
    (ess_cons (es_while (passes_of rfl) (et_cmp (op := .ne) hr.units (evv 2) (ev_lst ea_nil) (by rfl)) (ess_cons (es_asg (ev_pop (evv 2)) (eg_of (eg0_tup (n := 2) rfl (egs_cons (eg0_name (i := 3) sc17.nd rfl (by first | exact .inl rfl | exact .inr rfl)) (egs_cons (eg0_name (i := 4) sc17.nd rfl (by first | exact .inl rfl | exact .inr rfl)) egs_nil)))))
    (ess_cons (es_expr (ev_append (evv 1) (ea_one (ev_tup (ea_one (evv 3) (ea_one (evv 4) ea_nil))) ea_nil)))
    (ess_cons (es_expr (ev_extend (evv 2) (ea_one (ev_revA (ev_new (en_lc (own := [("place", 5), ("part", 6)]) (vs := [5, 6]) rfl sc17.nd (ei_enum (by rfl) fx.b_enumerate (ea_one (ev_call (ok 15 rfl) hr (by rfl) fx.g15 fx.F15.kp fx.B15 tk (ea_one (evv 4) ea_nil)) ea_nil)) (blkOk_by (by kernel_rfl)) rfl (fun _ _ _ _ _ => (egv_tup (n := 2) rfl (egvs_cons (egv_name (i := 5) sc17.nd rfl (by first | exact .inl rfl | exact .inr rfl) (by first | exact .inl rfl | exact .inr rfl) (by decide)) (egvs_cons (egv_name (i := 6) sc17.nd rfl (by first | exact .inl rfl | exact .inr rfl) (by first | exact .inl rfl | exact .inr rfl) (by decide)) egvs_nil rfl) rfl) rfl rfl)) (fun _ _ _ _ _ => ets_nil) (fun _ _ _ _ _ => (ev_tup (ea_one (ev_tup (ea_star (eq_of (evv 3)) (ea_one (evv 5) ea_nil))) (ea_one (evv 6) ea_nil))))))) ea_nil)))
    ess_nil))))
    (ess_cons (es_ret (evv 1))
    ess_nil)))
theorem fn18 (fx : Fx PM K mg G fa ca fd) (ok : AllOk PM w K mg base G fa fd n) : FnOk PM w K mg base (CX PM w) (2 * (n + 1)) (fa 18) (fd 18) ["own"] (SpF G K P (n + 1) 18) :=
  fn_succ (r := 2 * n + 1) fx.F18 sc18 (fn := ⟨1, 3, [], b18⟩) rfl rfl rfl (by decide) fun cdv A outer s H E hr1 => by
    have tk := @tk_cx PM w K mg base ["own", "_", "here"] "unknowns_in" (defScope s18) (fa 18) cdv A outer s H E
    have hr := hr1.mono (Nat.le_succ (2 * n))
    let C := callN P n
    show PSs _ _ (EvS G K (ZE K E) (bCons (sRet (cBf .tuple (cSeqOf (cSset (sLc [1, 2] (gTupN 2 (gCons (gSlot 1) (gCons (gSlot 2) gNil))) (iSeq (cCall C 17 (aOne (cVar 0) aNil))) (tVal (cCall C 0 (aOne (cVar 2) aNil))) (cVar 2)))))) bNil))
    exact (ess_cons (es_ret (ev_tupleQ (by rfl) fx.b_tuple (eq_of (ev_sset rfl hr.units (by rfl) fx.b_sorted (by rfl) fx.b_set (el_new (en_lc (own := [("_", 1), ("here", 2)]) (vs := [1, 2]) rfl sc18.nd (ei_val (ev_call (ok 17 rfl) hr (by rfl) fx.g17 fx.F17.kp fx.B17 tk (ea_one (evv 0) ea_nil))) (blkOk_by (by kernel_rfl)) rfl (fun _ _ _ _ _ => (egv_tup (n := 2) rfl (egvs_cons (egv_name (i := 1) sc18.nd rfl (by first | exact .inl rfl | exact .inr rfl) (by first | exact .inl rfl | exact .inr rfl) (by decide)) (egvs_cons (egv_name (i := 2) sc18.nd rfl (by first | exact .inl rfl | exact .inr rfl) (by first | exact .inl rfl | exact .inr rfl) (by decide)) egvs_nil rfl) rfl) rfl rfl)) (fun _ _ _ _ _ => (ets_one (et_val (ev_call (ok 0 rfl) hr (by rfl) fx.g0 fx.F0.kp fx.B0 tk_blk (ea_one (evv 2) ea_nil)) (fun _ => rfl)))) (fun _ _ _ _ _ => (evv 2))))))))
    ess_nil)
theorem fn19 (fx : Fx PM K mg G fa ca fd) (ok : AllOk PM w K mg base G fa fd n) : FnOk PM w K mg base (CX PM w) (2 * (n + 1)) (fa 19) (fd 19) ["signs", "own"] (SpF G K P (n + 1) 19) :=
  fn_succ (r := 2 * n + 1) fx.F19 sc19 (fn := ⟨2, 9, [], b19⟩) rfl rfl rfl (by decide) fun cdv A outer s H E hr1 => by
    have tk := @tk_cx PM w K mg base ["signs", "own", "behind", "name", "parts", "words", "keys", "part", "key"] "key_of" (defScope s19) (fa 19) cdv A outer s H E
    have hr := hr1.mono (Nat.le_succ (2 * n))
    let C := callN P n
    show PSs _ _ (EvS G K (ZE K E) (bCons (sIte (tVal (cCall C 0 (aOne (cVar 1) aNil))) (bCons (sRet (cTup (aOne (cCon (.int (.ofNat 1))) (aOne (cCon (.int (.ofNat 0))) (aOne (cVar 1) aNil))))) bNil) bNil) (bCons (sAsg (gTupN 2 (gCons (gSlot 3) (gCons (gSlot 4) gNil))) (cVar 1)) (bCons (sPar [5, 6] (aOne (cCall C 16 (aOne (cVar 0) (aOne (cVar 1) aNil))) (aOne (cLst (sLc [7] (gSlot 7) (iSeq (cVar 4)) tYes (cCall C 19 (aOne (cVar 0) (aOne (cVar 7) aNil))))) aNil))) (bCons (sIte (tCmp .ne (cIdx (cIdx (cVar 0) (cVar 3)) (cCon (.int (.ofNat 0)))) (cCon (.str [98, 97, 103]))) (bCons (sRet (cTup (aOne (cVar 5) (aOne (cCon (.int (.ofNat 1))) (aOne (cVar 3) (aOne (cBf .tuple (cSeqOf (cVar 6))) aNil)))))) bNil) bNil) (bCons (sAsg (gSlot 2) (cLst (sLc [7, 8] (gTupN 2 (gCons (gSlot 8) (gCons (gSlot 7) gNil))) (iZip (cVar 6) (cVar 4)) (tAnd (tNot (tVal (cCall C 0 (aOne (cVar 7) aNil)))) (tCmp .gt (cIdx (cVar 7) (cCon (.int (.ofNat 0)))) (cVar 3))) (cVar 8)))) (bCons (sRet (cTup (aOne (cVar 5) (aOne (cCon (.int (.ofNat 1))) (aOne (cVar 3) (aOne (cBf .tuple (cSeqOf (cRevA (cSrt (cVar 2))))) (aOne (cLen (cVar 4)) (aOne (cBf .tuple (cSeqOf (cRevA (cSrt (cVar 6))))) aNil)))))))) bNil)))))))
    exact (ess_cons (es_if (et_val (ev_call (ok 0 rfl) hr (by rfl) fx.g0 fx.F0.kp fx.B0 tk (ea_one (evv 1) ea_nil)) (fun _ => rfl)) (ess_cons (es_ret (ev_tup (ea_one evi (ea_one evi (ea_one (evv 1) ea_nil)))))
    ess_nil) ess_nil)
    (ess_cons (es_asg (evv 1) (eg_of (eg0_tup (n := 2) rfl (egs_cons (eg0_name (i := 3) sc19.nd rfl (by first | exact .inl rfl | exact .inr rfl)) (egs_cons (eg0_name (i := 4) sc19.nd rfl (by first | exact .inl rfl | exact .inr rfl)) egs_nil)))))
    (ess_cons (es_par2 rfl sc19.nd rfl rfl (by decide) rfl rfl (ea_one (ev_call (ok 16 rfl) hr (by rfl) fx.g16 fx.F16.kp fx.B16 tk (ea_one (evv 0) (ea_one (evv 1) ea_nil))) (ea_one (ev_new (en_lc (own := [("part", 7)]) (vs := [7]) rfl sc19.nd (ei_val (evv 4)) (blkOk_by (by kernel_rfl)) rfl (fun _ _ _ _ _ => (egv_name (i := 7) sc19.nd rfl (by first | exact .inl rfl | exact .inr rfl) (by first | exact .inl rfl | exact .inr rfl) (by decide))) (fun _ _ _ _ _ => ets_nil) (fun _ _ _ _ _ => (ev_call (ok 19 rfl) hr (by rfl) fx.g19 fx.F19.kp fx.B19 tk_blk (ea_one (evv 0) (ea_one (evv 7) ea_nil)))))) ea_nil)) (by rfl))
    (ess_cons (es_if (et_cmp (op := .ne) hr.units (ev_idx hr.units (ev_idx hr.units (evv 0) (evv 3) (fun _ _ => rfl)) evi (fun _ _ => rfl)) (evgS fx.c_BAG) (by rfl)) (ess_cons (es_ret (ev_tup (ea_one (evv 5) (ea_one evi (ea_one (evv 3) (ea_one (ev_tupleQ (by rfl) fx.b_tuple (eq_of (evv 6))) ea_nil))))))
    ess_nil) ess_nil)
    (ess_cons (es_setLc (i := 2) (own := [("part", 7), ("key", 8)]) (vs := [7, 8]) rfl sc19.nd (ei_zip (by rfl) fx.b_zip (ea_one (evv 6) (ea_one (evv 4) ea_nil))) (blkOk_by (by kernel_rfl)) rfl (fun _ _ _ _ _ => (egv_tup (n := 2) rfl (egvs_cons (egv_name (i := 8) sc19.nd rfl (by first | exact .inl rfl | exact .inr rfl) (by first | exact .inl rfl | exact .inr rfl) (by decide)) (egvs_cons (egv_name (i := 7) sc19.nd rfl (by first | exact .inl rfl | exact .inr rfl) (by first | exact .inl rfl | exact .inr rfl) (by decide)) egvs_nil rfl) rfl) rfl rfl)) (fun _ _ _ _ _ => (ets_one (PW.pt (ew_and (et_not (et_val (ev_call (ok 0 rfl) hr (by rfl) fx.g0 fx.F0.kp fx.B0 tk_blk (ea_one (evv 7) ea_nil)) (fun _ => rfl))) (ew_and1 (et_cmp (op := .gt) hr.units (ev_idx hr.units (evv 7) evi (fun _ _ => rfl)) (evv 3) (by rfl))))))) (fun _ _ _ _ _ => (evv 8)))
    (ess_cons (es_ret (ev_tup (ea_one (evv 5) (ea_one evi (ea_one (evv 3) (ea_one (ev_tupleQ (by rfl) fx.b_tuple (eq_of (ev_revA (ev_srt rfl hr.units (by rfl) fx.b_sorted (evv 2))))) (ea_one (ev_len (by rfl) fx.b_len (evv 4)) (ea_one (ev_tupleQ (by rfl) fx.b_tuple (eq_of (ev_revA (ev_srt rfl hr.units (by rfl) fx.b_sorted (evv 6))))) ea_nil))))))))
    ess_nil))))))
theorem fn20 (fx : Fx PM K mg G fa ca fd) (ok : AllOk PM w K mg base G fa fd n) : FnOk PM w K mg base (CX PM w) (2 * (n + 1)) (fa 20) (fd 20) ["signs", "forms"] (SpF G K P (n + 1) 20) :=
  fn_succ (r := 2 * n + 1) fx.F20 sc20 (fn := ⟨2, 4, [], b20⟩) rfl rfl rfl (by decide) fun cdv A outer s H E hr1 => by
    have tk := @tk_cx PM w K mg base ["signs", "forms", "_", "own"] "in_order" (defScope s20) (fa 20) cdv A outer s H E
    have hr := hr1.mono (Nat.le_succ (2 * n))
    let C := callN P n
    show PSs _ _ (EvS G K (ZE K E) (bCons (sRet (cLst (sLc [2, 3] (gTupN 2 (gCons (gSlot 2) (gCons (gSlot 3) gNil))) (iSeq (cBf .sorted (sLc [3] (gSlot 3) (iSeq (cVar 1)) tYes (cTup (aOne (cCall C 19 (aOne (cVar 0) (aOne (cVar 3) aNil))) (aOne (cVar 3) aNil)))))) tYes (cVar 3)))) bNil))
    exact (ess_cons (es_ret (ev_new (en_lc (own := [("_", 2), ("own", 3)]) (vs := [2, 3]) rfl sc20.nd (ei_val (ev_sorted hr.units (by rfl) fx.b_sorted (el_new (en_lc (own := [("own", 3)]) (vs := [3]) rfl sc20.nd (ei_val (evv 1)) (blkOk_by (by kernel_rfl)) rfl (fun _ _ _ _ _ => (egv_name (i := 3) sc20.nd rfl (by first | exact .inl rfl | exact .inr rfl) (by first | exact .inl rfl | exact .inr rfl) (by decide))) (fun _ _ _ _ _ => ets_nil) (fun _ _ _ _ _ => (ev_tup (ea_one (ev_call (ok 19 rfl) hr (by rfl) fx.g19 fx.F19.kp fx.B19 tk_blk (ea_one (evv 0) (ea_one (evv 3) ea_nil))) (ea_one (evv 3) ea_nil)))))))) (blkOk_by (by kernel_rfl)) rfl (fun _ _ _ _ _ => (egv_tup (n := 2) rfl (egvs_cons (egv_name (i := 2) sc20.nd rfl (by first | exact .inl rfl | exact .inr rfl) (by first | exact .inl rfl | exact .inr rfl) (by decide)) (egvs_cons (egv_name (i := 3) sc20.nd rfl (by first | exact .inl rfl | exact .inr rfl) (by first | exact .inl rfl | exact .inr rfl) (by decide)) egvs_nil rfl) rfl) rfl rfl)) (fun _ _ _ _ _ => ets_nil) (fun _ _ _ _ _ => (evv 3)))))
    ess_nil)
theorem fn21 (fx : Fx PM K mg G fa ca fd) (ok : AllOk PM w K mg base G fa fd n) : FnOk PM w K mg base (CX PM w) (2 * (n + 1)) (fa 21) (fd 21) ["name", "parts"] (SpF G K P (n + 1) 21) :=
  fn_succ (r := 2 * n + 1) fx.F21 sc21 (fn := ⟨2, 4, [], b21⟩) rfl rfl rfl (by decide) fun cdv A outer s H E hr1 => by
    have tk := @tk_cx PM w K mg base ["name", "parts", "found", "part"] "flat_parts" (defScope s21) (fa 21) cdv A outer s H E
    have hr := hr1.mono (Nat.le_succ (2 * n))
    let C := callN P n
    show PSs _ _ (EvS G K (ZE K E) (bCons (sAsg (gSlot 2) (cLst aNil)) (bCons (sFor (gSlot 3) (iSeq (cVar 1)) (bCons (sIte (tAnd (tNot (tVal (cCall C 0 (aOne (cVar 3) aNil)))) (tCmp .eq (cIdx (cVar 3) (cCon (.int (.ofNat 0)))) (cVar 0))) (bCons (sEx (cLm .extend (cVar 2) (aOne (cBf .list (cSeqOf (cIdx (cVar 3) (cCon (.int (.ofNat 1)))))) aNil))) bNil) (bCons (sEx (cLm .append (cVar 2) (aOne (cVar 3) aNil))) bNil)) bNil)) (bCons (sRet (cVar 2)) bNil))))
    exact (ess_cons (es_asg (ev_lst ea_nil) (eg_of (eg0_name (i := 2) sc21.nd rfl (by first | exact .inl rfl | exact .inr rfl))))
    (ess_cons (es_for (passes_of rfl) rfl (ei_val (evv 1)) (eg_of (eg0_name (i := 3) sc21.nd rfl (by first | exact .inl rfl | exact .inr rfl))) (ess_cons (es_if (PW.pt (ew_and (et_not (et_val (ev_call (ok 0 rfl) hr (by rfl) fx.g0 fx.F0.kp fx.B0 tk (ea_one (evv 3) ea_nil)) (fun _ => rfl))) (ew_and1 (et_cmp (op := .eq) hr.units (ev_idx hr.units (evv 3) evi (fun _ _ => rfl)) (evv 0) (by rfl))))) (ess_cons (es_expr (ev_extend (evv 2) (ea_one (ev_listQ (by rfl) fx.b_list (eq_of (ev_idx hr.units (evv 3) evi (fun _ _ => rfl)))) ea_nil)))
    ess_nil) (ess_cons (es_expr (ev_append (evv 2) (ea_one (evv 3) ea_nil)))
    ess_nil))
    ess_nil))
    (ess_cons (es_ret (evv 2))
    ess_nil)))
theorem fn22 (fx : Fx PM K mg G fa ca fd) (ok : AllOk PM w K mg base G fa fd n) : FnOk PM w K mg base (CX PM w) (2 * (n + 1)) (fa 22) (fd 22) ["signs", "own"] (SpF G K P (n + 1) 22) :=
  fn_succ (r := 2 * n + 1) fx.F22 sc22 (fn := ⟨2, 5, [], b22⟩) rfl rfl rfl (by decide) fun cdv A outer s H E hr1 => by
    have tk := @tk_cx PM w K mg base ["signs", "own", "name", "parts", "part"] "formed_by" (defScope s22) (fa 22) cdv A outer s H E
    have hr := hr1.mono (Nat.le_succ (2 * n))
    let C := callN P n
    show PSs _ _ (EvS G K (ZE K E) (bCons (sIte (tVal (cCall C 0 (aOne (cVar 1) aNil))) (bCons (sRet (cVar 1)) bNil) bNil) (bCons (sPar [2, 3] (aOne (cIdx (cVar 1) (cCon (.int (.ofNat 0)))) (aOne (cLst (sLc [4] (gSlot 4) (iSeq (cIdx (cVar 1) (cCon (.int (.ofNat 1))))) tYes (cCall C 22 (aOne (cVar 0) (aOne (cVar 4) aNil))))) aNil))) (bCons (sIte (tCmp .eq (cIdx (cIdx (cVar 0) (cVar 2)) (cCon (.int (.ofNat 0)))) (cCon (.str [112, 108, 97, 105, 110]))) (bCons (sRet (cTup (aOne (cVar 2) (aOne (cBf .tuple (cSeqOf (cVar 3))) aNil)))) bNil) bNil) (bCons (sIte (tCmp .eq (cIdx (cIdx (cVar 0) (cVar 2)) (cCon (.int (.ofNat 0)))) (cCon (.str [98, 97, 103]))) (bCons (sAsg (gSlot 3) (cCall C 21 (aOne (cVar 2) (aOne (cVar 3) aNil)))) bNil) bNil) (bCons (sRet (cTup (aOne (cVar 2) (aOne (cBf .tuple (cSeqOf (cCall C 20 (aOne (cVar 0) (aOne (cVar 3) aNil))))) aNil)))) bNil))))))
    exact (ess_cons (es_if (et_val (ev_call (ok 0 rfl) hr (by rfl) fx.g0 fx.F0.kp fx.B0 tk (ea_one (evv 1) ea_nil)) (fun _ => rfl)) (ess_cons (es_ret (evv 1))
    ess_nil) ess_nil)
    (ess_cons (es_par2 rfl sc22.nd rfl rfl (by decide) rfl rfl (ea_one (ev_idx hr.units (evv 1) evi (fun _ _ => rfl)) (ea_one (ev_new (en_lc (own := [("part", 4)]) (vs := [4]) rfl sc22.nd (ei_val (ev_idx hr.units (evv 1) evi (fun _ _ => rfl))) (blkOk_by (by kernel_rfl)) rfl (fun _ _ _ _ _ => (egv_name (i := 4) sc22.nd rfl (by first | exact .inl rfl | exact .inr rfl) (by first | exact .inl rfl | exact .inr rfl) (by decide))) (fun _ _ _ _ _ => ets_nil) (fun _ _ _ _ _ => (ev_call (ok 22 rfl) hr (by rfl) fx.g22 fx.F22.kp fx.B22 tk_blk (ea_one (evv 0) (ea_one (evv 4) ea_nil)))))) ea_nil)) (by rfl))
    (ess_cons (es_if (et_cmp (op := .eq) hr.units (ev_idx hr.units (ev_idx hr.units (evv 0) (evv 2) (fun _ _ => rfl)) evi (fun _ _ => rfl)) (evgS fx.c_PLAIN) (by rfl)) (ess_cons (es_ret (ev_tup (ea_one (evv 2) (ea_one (ev_tupleQ (by rfl) fx.b_tuple (eq_of (evv 3))) ea_nil))))
    ess_nil) ess_nil)
    (ess_cons (es_if (et_cmp (op := .eq) hr.units (ev_idx hr.units (ev_idx hr.units (evv 0) (evv 2) (fun _ _ => rfl)) evi (fun _ _ => rfl)) (evgS fx.c_BAG) (by rfl)) (ess_cons (es_asg (ev_call (ok 21 rfl) hr (by rfl) fx.g21 fx.F21.kp fx.B21 tk (ea_one (evv 2) (ea_one (evv 3) ea_nil))) (eg_of (eg0_name (i := 3) sc22.nd rfl (by first | exact .inl rfl | exact .inr rfl))))
    ess_nil) ess_nil)
    (ess_cons (es_ret (ev_tup (ea_one (evv 2) (ea_one (ev_tupleQ (by rfl) fx.b_tuple (eq_of (ev_call (ok 20 rfl) hr (by rfl) fx.g20 fx.F20.kp fx.B20 tk (ea_one (evv 0) (ea_one (evv 3) ea_nil))))) ea_nil))))
    ess_nil)))))
theorem fn23 (fx : Fx PM K mg G fa ca fd) (ok : AllOk PM w K mg base G fa fd n) : FnOk PM w K mg base (CX PM w) (2 * (n + 1)) (fa 23) (fd 23) ["signs", "name", "forms"] (SpF G K P (n + 1) 23) :=
  fn_succ (r := 2 * n + 1) fx.F23 sc23 (fn := ⟨3, 4, [], b23⟩) rfl rfl rfl (by decide) fun cdv A outer s H E hr1 => by
    have tk := @tk_cx PM w K mg base ["signs", "name", "forms", "some"] "bag_of" (defScope s23) (fa 23) cdv A outer s H E
    have hr := hr1.mono (Nat.le_succ (2 * n))
    let C := callN P n
    show PSs _ _ (EvS G K (ZE K E) (bCons (sAsg (gSlot 3) (cCall C 21 (aOne (cVar 1) (aOne (cVar 2) aNil)))) (bCons (sRet (cIte (tCmp .eq (cLen (cVar 3)) (cCon (.int (.ofNat 1)))) (cIdx (cVar 3) (cCon (.int (.ofNat 0)))) (cTup (aOne (cVar 1) (aOne (cBf .tuple (cSeqOf (cCall C 20 (aOne (cVar 0) (aOne (cVar 3) aNil))))) aNil))))) bNil)))
    exact (ess_cons (es_asg (ev_call (ok 21 rfl) hr (by rfl) fx.g21 fx.F21.kp fx.B21 tk (ea_one (evv 1) (ea_one (evv 2) ea_nil))) (eg_of (eg0_name (i := 3) sc23.nd rfl (by first | exact .inl rfl | exact .inr rfl))))
    (ess_cons (es_ret (ev_ite (et_cmp (op := .eq) hr.units (ev_len (by rfl) fx.b_len (evv 3)) evi (by rfl)) (ev_idx hr.units (evv 3) evi (fun _ _ => rfl)) (ev_tup (ea_one (evv 1) (ea_one (ev_tupleQ (by rfl) fx.b_tuple (eq_of (ev_call (ok 20 rfl) hr (by rfl) fx.g20 fx.F20.kp fx.B20 tk (ea_one (evv 0) (ea_one (evv 3) ea_nil))))) ea_nil)))))
    ess_nil))
theorem fn24 (fx : Fx PM K mg G fa ca fd) (ok : AllOk PM w K mg base G fa fd n) : FnOk PM w K mg base (CX PM w) (2 * (n + 1)) (fa 24) (fd 24) ["signs", "thing"] (SpF G K P (n + 1) 24) :=
  fn_succ (r := 2 * n + 1) fx.F24 sc24 (fn := ⟨2, 5, [], b24⟩) rfl rfl rfl (by decide) fun cdv A outer s H E hr1 => by
    have tk := @tk_cx PM w K mg base ["signs", "thing", "own", "near", "far"] "is_answer_by" (defScope s24) (fa 24) cdv A outer s H E
    have hr := hr1.mono (Nat.le_succ (2 * n))
    let C := callN P n
    show PSs _ _ (EvS G K (ZE K E) (bCons (sIte (tOr (tNot (tVal (cIsb (cVar 1) [.tuple]))) (tNot (tVal (cBf .all (sLc [2] (gSlot 2) (iSeq (cVar 1)) tYes (cCall C 2 (aOne (cVar 2) (aOne (cCon (.int (.ofNat 2))) aNil)))))))) (bCons (sRet (cCon (.bl false))) bNil) bNil) (bCons (sIte (tNot (tVal (cBf .all (sLc [2] (gSlot 2) (iSeq (cVar 1)) tYes (cAnd (cCall C 1 (aOne (cIdx (cVar 2) (cCon (.int (.ofNat 0)))) (aOne (cCon (.int (.ofNat 100))) aNil))) (cCall C 12 (aOne (cVar 0) (aOne (cIdx (cVar 2) (cCon (.int (.ofNat 1)))) aNil)))))))) (bCons (sRet (cCon (.bl false))) bNil) bNil) (bCons (sIte (tNot (tVal (cBf .all (sLc [3, 4] (gTupN 2 (gCons (gSlot 3) (gCons (gSlot 4) gNil))) (iZip (cVar 1) (cSlc (cVar 1) (cIntO (cCon (.int (.ofNat 1)))) (cCon .non))) tYes (cCmp .lt (cIdx (cVar 3) (cCon (.int (.ofNat 0)))) (cIdx (cVar 4) (cCon (.int (.ofNat 0))))))))) (bCons (sRet (cCon (.bl false))) bNil) bNil) (bCons (sRet (cNot (cBf .any (sLc [2] (gSlot 2) (iSeq (cVar 1)) tYes (cAnd (cCall C 0 (aOne (cIdx (cVar 2) (cCon (.int (.ofNat 1)))) aNil)) (cCmp .eq (cIdx (cVar 2) (cCon (.int (.ofNat 0)))) (cIdx (cVar 2) (cCon (.int (.ofNat 1)))))))))) bNil)))))
    exact (ess_cons (es_if (PW.pt (ew_or (et_not (et_val (ev_isb1 (t := .tuple) (by rfl) fx.b_isinstance (evv 1) (cty fx.b_tuple)) (fun _ => rfl))) (ew_or1 (et_not (et_val (ev_all rfl (by rfl) fx.b_all (el_new (en_lc (own := [("own", 2)]) (vs := [2]) rfl sc24.nd (ei_val (evv 1)) (blkOk_by (by kernel_rfl)) rfl (fun _ _ _ _ _ => (egv_name (i := 2) sc24.nd rfl (by first | exact .inl rfl | exact .inr rfl) (by first | exact .inl rfl | exact .inr rfl) (by decide))) (fun _ _ _ _ _ => ets_nil) (fun _ _ _ _ _ => (ev_call (ok 2 rfl) hr (by rfl) fx.g2 fx.F2.kp fx.B2 tk_blk (ea_one (evv 2) (ea_one evi ea_nil))))))) (fun _ => rfl)))))) (ess_cons (es_ret evb)
    ess_nil) ess_nil)
    (ess_cons (es_if (et_not (et_val (ev_all rfl (by rfl) fx.b_all (el_new (en_lc (own := [("own", 2)]) (vs := [2]) rfl sc24.nd (ei_val (evv 1)) (blkOk_by (by kernel_rfl)) rfl (fun _ _ _ _ _ => (egv_name (i := 2) sc24.nd rfl (by first | exact .inl rfl | exact .inr rfl) (by first | exact .inl rfl | exact .inr rfl) (by decide))) (fun _ _ _ _ _ => ets_nil) (fun _ _ _ _ _ => (ev_and (ev_call (ok 1 rfl) hr (by rfl) fx.g1 fx.F1.kp fx.B1 tk_blk (ea_one (ev_idx hr.units (evv 2) evi (fun _ _ => rfl)) (ea_one (evgI fx.c_MOST_UNKNOWN) ea_nil))) (ev_bool1 (ev_call (ok 12 rfl) hr (by rfl) fx.g12 fx.F12.kp fx.B12 tk_blk (ea_one (evv 0) (ea_one (ev_idx hr.units (evv 2) evi (fun _ _ => rfl)) ea_nil))))))))) (fun _ => rfl))) (ess_cons (es_ret evb)
    ess_nil) ess_nil)
    (ess_cons (es_if (et_not (et_val (ev_all rfl (by rfl) fx.b_all (el_new (en_lc (own := [("near", 3), ("far", 4)]) (vs := [3, 4]) rfl sc24.nd (ei_zip (by rfl) fx.b_zip (ea_one (evv 1) (ea_one (ev_slc (evv 1) (ep_some evi) ep_none) ea_nil))) (blkOk_by (by kernel_rfl)) rfl (fun _ _ _ _ _ => (egv_tup (n := 2) rfl (egvs_cons (egv_name (i := 3) sc24.nd rfl (by first | exact .inl rfl | exact .inr rfl) (by first | exact .inl rfl | exact .inr rfl) (by decide)) (egvs_cons (egv_name (i := 4) sc24.nd rfl (by first | exact .inl rfl | exact .inr rfl) (by first | exact .inl rfl | exact .inr rfl) (by decide)) egvs_nil rfl) rfl) rfl rfl)) (fun _ _ _ _ _ => ets_nil) (fun _ _ _ _ _ => (ev_cmp (op := .lt) hr.units (ev_idx hr.units (evv 3) evi (fun _ _ => rfl)) (ev_idx hr.units (evv 4) evi (fun _ _ => rfl)) (by rfl)))))) (fun _ => rfl))) (ess_cons (es_ret evb)
    ess_nil) ess_nil)
    (ess_cons (es_ret (ev_not (ev_any rfl (by rfl) fx.b_any (el_new (en_lc (own := [("own", 2)]) (vs := [2]) rfl sc24.nd (ei_val (evv 1)) (blkOk_by (by kernel_rfl)) rfl (fun _ _ _ _ _ => (egv_name (i := 2) sc24.nd rfl (by first | exact .inl rfl | exact .inr rfl) (by first | exact .inl rfl | exact .inr rfl) (by decide))) (fun _ _ _ _ _ => ets_nil) (fun _ _ _ _ _ => (ev_and (ev_call (ok 0 rfl) hr (by rfl) fx.g0 fx.F0.kp fx.B0 tk_blk (ea_one (ev_idx hr.units (evv 2) evi (fun _ _ => rfl)) ea_nil)) (ev_bool1 (ev_cmp (op := .eq) hr.units (ev_idx hr.units (evv 2) evi (fun _ _ => rfl)) (ev_idx hr.units (evv 2) evi (fun _ _ => rfl)) (by rfl))))))))))
    ess_nil))))
theorem fn25 (fx : Fx PM K mg G fa ca fd) (ok : AllOk PM w K mg base G fa fd n) : FnOk PM w K mg base (CX PM w) (2 * (n + 1)) (fa 25) (fd 25) ["book", "thing"] (SpF G K P (n + 1) 25) :=
  fn_succ (r := 2 * n + 1) fx.F25 sc25 (fn := ⟨2, 2, [], b25⟩) rfl rfl rfl (by decide) fun cdv A outer s H E hr1 => by
    have tk := @tk_cx PM w K mg base ["book", "thing"] "is_answer" (defScope s25) (fa 25) cdv A outer s H E
    have hr := hr1.mono (Nat.le_succ (2 * n))
    let C := callN P n
    show PSs _ _ (EvS G K (ZE K E) (bCons (sRet (cCall C 24 (aOne (cCall C 10 (aOne (cCall C 9 (aOne (cVar 0) aNil)) aNil)) (aOne (cVar 1) aNil)))) bNil))
    exact (ess_cons (es_ret (ev_call (ok 24 rfl) hr (by rfl) fx.g24 fx.F24.kp fx.B24 tk (ea_one (ev_call (ok 10 rfl) hr (by rfl) fx.g10 fx.F10.kp fx.B10 tk (ea_one (ev_call (ok 9 rfl) hr (by rfl) fx.g9 fx.F9.kp fx.B9 tk (ea_one (evv 0) ea_nil)) ea_nil)) (ea_one (evv 1) ea_nil))))
    ess_nil)
theorem fn26 (fx : Fx PM K mg G fa ca fd) (ok : AllOk PM w K mg base G fa fd n) : FnOk PM w K mg base (CX PM w) (2 * (n + 1)) (fa 26) (fd 26) ["book", "answer"] (SpF G K P (n + 1) 26) :=
  fn_succ (r := 2 * n + 1) fx.F26 sc26 (fn := ⟨2, 3, [], b26⟩) rfl rfl rfl (by decide) fun cdv A outer s H E hr1 => by
    have tk := @tk_cx PM w K mg base ["book", "answer", "own"] "sure_answer" (defScope s26) (fa 26) cdv A outer s H E
    have hr := hr1.mono (Nat.le_succ (2 * n))
    let C := callN P n
    show PSs _ _ (EvS G K (ZE K E) (bCons (sAsg (gSlot 2) (cCall C 3 (aOne (cVar 1) aNil))) (bCons (sEx (cCall C 4 (aOne (cCall C 24 (aOne (cCall C 10 (aOne (cVar 0) aNil)) (aOne (cVar 2) aNil))) aNil))) (bCons (sRet (cVar 2)) bNil))))
    exact (ess_cons (es_asg (ev_call (ok 3 rfl) hr (by rfl) fx.g3 fx.F3.kp fx.B3 tk (ea_one (evv 1) ea_nil)) (eg_of (eg0_name (i := 2) sc26.nd rfl (by first | exact .inl rfl | exact .inr rfl))))
    (ess_cons (es_expr (ev_call (ok 4 rfl) hr (by rfl) fx.g4 fx.F4.kp fx.B4 tk (ea_one (ev_call (ok 24 rfl) hr (by rfl) fx.g24 fx.F24.kp fx.B24 tk (ea_one (ev_call (ok 10 rfl) hr (by rfl) fx.g10 fx.F10.kp fx.B10 tk (ea_one (evv 0) ea_nil)) (ea_one (evv 2) ea_nil))) ea_nil)))
    (ess_cons (es_ret (evv 2))
    ess_nil)))
theorem fn27 (fx : Fx PM K mg G fa ca fd) (ok : AllOk PM w K mg base G fa fd n) : FnOk PM w K mg base (CX PM w) (2 * (n + 1)) (fa 27) (fd 27) ["unknowns"] (SpF G K P (n + 1) 27) :=
  fn_succ (r := 2 * n + 1) fx.F27 sc27 (fn := ⟨1, 2, [], b27⟩) rfl rfl rfl (by decide) fun cdv A outer s H E hr1 => by
    have tk := @tk_cx PM w K mg base ["unknowns", "own"] "sure_unknowns" (defScope s27) (fa 27) cdv A outer s H E
    have hr := hr1.mono (Nat.le_succ (2 * n))
    let C := callN P n
    show PSs _ _ (EvS G K (ZE K E) (bCons (sAsg (gSlot 1) (cCall C 3 (aOne (cVar 0) aNil))) (bCons (sEx (cCall C 4 (aOne (cCall C 5 (aOne (cVar 1) (aOne (cCon (.int (.ofNat 100))) aNil))) aNil))) (bCons (sRet (cVar 1)) bNil))))
    exact (ess_cons (es_asg (ev_call (ok 3 rfl) hr (by rfl) fx.g3 fx.F3.kp fx.B3 tk (ea_one (evv 0) ea_nil)) (eg_of (eg0_name (i := 1) sc27.nd rfl (by first | exact .inl rfl | exact .inr rfl))))
    (ess_cons (es_expr (ev_call (ok 4 rfl) hr (by rfl) fx.g4 fx.F4.kp fx.B4 tk (ea_one (ev_call (ok 5 rfl) hr (by rfl) fx.g5 fx.F5.kp fx.B5 tk (ea_one (evv 1) (ea_one (evgI fx.c_MOST_UNKNOWN) ea_nil))) ea_nil)))
    (ess_cons (es_ret (evv 1))
    ess_nil)))
theorem fn28 (fx : Fx PM K mg G fa ca fd) (ok : AllOk PM w K mg base G fa fd n) : FnOk PM w K mg base (CX PM w) (2 * (n + 1)) (fa 28) (fd 28) ["signs", "pairs", "own"] (SpF G K P (n + 1) 28) :=
  fn_succ (r := 2 * n + 1) fx.F28 sc28 (fn := ⟨3, 6, [], b28⟩) rfl rfl rfl (by decide) fun cdv A outer s H E hr1 => by
    have tk := @tk_cx PM w K mg base ["signs", "pairs", "own", "name", "parts", "part"] "put_told" (defScope s28) (fa 28) cdv A outer s H E
    have hr := hr1.mono (Nat.le_succ (2 * n))
    let C := callN P n
    show PSs _ _ (EvS G K (ZE K E) (bCons (sIte (tVal (cCall C 0 (aOne (cVar 2) aNil))) (bCons (sRet (cIte (tCmp .inn (cVar 2) (cVar 1)) (cCall C 22 (aOne (cVar 0) (aOne (cIdx (cVar 1) (cVar 2)) aNil))) (cVar 2))) bNil) bNil) (bCons (sPar [3, 4] (aOne (cIdx (cVar 2) (cCon (.int (.ofNat 0)))) (aOne (cLst (sLc [5] (gSlot 5) (iSeq (cIdx (cVar 2) (cCon (.int (.ofNat 1))))) tYes (cCall C 28 (aOne (cVar 0) (aOne (cVar 1) (aOne (cVar 5) aNil)))))) aNil))) (bCons (sIte (tCmp .eq (cIdx (cIdx (cVar 0) (cVar 3)) (cCon (.int (.ofNat 0)))) (cCon (.str [112, 108, 97, 105, 110]))) (bCons (sRet (cTup (aOne (cVar 3) (aOne (cBf .tuple (cSeqOf (cVar 4))) aNil)))) bNil) bNil) (bCons (sIte (tCmp .eq (cIdx (cIdx (cVar 0) (cVar 3)) (cCon (.int (.ofNat 0)))) (cCon (.str [98, 97, 103]))) (bCons (sRet (cCall C 23 (aOne (cVar 0) (aOne (cVar 3) (aOne (cVar 4) aNil))))) bNil) bNil) (bCons (sRet (cTup (aOne (cVar 3) (aOne (cBf .tuple (cSeqOf (cCall C 20 (aOne (cVar 0) (aOne (cVar 4) aNil))))) aNil)))) bNil))))))
    exact (ess_cons (es_if (et_val (ev_call (ok 0 rfl) hr (by rfl) fx.g0 fx.F0.kp fx.B0 tk (ea_one (evv 2) ea_nil)) (fun _ => rfl)) (ess_cons (es_ret (ev_ite (et_cmp (op := .inn) hr.units (evv 2) (evv 1) (by rfl)) (ev_call (ok 22 rfl) hr (by rfl) fx.g22 fx.F22.kp fx.B22 tk (ea_one (evv 0) (ea_one (ev_idx hr.units (evv 1) (evv 2) (fun _ _ => rfl)) ea_nil))) (evv 2)))
    ess_nil) ess_nil)
    (ess_cons (es_par2 rfl sc28.nd rfl rfl (by decide) rfl rfl (ea_one (ev_idx hr.units (evv 2) evi (fun _ _ => rfl)) (ea_one (ev_new (en_lc (own := [("part", 5)]) (vs := [5]) rfl sc28.nd (ei_val (ev_idx hr.units (evv 2) evi (fun _ _ => rfl))) (blkOk_by (by kernel_rfl)) rfl (fun _ _ _ _ _ => (egv_name (i := 5) sc28.nd rfl (by first | exact .inl rfl | exact .inr rfl) (by first | exact .inl rfl | exact .inr rfl) (by decide))) (fun _ _ _ _ _ => ets_nil) (fun _ _ _ _ _ => (ev_call (ok 28 rfl) hr (by rfl) fx.g28 fx.F28.kp fx.B28 tk_blk (ea_one (evv 0) (ea_one (evv 1) (ea_one (evv 5) ea_nil))))))) ea_nil)) (by rfl))
    (ess_cons (es_if (et_cmp (op := .eq) hr.units (ev_idx hr.units (ev_idx hr.units (evv 0) (evv 3) (fun _ _ => rfl)) evi (fun _ _ => rfl)) (evgS fx.c_PLAIN) (by rfl)) (ess_cons (es_ret (ev_tup (ea_one (evv 3) (ea_one (ev_tupleQ (by rfl) fx.b_tuple (eq_of (evv 4))) ea_nil))))
    ess_nil) ess_nil)
    (ess_cons (es_if (et_cmp (op := .eq) hr.units (ev_idx hr.units (ev_idx hr.units (evv 0) (evv 3) (fun _ _ => rfl)) evi (fun _ _ => rfl)) (evgS fx.c_BAG) (by rfl)) (ess_cons (es_ret (ev_call (ok 23 rfl) hr (by rfl) fx.g23 fx.F23.kp fx.B23 tk (ea_one (evv 0) (ea_one (evv 3) (ea_one (evv 4) ea_nil)))))
    ess_nil) ess_nil)
    (ess_cons (es_ret (ev_tup (ea_one (evv 3) (ea_one (ev_tupleQ (by rfl) fx.b_tuple (eq_of (ev_call (ok 20 rfl) hr (by rfl) fx.g20 fx.F20.kp fx.B20 tk (ea_one (evv 0) (ea_one (evv 4) ea_nil))))) ea_nil))))
    ess_nil)))))
theorem fn29 (fx : Fx PM K mg G fa ca fd) (ok : AllOk PM w K mg base G fa fd n) : FnOk PM w K mg base (CX PM w) (2 * (n + 1)) (fa 29) (fd 29) ["signs", "pairs"] (SpF G K P (n + 1) 29) :=
  fn_succ (r := 2 * n + 1) fx.F29 sc29 (fn := ⟨2, 5, [], b29⟩) rfl rfl rfl (by decide) fun cdv A outer s H E hr1 => by
    have tk := @tk_cx PM w K mg base ["signs", "pairs", "found", "own", "pair"] "answer_of" (defScope s29) (fa 29) cdv A outer s H E
    have hr := hr1.mono (Nat.le_succ (2 * n))
    let C := callN P n
    show PSs _ _ (EvS G K (ZE K E) (bCons (sAsg (gSlot 2) (cLst (sLc [3] (gSlot 3) (iSeq (cSrt (cVar 1))) tYes (cTup (aOne (cVar 3) (aOne (cCall C 22 (aOne (cVar 0) (aOne (cIdx (cVar 1) (cVar 3)) aNil))) aNil)))))) (bCons (sRet (cBf .tuple (sLc [4] (gSlot 4) (iSeq (cVar 2)) (tOr (tNot (tVal (cCall C 0 (aOne (cIdx (cVar 4) (cCon (.int (.ofNat 1)))) aNil)))) (tCmp .ne (cIdx (cVar 4) (cCon (.int (.ofNat 0)))) (cIdx (cVar 4) (cCon (.int (.ofNat 1)))))) (cVar 4)))) bNil)))
    exact (ess_cons (es_setLc (i := 2) (own := [("own", 3)]) (vs := [3]) rfl sc29.nd (ei_val (ev_srt rfl hr.units (by rfl) fx.b_sorted (evv 1))) (blkOk_by (by kernel_rfl)) rfl (fun _ _ _ _ _ => (egv_name (i := 3) sc29.nd rfl (by first | exact .inl rfl | exact .inr rfl) (by first | exact .inl rfl | exact .inr rfl) (by decide))) (fun _ _ _ _ _ => ets_nil) (fun _ _ _ _ _ => (ev_tup (ea_one (evv 3) (ea_one (ev_call (ok 22 rfl) hr (by rfl) fx.g22 fx.F22.kp fx.B22 tk_blk (ea_one (evv 0) (ea_one (ev_idx hr.units (evv 1) (evv 3) (fun _ _ => rfl)) ea_nil))) ea_nil)))))
    (ess_cons (es_ret (ev_tupleQ (by rfl) fx.b_tuple (eq_l (el_new (en_lc (own := [("pair", 4)]) (vs := [4]) rfl sc29.nd (ei_val (evv 2)) (blkOk_by (by kernel_rfl)) rfl (fun _ _ _ _ _ => (egv_name (i := 4) sc29.nd rfl (by first | exact .inl rfl | exact .inr rfl) (by first | exact .inl rfl | exact .inr rfl) (by decide))) (fun _ _ _ _ _ => (ets_one (PW.pt (ew_or (et_not (et_val (ev_call (ok 0 rfl) hr (by rfl) fx.g0 fx.F0.kp fx.B0 tk_blk (ea_one (ev_idx hr.units (evv 4) evi (fun _ _ => rfl)) ea_nil)) (fun _ => rfl))) (ew_or1 (et_cmp (op := .ne) hr.units (ev_idx hr.units (evv 4) evi (fun _ _ => rfl)) (ev_idx hr.units (evv 4) evi (fun _ _ => rfl)) (by rfl))))))) (fun _ _ _ _ _ => (evv 4)))))))
    ess_nil))
theorem fn30 (fx : Fx PM K mg G fa ca fd) (ok : AllOk PM w K mg base G fa fd n) : FnOk PM w K mg base (CX PM w) (2 * (n + 1)) (fa 30) (fd 30) ["book", "answer", "term"] (SpF G K P (n + 1) 30) :=
  fn_succ (r := 2 * n + 1) fx.F30 sc30 (fn := ⟨3, 6, [], b30⟩) rfl rfl rfl (by decide) fun cdv A outer s H E hr1 => by
    have tk := @tk_cx PM w K mg base ["book", "answer", "term", "own", "pairs", "signs"] "put_in" (defScope s30) (fa 30) cdv A outer s H E
    have hr := hr1.mono (Nat.le_succ (2 * n))
    let C := callN P n
    show PSs _ _ (EvS G K (ZE K E) (bCons (sAsg (gSlot 3) (cCall C 9 (aOne (cVar 0) aNil))) (bCons (sPar [4, 5] (aOne (cBf .dict (cSeqOf (cCall C 26 (aOne (cVar 3) (aOne (cVar 1) aNil))))) (aOne (cCall C 10 (aOne (cVar 3) aNil)) aNil))) (bCons (sRet (cCall C 28 (aOne (cVar 5) (aOne (cVar 4) (aOne (cCall C 13 (aOne (cVar 3) (aOne (cVar 2) aNil))) aNil))))) bNil))))
    exact (ess_cons (es_asg (ev_call (ok 9 rfl) hr (by rfl) fx.g9 fx.F9.kp fx.B9 tk (ea_one (evv 0) ea_nil)) (eg_of (eg0_name (i := 3) sc30.nd rfl (by first | exact .inl rfl | exact .inr rfl))))
    (ess_cons (es_par2 rfl sc30.nd rfl rfl (by decide) rfl rfl (ea_one (ev_dict rfl (by rfl) fx.b_dict (eq_of (ev_call (ok 26 rfl) hr (by rfl) fx.g26 fx.F26.kp fx.B26 tk (ea_one (evv 3) (ea_one (evv 1) ea_nil))))) (ea_one (ev_call (ok 10 rfl) hr (by rfl) fx.g10 fx.F10.kp fx.B10 tk (ea_one (evv 3) ea_nil)) ea_nil)) (by rfl))
    (ess_cons (es_ret (ev_call (ok 28 rfl) hr (by rfl) fx.g28 fx.F28.kp fx.B28 tk (ea_one (evv 5) (ea_one (evv 4) (ea_one (ev_call (ok 13 rfl) hr (by rfl) fx.g13 fx.F13.kp fx.B13 tk (ea_one (evv 3) (ea_one (evv 2) ea_nil))) ea_nil)))))
    ess_nil)))
theorem fn31 (fx : Fx PM K mg G fa ca fd) (ok : AllOk PM w K mg base G fa fd n) : FnOk PM w K mg base (CX PM w) (2 * (n + 1)) (fa 31) (fd 31) ["book", "answer", "equations"] (SpF G K P (n + 1) 31) :=
  fn_succ (r := 2 * n + 1) fx.F31 sc31 (fn := ⟨3, 9, [], b31⟩) rfl rfl rfl (by decide) fun cdv A outer s H E hr1 => by
    have tk := @tk_cx PM w K mg base ["book", "answer", "equations", "own", "some", "pairs", "signs", "left", "right"] "put_in_all" (defScope s31) (fa 31) cdv A outer s H E
    have hr := hr1.mono (Nat.le_succ (2 * n))
    let C := callN P n
    show PSs _ _ (EvS G K (ZE K E) (bCons (sAsg (gSlot 3) (cCall C 9 (aOne (cVar 0) aNil))) (bCons (sAsg (gTupN 2 (gCons (gSlot 5) (gCons (gSlot 6) gNil))) (cTup (aOne (cBf .dict (cSeqOf (cCall C 26 (aOne (cVar 3) (aOne (cVar 1) aNil))))) (aOne (cCall C 10 (aOne (cVar 3) aNil)) aNil)))) (bCons (sAsg (gSlot 4) (cCall C 14 (aOne (cVar 3) (aOne (cVar 2) aNil)))) (bCons (sRet (cBf .tuple (sLc [7, 8] (gTupN 2 (gCons (gSlot 7) (gCons (gSlot 8) gNil))) (iSeq (cVar 4)) tYes (cTup (aOne (cCall C 28 (aOne (cVar 6) (aOne (cVar 5) (aOne (cVar 7) aNil)))) (aOne (cCall C 28 (aOne (cVar 6) (aOne (cVar 5) (aOne (cVar 8) aNil)))) aNil)))))) bNil)))))
    exact (ess_cons (es_asg (ev_call (ok 9 rfl) hr (by rfl) fx.g9 fx.F9.kp fx.B9 tk (ea_one (evv 0) ea_nil)) (eg_of (eg0_name (i := 3) sc31.nd rfl (by first | exact .inl rfl | exact .inr rfl))))
    (ess_cons (es_asg (ev_tup (ea_one (ev_dict rfl (by rfl) fx.b_dict (eq_of (ev_call (ok 26 rfl) hr (by rfl) fx.g26 fx.F26.kp fx.B26 tk (ea_one (evv 3) (ea_one (evv 1) ea_nil))))) (ea_one (ev_call (ok 10 rfl) hr (by rfl) fx.g10 fx.F10.kp fx.B10 tk (ea_one (evv 3) ea_nil)) ea_nil))) (eg_of (eg0_tup (n := 2) rfl (egs_cons (eg0_name (i := 5) sc31.nd rfl (by first | exact .inl rfl | exact .inr rfl)) (egs_cons (eg0_name (i := 6) sc31.nd rfl (by first | exact .inl rfl | exact .inr rfl)) egs_nil)))))
    (ess_cons (es_asg (ev_call (ok 14 rfl) hr (by rfl) fx.g14 fx.F14.kp fx.B14 tk (ea_one (evv 3) (ea_one (evv 2) ea_nil))) (eg_of (eg0_name (i := 4) sc31.nd rfl (by first | exact .inl rfl | exact .inr rfl))))
    (ess_cons (es_ret (ev_tupleQ (by rfl) fx.b_tuple (eq_l (el_new (en_lc (own := [("left", 7), ("right", 8)]) (vs := [7, 8]) rfl sc31.nd (ei_val (evv 4)) (blkOk_by (by kernel_rfl)) rfl (fun _ _ _ _ _ => (egv_tup (n := 2) rfl (egvs_cons (egv_name (i := 7) sc31.nd rfl (by first | exact .inl rfl | exact .inr rfl) (by first | exact .inl rfl | exact .inr rfl) (by decide)) (egvs_cons (egv_name (i := 8) sc31.nd rfl (by first | exact .inl rfl | exact .inr rfl) (by first | exact .inl rfl | exact .inr rfl) (by decide)) egvs_nil rfl) rfl) rfl rfl)) (fun _ _ _ _ _ => ets_nil) (fun _ _ _ _ _ => (ev_tup (ea_one (ev_call (ok 28 rfl) hr (by rfl) fx.g28 fx.F28.kp fx.B28 tk_blk (ea_one (evv 6) (ea_one (evv 5) (ea_one (evv 7) ea_nil)))) (ea_one (ev_call (ok 28 rfl) hr (by rfl) fx.g28 fx.F28.kp fx.B28 tk_blk (ea_one (evv 6) (ea_one (evv 5) (ea_one (evv 8) ea_nil)))) ea_nil)))))))))
    ess_nil))))
theorem fn32 (fx : Fx PM K mg G fa ca fd) (ok : AllOk PM w K mg base G fa fd n) : FnOk PM w K mg base (CX PM w) (2 * (n + 1)) (fa 32) (fd 32) ["signs", "one", "other"] (SpF G K P (n + 1) 32) :=
  fn_succ (r := 2 * n + 1) fx.F32 sc32 (fn := ⟨3, 6, [], b32⟩) rfl rfl rfl (by decide) fun cdv A outer s H E hr1 => by
    have tk := @tk_cx PM w K mg base ["signs", "one", "other", "found", "unknown", "term"] "together" (defScope s32) (fa 32) cdv A outer s H E
    have hr := hr1.mono (Nat.le_succ (2 * n))
    let C := callN P n
    show PSs _ _ (EvS G K (ZE K E) (bCons (sLock 1 (sAsg (gSlot 3) (sDc [4, 5] (gTupN 2 (gCons (gSlot 4) (gCons (gSlot 5) gNil))) (iItems (cVar 1)) tYes (cVar 4) (cCall C 28 (aOne (cVar 0) (aOne (cVar 2) (aOne (cVar 5) aNil))))))) (bCons (sLock 2 (sFor (gTupN 2 (gCons (gSlot 4) (gCons (gSlot 5) gNil))) (iItems (cVar 2)) (bCons (sIte (tCmp .notin (cVar 4) (cVar 3)) (bCons (sAsg (gSub (cVar 3) (cVar 4)) (cVar 5)) bNil) bNil) bNil))) (bCons (sRet (cVar 3)) bNil))))
    exact (ess_cons (es_lock (i := 1) (es_setDc (i := 3) (own := [("unknown", 4), ("term", 5)]) (vs := [4, 5]) rfl sc32.nd (ei_itL (evv 1)) (blkOk_by (by kernel_rfl)) rfl (fun _ _ _ _ _ => (egv_tup (n := 2) rfl (egvs_cons (egv_name (i := 4) sc32.nd rfl (by first | exact .inl rfl | exact .inr rfl) (by first | exact .inl rfl | exact .inr rfl) (by decide)) (egvs_cons (egv_name (i := 5) sc32.nd rfl (by first | exact .inl rfl | exact .inr rfl) (by first | exact .inl rfl | exact .inr rfl) (by decide)) egvs_nil rfl) rfl) rfl rfl)) (fun _ _ _ _ _ => ets_nil) (fun _ _ _ _ _ => (evv 4)) (fun _ _ _ _ _ => (ev_call (ok 28 rfl) hr (by rfl) fx.g28 fx.F28.kp fx.B28 tk_blk (ea_one (evv 0) (ea_one (evv 2) (ea_one (evv 5) ea_nil)))))))
    (ess_cons (es_lock (i := 2) (es_for (passes_of rfl) rfl (ei_itL (evv 2)) (eg_of (eg0_tup (n := 2) rfl (egs_cons (eg0_name (i := 4) sc32.nd rfl (by first | exact .inl rfl | exact .inr rfl)) (egs_cons (eg0_name (i := 5) sc32.nd rfl (by first | exact .inl rfl | exact .inr rfl)) egs_nil)))) (ess_cons (es_if (et_cmp (op := .notin) hr.units (evv 4) (evv 3) (by rfl)) (ess_cons (es_asg (evv 5) (eg_sub hr.units (evv 3) (evv 4)))
    ess_nil) ess_nil)
    ess_nil)))
    (ess_cons (es_ret (evv 3))
    ess_nil)))
theorem fn33 (fx : Fx PM K mg G fa ca fd) (ok : AllOk PM w K mg base G fa fd n) : FnOk PM w K mg base (CX PM w) (2 * (n + 1)) (fa 33) (fd 33) ["book", "one", "other"] (SpF G K P (n + 1) 33) :=
  fn_succ (r := 2 * n + 1) fx.F33 sc33 (fn := ⟨3, 7, [], b33⟩) rfl rfl rfl (by decide) fun cdv A outer s H E hr1 => by
    have tk := @tk_cx PM w K mg base ["book", "one", "other", "own", "near", "far", "signs"] "put_together" (defScope s33) (fa 33) cdv A outer s H E
    have hr := hr1.mono (Nat.le_succ (2 * n))
    let C := callN P n
    show PSs _ _ (EvS G K (ZE K E) (bCons (sAsg (gSlot 3) (cCall C 9 (aOne (cVar 0) aNil))) (bCons (sAsg (gSlot 4) (cBf .dict (cSeqOf (cCall C 26 (aOne (cVar 3) (aOne (cVar 1) aNil)))))) (bCons (sPar [5, 6] (aOne (cBf .dict (cSeqOf (cCall C 26 (aOne (cVar 3) (aOne (cVar 2) aNil))))) (aOne (cCall C 10 (aOne (cVar 3) aNil)) aNil))) (bCons (sRet (cCall C 29 (aOne (cVar 6) (aOne (cCall C 32 (aOne (cVar 6) (aOne (cVar 4) (aOne (cVar 5) aNil)))) aNil)))) bNil)))))
    exact (ess_cons (es_asg (ev_call (ok 9 rfl) hr (by rfl) fx.g9 fx.F9.kp fx.B9 tk (ea_one (evv 0) ea_nil)) (eg_of (eg0_name (i := 3) sc33.nd rfl (by first | exact .inl rfl | exact .inr rfl))))
    (ess_cons (es_asg (ev_dict rfl (by rfl) fx.b_dict (eq_of (ev_call (ok 26 rfl) hr (by rfl) fx.g26 fx.F26.kp fx.B26 tk (ea_one (evv 3) (ea_one (evv 1) ea_nil))))) (eg_of (eg0_name (i := 4) sc33.nd rfl (by first | exact .inl rfl | exact .inr rfl))))
    (ess_cons (es_par2 rfl sc33.nd rfl rfl (by decide) rfl rfl (ea_one (ev_dict rfl (by rfl) fx.b_dict (eq_of (ev_call (ok 26 rfl) hr (by rfl) fx.g26 fx.F26.kp fx.B26 tk (ea_one (evv 3) (ea_one (evv 2) ea_nil))))) (ea_one (ev_call (ok 10 rfl) hr (by rfl) fx.g10 fx.F10.kp fx.B10 tk (ea_one (evv 3) ea_nil)) ea_nil)) (by rfl))
    (ess_cons (es_ret (ev_call (ok 29 rfl) hr (by rfl) fx.g29 fx.F29.kp fx.B29 tk (ea_one (evv 6) (ea_one (ev_call (ok 32 rfl) hr (by rfl) fx.g32 fx.F32.kp fx.B32 tk (ea_one (evv 6) (ea_one (evv 4) (ea_one (evv 5) ea_nil)))) ea_nil))))
    ess_nil))))
theorem fn34 (fx : Fx PM K mg G fa ca fd) (ok : AllOk PM w K mg base G fa fd n) : FnOk PM w K mg base (CX PM w) (2 * (n + 1)) (fa 34) (fd 34) ["book", "answer", "unknowns"] (SpF G K P (n + 1) 34) :=
  fn_succ (r := 2 * n + 1) fx.F34 sc34 (fn := ⟨3, 7, [], b34⟩) rfl rfl rfl (by decide) fun cdv A outer s H E hr1 => by
    have tk := @tk_cx PM w K mg base ["book", "answer", "unknowns", "own", "pairs", "some", "unknown"] "answer_kept" (defScope s34) (fa 34) cdv A outer s H E
    have hr := hr1.mono (Nat.le_succ (2 * n))
    let C := callN P n
    show PSs _ _ (EvS G K (ZE K E) (bCons (sAsg (gSlot 3) (cCall C 9 (aOne (cVar 0) aNil))) (bCons (sAsg (gTupN 2 (gCons (gSlot 4) (gCons (gSlot 5) gNil))) (cTup (aOne (cBf .dict (cSeqOf (cCall C 26 (aOne (cVar 3) (aOne (cVar 1) aNil))))) (aOne (cCall C 27 (aOne (cVar 2) aNil)) aNil)))) (bCons (sRet (cCall C 29 (aOne (cCall C 10 (aOne (cVar 3) aNil)) (aOne (sDc [6] (gSlot 6) (iSeq (cVar 5)) (tCmp .inn (cVar 6) (cVar 4)) (cVar 6) (cIdx (cVar 4) (cVar 6))) aNil)))) bNil))))
    exact (ess_cons (es_asg (ev_call (ok 9 rfl) hr (by rfl) fx.g9 fx.F9.kp fx.B9 tk (ea_one (evv 0) ea_nil)) (eg_of (eg0_name (i := 3) sc34.nd rfl (by first | exact .inl rfl | exact .inr rfl))))
    (ess_cons (es_asg (ev_tup (ea_one (ev_dict rfl (by rfl) fx.b_dict (eq_of (ev_call (ok 26 rfl) hr (by rfl) fx.g26 fx.F26.kp fx.B26 tk (ea_one (evv 3) (ea_one (evv 1) ea_nil))))) (ea_one (ev_call (ok 27 rfl) hr (by rfl) fx.g27 fx.F27.kp fx.B27 tk (ea_one (evv 2) ea_nil)) ea_nil))) (eg_of (eg0_tup (n := 2) rfl (egs_cons (eg0_name (i := 4) sc34.nd rfl (by first | exact .inl rfl | exact .inr rfl)) (egs_cons (eg0_name (i := 5) sc34.nd rfl (by first | exact .inl rfl | exact .inr rfl)) egs_nil)))))
    (ess_cons (es_ret (ev_call (ok 29 rfl) hr (by rfl) fx.g29 fx.F29.kp fx.B29 tk (ea_one (ev_call (ok 10 rfl) hr (by rfl) fx.g10 fx.F10.kp fx.B10 tk (ea_one (evv 3) ea_nil)) (ea_one (ev_dc (own := [("unknown", 6)]) (vs := [6]) rfl sc34.nd (ei_val (evv 5)) (blkOk_by (by kernel_rfl)) rfl (fun _ _ _ _ _ => (egv_name (i := 6) sc34.nd rfl (by first | exact .inl rfl | exact .inr rfl) (by first | exact .inl rfl | exact .inr rfl) (by decide))) (fun _ _ _ _ _ => (ets_one (et_cmp (op := .inn) hr.units (evv 6) (evv 4) (by rfl)))) (fun _ _ _ _ _ => (evv 6)) (fun _ _ _ _ _ => (ev_idx hr.units (evv 4) (evv 6) (fun _ _ => rfl)))) ea_nil))))
    ess_nil)))
theorem fn35 (fx : Fx PM K mg G fa ca fd) (ok : AllOk PM w K mg base G fa fd n) : FnOk PM w K mg base (CX PM w) (2 * (n + 1)) (fa 35) (fd 35) ["book", "equations", "answer"] (SpF G K P (n + 1) 35) :=
  fn_succ (r := 2 * n + 1) fx.F35 sc35 (fn := ⟨3, 9, [], b35⟩) rfl rfl rfl (by decide) fun cdv A outer s H E hr1 => by
    have tk := @tk_cx PM w K mg base ["book", "equations", "answer", "own", "some", "pairs", "signs", "left", "right"] "does_solve" (defScope s35) (fa 35) cdv A outer s H E
    have hr := hr1.mono (Nat.le_succ (2 * n))
    let C := callN P n
    show PSs _ _ (EvS G K (ZE K E) (bCons (sAsg (gSlot 3) (cCall C 9 (aOne (cVar 0) aNil))) (bCons (sAsg (gSlot 4) (cCall C 14 (aOne (cVar 3) (aOne (cVar 1) aNil)))) (bCons (sAsg (gTupN 2 (gCons (gSlot 5) (gCons (gSlot 6) gNil))) (cTup (aOne (cBf .dict (cSeqOf (cCall C 26 (aOne (cVar 3) (aOne (cVar 2) aNil))))) (aOne (cCall C 10 (aOne (cVar 3) aNil)) aNil)))) (bCons (sRet (cBf .all (sLc [7, 8] (gTupN 2 (gCons (gSlot 7) (gCons (gSlot 8) gNil))) (iSeq (cVar 4)) tYes (cCmp .eq (cCall C 28 (aOne (cVar 6) (aOne (cVar 5) (aOne (cVar 7) aNil)))) (cCall C 28 (aOne (cVar 6) (aOne (cVar 5) (aOne (cVar 8) aNil)))))))) bNil)))))
    exact (ess_cons (es_asg (ev_call (ok 9 rfl) hr (by rfl) fx.g9 fx.F9.kp fx.B9 tk (ea_one (evv 0) ea_nil)) (eg_of (eg0_name (i := 3) sc35.nd rfl (by first | exact .inl rfl | exact .inr rfl))))
    (ess_cons (es_asg (ev_call (ok 14 rfl) hr (by rfl) fx.g14 fx.F14.kp fx.B14 tk (ea_one (evv 3) (ea_one (evv 1) ea_nil))) (eg_of (eg0_name (i := 4) sc35.nd rfl (by first | exact .inl rfl | exact .inr rfl))))
    (ess_cons (es_asg (ev_tup (ea_one (ev_dict rfl (by rfl) fx.b_dict (eq_of (ev_call (ok 26 rfl) hr (by rfl) fx.g26 fx.F26.kp fx.B26 tk (ea_one (evv 3) (ea_one (evv 2) ea_nil))))) (ea_one (ev_call (ok 10 rfl) hr (by rfl) fx.g10 fx.F10.kp fx.B10 tk (ea_one (evv 3) ea_nil)) ea_nil))) (eg_of (eg0_tup (n := 2) rfl (egs_cons (eg0_name (i := 5) sc35.nd rfl (by first | exact .inl rfl | exact .inr rfl)) (egs_cons (eg0_name (i := 6) sc35.nd rfl (by first | exact .inl rfl | exact .inr rfl)) egs_nil)))))
    (ess_cons (es_ret (ev_all rfl (by rfl) fx.b_all (el_new (en_lc (own := [("left", 7), ("right", 8)]) (vs := [7, 8]) rfl sc35.nd (ei_val (evv 4)) (blkOk_by (by kernel_rfl)) rfl (fun _ _ _ _ _ => (egv_tup (n := 2) rfl (egvs_cons (egv_name (i := 7) sc35.nd rfl (by first | exact .inl rfl | exact .inr rfl) (by first | exact .inl rfl | exact .inr rfl) (by decide)) (egvs_cons (egv_name (i := 8) sc35.nd rfl (by first | exact .inl rfl | exact .inr rfl) (by first | exact .inl rfl | exact .inr rfl) (by decide)) egvs_nil rfl) rfl) rfl rfl)) (fun _ _ _ _ _ => ets_nil) (fun _ _ _ _ _ => (ev_cmp (op := .eq) hr.units (ev_call (ok 28 rfl) hr (by rfl) fx.g28 fx.F28.kp fx.B28 tk_blk (ea_one (evv 6) (ea_one (evv 5) (ea_one (evv 7) ea_nil)))) (ev_call (ok 28 rfl) hr (by rfl) fx.g28 fx.F28.kp fx.B28 tk_blk (ea_one (evv 6) (ea_one (evv 5) (ea_one (evv 8) ea_nil)))) (by rfl)))))))
    ess_nil))))
theorem fn36 (fx : Fx PM K mg G fa ca fd) (ok : AllOk PM w K mg base G fa fd n) : FnOk PM w K mg base (CX PM w) (2 * (n + 1)) (fa 36) (fd 36) ["book", "one", "other", "unknowns"] (SpF G K P (n + 1) 36) :=
  fn_succ (r := 2 * n + 1) fx.F36 sc36 (fn := ⟨4, 9, [], b36⟩) rfl rfl rfl (by decide) fun cdv A outer s H E hr1 => by
    have tk := @tk_cx PM w K mg base ["book", "one", "other", "unknowns", "own", "near", "far", "signs", "unknown"] "do_alike" (defScope s36) (fa 36) cdv A outer s H E
    have hr := hr1.mono (Nat.le_succ (2 * n))
    let C := callN P n
    show PSs _ _ (EvS G K (ZE K E) (bCons (sAsg (gSlot 4) (cCall C 9 (aOne (cVar 0) aNil))) (bCons (sAsg (gSlot 5) (cBf .dict (cSeqOf (cCall C 26 (aOne (cVar 4) (aOne (cVar 1) aNil)))))) (bCons (sAsg (gTupN 2 (gCons (gSlot 6) (gCons (gSlot 7) gNil))) (cTup (aOne (cBf .dict (cSeqOf (cCall C 26 (aOne (cVar 4) (aOne (cVar 2) aNil))))) (aOne (cCall C 10 (aOne (cVar 4) aNil)) aNil)))) (bCons (sRet (cBf .all (sLc [8] (gSlot 8) (iSeq (cCall C 27 (aOne (cVar 3) aNil))) tYes (cCmp .eq (cCall C 28 (aOne (cVar 7) (aOne (cVar 5) (aOne (cVar 8) aNil)))) (cCall C 28 (aOne (cVar 7) (aOne (cVar 6) (aOne (cVar 8) aNil)))))))) bNil)))))
    exact (ess_cons (es_asg (ev_call (ok 9 rfl) hr (by rfl) fx.g9 fx.F9.kp fx.B9 tk (ea_one (evv 0) ea_nil)) (eg_of (eg0_name (i := 4) sc36.nd rfl (by first | exact .inl rfl | exact .inr rfl))))
    (ess_cons (es_asg (ev_dict rfl (by rfl) fx.b_dict (eq_of (ev_call (ok 26 rfl) hr (by rfl) fx.g26 fx.F26.kp fx.B26 tk (ea_one (evv 4) (ea_one (evv 1) ea_nil))))) (eg_of (eg0_name (i := 5) sc36.nd rfl (by first | exact .inl rfl | exact .inr rfl))))
    (ess_cons (es_asg (ev_tup (ea_one (ev_dict rfl (by rfl) fx.b_dict (eq_of (ev_call (ok 26 rfl) hr (by rfl) fx.g26 fx.F26.kp fx.B26 tk (ea_one (evv 4) (ea_one (evv 2) ea_nil))))) (ea_one (ev_call (ok 10 rfl) hr (by rfl) fx.g10 fx.F10.kp fx.B10 tk (ea_one (evv 4) ea_nil)) ea_nil))) (eg_of (eg0_tup (n := 2) rfl (egs_cons (eg0_name (i := 6) sc36.nd rfl (by first | exact .inl rfl | exact .inr rfl)) (egs_cons (eg0_name (i := 7) sc36.nd rfl (by first | exact .inl rfl | exact .inr rfl)) egs_nil)))))
    (ess_cons (es_ret (ev_all rfl (by rfl) fx.b_all (el_new (en_lc (own := [("unknown", 8)]) (vs := [8]) rfl sc36.nd (ei_val (ev_call (ok 27 rfl) hr (by rfl) fx.g27 fx.F27.kp fx.B27 tk (ea_one (evv 3) ea_nil))) (blkOk_by (by kernel_rfl)) rfl (fun _ _ _ _ _ => (egv_name (i := 8) sc36.nd rfl (by first | exact .inl rfl | exact .inr rfl) (by first | exact .inl rfl | exact .inr rfl) (by decide))) (fun _ _ _ _ _ => ets_nil) (fun _ _ _ _ _ => (ev_cmp (op := .eq) hr.units (ev_call (ok 28 rfl) hr (by rfl) fx.g28 fx.F28.kp fx.B28 tk_blk (ea_one (evv 7) (ea_one (evv 5) (ea_one (evv 8) ea_nil)))) (ev_call (ok 28 rfl) hr (by rfl) fx.g28 fx.F28.kp fx.B28 tk_blk (ea_one (evv 7) (ea_one (evv 6) (ea_one (evv 8) ea_nil)))) (by rfl)))))))
    ess_nil))))
theorem fn37 (fx : Fx PM K mg G fa ca fd) (ok : AllOk PM w K mg base G fa fd n) : FnOk PM w K mg base (CX PM w) (2 * (n + 1)) (fa 37) (fd 37) ["book", "answer", "unknowns"] (SpF G K P (n + 1) 37) :=
  fn_succ (r := 2 * n + 1) fx.F37 sc37 (fn := ⟨3, 9, [], b37⟩) rfl rfl rfl (by decide) fun cdv A outer s H E hr1 => by
    have tk := @tk_cx PM w K mg base ["book", "answer", "unknowns", "own", "found", "pairs", "signs", "unknown", "some"] "left_open" (defScope s37) (fa 37) cdv A outer s H E
    have hr := hr1.mono (Nat.le_succ (2 * n))
    let C := callN P n
    show PSs _ _ (EvS G K (ZE K E) (bCons (sAsg (gSlot 3) (cCall C 9 (aOne (cVar 0) aNil))) (bCons (sAsg (gTupN 2 (gCons (gSlot 5) (gCons (gSlot 6) gNil))) (cTup (aOne (cBf .dict (cSeqOf (cCall C 26 (aOne (cVar 3) (aOne (cVar 1) aNil))))) (aOne (cCall C 10 (aOne (cVar 3) aNil)) aNil)))) (bCons (sAsg (gSlot 4) (cLst (sLc [7] (gSlot 7) (iSeq (cCall C 27 (aOne (cVar 2) aNil))) tYes (cCall C 18 (aOne (cCall C 28 (aOne (cVar 6) (aOne (cVar 5) (aOne (cVar 7) aNil)))) aNil))))) (bCons (sRet (cBf .tuple (cSeqOf (cSset (sLc2 [7, 8] (gSlot 8) (iSeq (cVar 4)) tYes [7] (gSlot 7) (iSeq (cVar 8)) tYes (cVar 7)))))) bNil)))))
    exact (ess_cons (es_asg (ev_call (ok 9 rfl) hr (by rfl) fx.g9 fx.F9.kp fx.B9 tk (ea_one (evv 0) ea_nil)) (eg_of (eg0_name (i := 3) sc37.nd rfl (by first | exact .inl rfl | exact .inr rfl))))
    (ess_cons (es_asg (ev_tup (ea_one (ev_dict rfl (by rfl) fx.b_dict (eq_of (ev_call (ok 26 rfl) hr (by rfl) fx.g26 fx.F26.kp fx.B26 tk (ea_one (evv 3) (ea_one (evv 1) ea_nil))))) (ea_one (ev_call (ok 10 rfl) hr (by rfl) fx.g10 fx.F10.kp fx.B10 tk (ea_one (evv 3) ea_nil)) ea_nil))) (eg_of (eg0_tup (n := 2) rfl (egs_cons (eg0_name (i := 5) sc37.nd rfl (by first | exact .inl rfl | exact .inr rfl)) (egs_cons (eg0_name (i := 6) sc37.nd rfl (by first | exact .inl rfl | exact .inr rfl)) egs_nil)))))
    (ess_cons (es_setLc (i := 4) (own := [("unknown", 7)]) (vs := [7]) rfl sc37.nd (ei_val (ev_call (ok 27 rfl) hr (by rfl) fx.g27 fx.F27.kp fx.B27 tk (ea_one (evv 2) ea_nil))) (blkOk_by (by kernel_rfl)) rfl (fun _ _ _ _ _ => (egv_name (i := 7) sc37.nd rfl (by first | exact .inl rfl | exact .inr rfl) (by first | exact .inl rfl | exact .inr rfl) (by decide))) (fun _ _ _ _ _ => ets_nil) (fun _ _ _ _ _ => (ev_call (ok 18 rfl) hr (by rfl) fx.g18 fx.F18.kp fx.B18 tk_blk (ea_one (ev_call (ok 28 rfl) hr (by rfl) fx.g28 fx.F28.kp fx.B28 tk_blk (ea_one (evv 6) (ea_one (evv 5) (ea_one (evv 7) ea_nil)))) ea_nil))))
    (ess_cons (es_ret (ev_tupleQ (by rfl) fx.b_tuple (eq_of (ev_sset rfl hr.units (by rfl) fx.b_sorted (by rfl) fx.b_set (el_new (en_lc2 (own := [("unknown", 7), ("some", 8)]) (vs := [7, 8]) (vs1 := [7]) rfl sc37.nd (ei_val (evv 4)) (blkOk_by (by kernel_rfl)) rfl (by decide) (fun _ _ _ _ _ => (egv_name (i := 8) sc37.nd rfl (by first | exact .inl rfl | exact .inr rfl) (by first | exact .inl rfl | exact .inr rfl) (by decide))) (fun _ _ _ _ _ => ets_nil) (fun _ _ _ _ _ => (ei_val (evv 8))) (fun _ _ _ _ _ => (egv_name (i := 7) sc37.nd rfl (by first | exact .inl rfl | exact .inr rfl) (by first | exact .inl rfl | exact .inr rfl) (by decide))) (fun _ _ _ _ _ => ets_nil) (fun _ _ _ _ _ => (evv 7))))))))
    ess_nil))))
theorem fn38 (fx : Fx PM K mg G fa ca fd) (ok : AllOk PM w K mg base G fa fd n) : FnOk PM w K mg base (CX PM w) (2 * (n + 1)) (fa 38) (fd 38) ["pairs"] (SpF G K P (n + 1) 38) :=
  fn_succ (r := 2 * n + 1) fx.F38 sc38 (fn := ⟨1, 3, [], b38⟩) rfl rfl rfl (by decide) fun cdv A outer s H E hr1 => by
    have tk := @tk_cx PM w K mg base ["pairs", "goals", "goal"] "is_exchange" (defScope s38) (fa 38) cdv A outer s H E
    have hr := hr1.mono (Nat.le_succ (2 * n))
    let C := callN P n
    show PSs _ _ (EvS G K (ZE K E) (bCons (sAsg (gSlot 1) (cDvl (cVar 0))) (bCons (sRet (cAnd (cBf .all (sLc [2] (gSlot 2) (iSeq (cVar 1)) tYes (cCall C 0 (aOne (cVar 2) aNil)))) (cCmp .eq (cLset (cLstOf (cVar 1))) (cLen (cVar 1))))) bNil)))
    exact (ess_cons (es_asg (ev_dvl rfl (by rfl) fx.b_list (evv 0)) (eg_of (eg0_name (i := 1) sc38.nd rfl (by first | exact .inl rfl | exact .inr rfl))))
    (ess_cons (es_ret (ev_and (ev_all rfl (by rfl) fx.b_all (el_new (en_lc (own := [("goal", 2)]) (vs := [2]) rfl sc38.nd (ei_val (evv 1)) (blkOk_by (by kernel_rfl)) rfl (fun _ _ _ _ _ => (egv_name (i := 2) sc38.nd rfl (by first | exact .inl rfl | exact .inr rfl) (by first | exact .inl rfl | exact .inr rfl) (by decide))) (fun _ _ _ _ _ => ets_nil) (fun _ _ _ _ _ => (ev_call (ok 0 rfl) hr (by rfl) fx.g0 fx.F0.kp fx.B0 tk_blk (ea_one (evv 2) ea_nil)))))) (ev_bool1 (ev_cmp (op := .eq) hr.units (ev_lset rfl (by rfl) fx.b_len (by rfl) fx.b_set (el_of (evv 1))) (ev_len (by rfl) fx.b_len (evv 1)) (by rfl)))))
    ess_nil))
theorem fn39 (fx : Fx PM K mg G fa ca fd) (ok : AllOk PM w K mg base G fa fd n) : FnOk PM w K mg base (CX PM w) (2 * (n + 1)) (fa 39) (fd 39) ["book", "answer", "unknowns"] (SpF G K P (n + 1) 39) :=
  fn_succ (r := 2 * n + 1) fx.F39 sc39 (fn := ⟨3, 7, [], b39⟩) rfl rfl rfl (by decide) fun cdv A outer s H E hr1 => by
    have tk := @tk_cx PM w K mg base ["book", "answer", "unknowns", "own", "pairs", "some", "unknown"] "is_renaming" (defScope s39) (fa 39) cdv A outer s H E
    have hr := hr1.mono (Nat.le_succ (2 * n))
    let C := callN P n
    show PSs _ _ (EvS G K (ZE K E) (bCons (sAsg (gSlot 3) (cCall C 9 (aOne (cVar 0) aNil))) (bCons (sAsg (gTupN 2 (gCons (gSlot 4) (gCons (gSlot 5) gNil))) (cTup (aOne (cBf .dict (cSeqOf (cCall C 26 (aOne (cVar 3) (aOne (cVar 1) aNil))))) (aOne (cCall C 27 (aOne (cVar 2) aNil)) aNil)))) (bCons (sRet (cCall C 38 (aOne (sDc [6] (gSlot 6) (iSeq (cVar 5)) tYes (cVar 6) (cDm .get (cVar 4) (aOne (cVar 6) (aOne (cVar 6) aNil)))) aNil))) bNil))))
    exact (ess_cons (es_asg (ev_call (ok 9 rfl) hr (by rfl) fx.g9 fx.F9.kp fx.B9 tk (ea_one (evv 0) ea_nil)) (eg_of (eg0_name (i := 3) sc39.nd rfl (by first | exact .inl rfl | exact .inr rfl))))
    (ess_cons (es_asg (ev_tup (ea_one (ev_dict rfl (by rfl) fx.b_dict (eq_of (ev_call (ok 26 rfl) hr (by rfl) fx.g26 fx.F26.kp fx.B26 tk (ea_one (evv 3) (ea_one (evv 1) ea_nil))))) (ea_one (ev_call (ok 27 rfl) hr (by rfl) fx.g27 fx.F27.kp fx.B27 tk (ea_one (evv 2) ea_nil)) ea_nil))) (eg_of (eg0_tup (n := 2) rfl (egs_cons (eg0_name (i := 4) sc39.nd rfl (by first | exact .inl rfl | exact .inr rfl)) (egs_cons (eg0_name (i := 5) sc39.nd rfl (by first | exact .inl rfl | exact .inr rfl)) egs_nil)))))
    (ess_cons (es_ret (ev_call (ok 38 rfl) hr (by rfl) fx.g38 fx.F38.kp fx.B38 tk (ea_one (ev_dc (own := [("unknown", 6)]) (vs := [6]) rfl sc39.nd (ei_val (evv 5)) (blkOk_by (by kernel_rfl)) rfl (fun _ _ _ _ _ => (egv_name (i := 6) sc39.nd rfl (by first | exact .inl rfl | exact .inr rfl) (by first | exact .inl rfl | exact .inr rfl) (by decide))) (fun _ _ _ _ _ => ets_nil) (fun _ _ _ _ _ => (evv 6)) (fun _ _ _ _ _ => (ev_get2 hr.units (evv 4) (evv 6) (evv 6)))) ea_nil)))
    ess_nil)))
theorem fn40 (fx : Fx PM K mg G fa ca fd) (ok : AllOk PM w K mg base G fa fd n) : FnOk PM w K mg base (CX PM w) (2 * (n + 1)) (fa 40) (fd 40) ["book", "answer", "unknowns"] (SpF G K P (n + 1) 40) :=
  fn_succ (r := 2 * n + 1) fx.F40 sc40 (fn := ⟨3, 9, [], b40⟩) rfl rfl rfl (by decide) fun cdv A outer s H E hr1 => by
    have tk := @tk_cx PM w K mg base ["book", "answer", "unknowns", "own", "goals", "pairs", "some", "unknown", "goal"] "renaming_back" (defScope s40) (fa 40) cdv A outer s H E
    have hr := hr1.mono (Nat.le_succ (2 * n))
    let C := callN P n
    show PSs _ _ (EvS G K (ZE K E) (bCons (sAsg (gSlot 3) (cCall C 9 (aOne (cVar 0) aNil))) (bCons (sAsg (gTupN 2 (gCons (gSlot 5) (gCons (gSlot 6) gNil))) (cTup (aOne (cBf .dict (cSeqOf (cCall C 26 (aOne (cVar 3) (aOne (cVar 1) aNil))))) (aOne (cCall C 27 (aOne (cVar 2) aNil)) aNil)))) (bCons (sAsg (gSlot 4) (sDc [7] (gSlot 7) (iSeq (cVar 6)) tYes (cVar 7) (cDm .get (cVar 5) (aOne (cVar 7) (aOne (cVar 7) aNil))))) (bCons (sIte (tNot (tVal (cCall C 38 (aOne (cVar 4) aNil)))) (bCons (sRaise 1 aNil) bNil) bNil) (bCons (sLock 4 (sRet (cCall C 29 (aOne (cCall C 10 (aOne (cVar 3) aNil)) (aOne (sDc [7, 8] (gTupN 2 (gCons (gSlot 7) (gCons (gSlot 8) gNil))) (iItems (cVar 4)) tYes (cVar 8) (cVar 7)) aNil))))) bNil))))))
    exact (ess_cons (es_asg (ev_call (ok 9 rfl) hr (by rfl) fx.g9 fx.F9.kp fx.B9 tk (ea_one (evv 0) ea_nil)) (eg_of (eg0_name (i := 3) sc40.nd rfl (by first | exact .inl rfl | exact .inr rfl))))
    (ess_cons (es_asg (ev_tup (ea_one (ev_dict rfl (by rfl) fx.b_dict (eq_of (ev_call (ok 26 rfl) hr (by rfl) fx.g26 fx.F26.kp fx.B26 tk (ea_one (evv 3) (ea_one (evv 1) ea_nil))))) (ea_one (ev_call (ok 27 rfl) hr (by rfl) fx.g27 fx.F27.kp fx.B27 tk (ea_one (evv 2) ea_nil)) ea_nil))) (eg_of (eg0_tup (n := 2) rfl (egs_cons (eg0_name (i := 5) sc40.nd rfl (by first | exact .inl rfl | exact .inr rfl)) (egs_cons (eg0_name (i := 6) sc40.nd rfl (by first | exact .inl rfl | exact .inr rfl)) egs_nil)))))
    (ess_cons (es_setDc (i := 4) (own := [("unknown", 7)]) (vs := [7]) rfl sc40.nd (ei_val (evv 6)) (blkOk_by (by kernel_rfl)) rfl (fun _ _ _ _ _ => (egv_name (i := 7) sc40.nd rfl (by first | exact .inl rfl | exact .inr rfl) (by first | exact .inl rfl | exact .inr rfl) (by decide))) (fun _ _ _ _ _ => ets_nil) (fun _ _ _ _ _ => (evv 7)) (fun _ _ _ _ _ => (ev_get2 hr.units (evv 5) (evv 7) (evv 7))))
    (ess_cons (es_if (et_not (et_val (ev_call (ok 38 rfl) hr (by rfl) fx.g38 fx.F38.kp fx.B38 tk (ea_one (evv 4) ea_nil)) (fun _ => rfl))) (ess_cons (es_raiseU fx.e1 tk)
    ess_nil) ess_nil)
    (ess_cons (es_lock (i := 4) (es_ret (ev_call (ok 29 rfl) hr (by rfl) fx.g29 fx.F29.kp fx.B29 tkNo (ea_one (ev_call (ok 10 rfl) hr (by rfl) fx.g10 fx.F10.kp fx.B10 tkNo (ea_one (evv 3) ea_nil)) (ea_one (ev_dc (own := [("unknown", 7), ("goal", 8)]) (vs := [7, 8]) rfl sc40.nd (ei_itL (evv 4)) (blkOk_by (by kernel_rfl)) rfl (fun _ _ _ _ _ => (egv_tup (n := 2) rfl (egvs_cons (egv_name (i := 7) sc40.nd rfl (by first | exact .inl rfl | exact .inr rfl) (by first | exact .inl rfl | exact .inr rfl) (by decide)) (egvs_cons (egv_name (i := 8) sc40.nd rfl (by first | exact .inl rfl | exact .inr rfl) (by first | exact .inl rfl | exact .inr rfl) (by decide)) egvs_nil rfl) rfl) rfl rfl)) (fun _ _ _ _ _ => ets_nil) (fun _ _ _ _ _ => (evv 8)) (fun _ _ _ _ _ => (evv 7))) ea_nil)))))
    ess_nil)))))
theorem fn41 (fx : Fx PM K mg G fa ca fd) (ok : AllOk PM w K mg base G fa fd n) : FnOk PM w K mg base (CX PM w) (2 * (n + 1)) (fa 41) (fd 41) ["script", "k"] (SpF G K P (n + 1) 41) :=
  fn_imp (ok_box (n := 2 * n + 1) fx.F41 fx.b_int fx.b_abs fx.b_len) fun vs H Q E h => box_sp rfl h
theorem fn42 (fx : Fx PM K mg G fa ca fd) (ok : AllOk PM w K mg base G fa fd n) : FnOk PM w K mg base (CX PM w) (2 * (n + 1)) (fa 42) (fd 42) ["urn", "below"] (SpF G K P (n + 1) 42) :=
  fn_imp (ok_take (n := 2 * n + 1) fx.F42 fx.b_int) fun vs H Q E h => take_sp rfl h
theorem fn43 (fx : Fx PM K mg G fa ca fd) (ok : AllOk PM w K mg base G fa fd n) : FnOk PM w K mg base (CX PM w) (2 * (n + 1)) (fa 43) (fd 43) ["script", "many"] (SpF G K P (n + 1) 43) :=
  fn_imp (ok_cells (n := 2 * n + 1) fx.F43 fx.b_int fx.b_list fx.b_enumerate fx.b_len) fun vs H Q E h => cells_sp fx.sk rfl h
theorem fn44 (fx : Fx PM K mg G fa ca fd) (ok : AllOk PM w K mg base G fa fd n) : FnOk PM w K mg base (CX PM w) (2 * (n + 1)) (fa 44) (fd 44) ["got", "due"] (SpF G K P (n + 1) 44) :=
  fn_succ (r := 2 * n + 1) fx.F44 sc44 (fn := ⟨2, 4, [], b44⟩) rfl rfl rfl (by decide) fun cdv A outer s H E hr1 => by
    have tk := @tk_cx PM w K mg base ["got", "due", "mine", "own"] "_law_same" (defScope s44) (fa 44) cdv A outer s H E
    have hr := hr1.mono (Nat.le_succ (2 * n))
    let C := callN P n
    show PSs _ _ (EvS G K (ZE K E) (bCons (sIte (tVal (cIsb (cVar 1) [.list, .tuple])) (bCons (sIte (tOr (tCmp .ne (cIsb (cVar 0) [.list]) (cIsb (cVar 1) [.list])) (tCmp .ne (cIsb (cVar 0) [.tuple]) (cIsb (cVar 1) [.tuple]))) (bCons (sRet (cCon (.bl false))) bNil) bNil) (bCons (sRet (cAnd (cCmp .eq (cLen (cVar 0)) (cLen (cVar 1))) (cBf .all (sLc [2, 3] (gTupN 2 (gCons (gSlot 2) (gCons (gSlot 3) gNil))) (iZip (cVar 0) (cVar 1)) tYes (cCall C 44 (aOne (cVar 2) (aOne (cVar 3) aNil))))))) bNil)) bNil) (bCons (sIte (tVal (cIsb (cVar 1) [.str])) (bCons (sRet (cAnd (cIsb (cVar 0) [.str]) (cCmp .eq (cVar 0) (cVar 1)))) bNil) bNil) (bCons (sIte (tOr (tCmp .is (cVar 1) (cCon .non)) (tVal (cIsb (cVar 1) [.bool]))) (bCons (sRet (cAnd (cCmp .eq (cCmp .is (cVar 0) (cCon .non)) (cCmp .is (cVar 1) (cCon .non))) (cAnd (cCmp .eq (cIsb (cVar 0) [.bool]) (cIsb (cVar 1) [.bool])) (cCmp .eq (cVar 0) (cVar 1))))) bNil) bNil) (bCons (sRet (cAnd (cIsb (cVar 0) [.int]) (cAnd (cNot (cIsb (cVar 0) [.bool])) (cCmp .eq (cVar 0) (cVar 1))))) bNil)))))
    exact (ess_cons (es_if (et_val (ev_isbs (by rfl) fx.b_isinstance (evv 1) (pa_tys (t := .list) (cty fx.b_list) (pa_tys (t := .tuple) (cty fx.b_tuple) pa_tys0)) (by decide)) (fun _ => rfl)) (ess_cons (es_if (PW.pt (ew_or (et_cmp (op := .ne) hr.units (ev_isb1 (t := .list) (by rfl) fx.b_isinstance (evv 0) (cty fx.b_list)) (ev_isb1 (t := .list) (by rfl) fx.b_isinstance (evv 1) (cty fx.b_list)) (by rfl)) (ew_or1 (et_cmp (op := .ne) hr.units (ev_isb1 (t := .tuple) (by rfl) fx.b_isinstance (evv 0) (cty fx.b_tuple)) (ev_isb1 (t := .tuple) (by rfl) fx.b_isinstance (evv 1) (cty fx.b_tuple)) (by rfl))))) (ess_cons (es_ret evb)
    ess_nil) ess_nil)
    (ess_cons (es_ret (ev_and (ev_cmp (op := .eq) hr.units (ev_len (by rfl) fx.b_len (evv 0)) (ev_len (by rfl) fx.b_len (evv 1)) (by rfl)) (ev_bool1 (ev_all rfl (by rfl) fx.b_all (el_new (en_lc (own := [("mine", 2), ("own", 3)]) (vs := [2, 3]) rfl sc44.nd (ei_zip (by rfl) fx.b_zip (ea_one (evv 0) (ea_one (evv 1) ea_nil))) (blkOk_by (by kernel_rfl)) rfl (fun _ _ _ _ _ => (egv_tup (n := 2) rfl (egvs_cons (egv_name (i := 2) sc44.nd rfl (by first | exact .inl rfl | exact .inr rfl) (by first | exact .inl rfl | exact .inr rfl) (by decide)) (egvs_cons (egv_name (i := 3) sc44.nd rfl (by first | exact .inl rfl | exact .inr rfl) (by first | exact .inl rfl | exact .inr rfl) (by decide)) egvs_nil rfl) rfl) rfl rfl)) (fun _ _ _ _ _ => ets_nil) (fun _ _ _ _ _ => (ev_call (ok 44 rfl) hr (by rfl) fx.g44 fx.F44.kp fx.B44 tk_blk (ea_one (evv 2) (ea_one (evv 3) ea_nil))))))))))
    ess_nil)) ess_nil)
    (ess_cons (es_if (et_val (ev_isb1 (t := .str) (by rfl) fx.b_isinstance (evv 1) (cty fx.b_str)) (fun _ => rfl)) (ess_cons (es_ret (ev_and (ev_isb1 (t := .str) (by rfl) fx.b_isinstance (evv 0) (cty fx.b_str)) (ev_bool1 (ev_cmp (op := .eq) hr.units (evv 0) (evv 1) (by rfl)))))
    ess_nil) ess_nil)
    (ess_cons (es_if (PW.pt (ew_or (et_cmp (op := .is) hr.units (evv 1) evn (by rfl)) (ew_or1 (et_val (ev_isb1 (t := .bool) (by rfl) fx.b_isinstance (evv 1) (cty fx.b_bool)) (fun _ => rfl))))) (ess_cons (es_ret (ev_and (ev_cmp (op := .eq) hr.units (ev_cmp (op := .is) hr.units (evv 0) evn (by rfl)) (ev_cmp (op := .is) hr.units (evv 1) evn (by rfl)) (by rfl)) (ev_and (ev_cmp (op := .eq) hr.units (ev_isb1 (t := .bool) (by rfl) fx.b_isinstance (evv 0) (cty fx.b_bool)) (ev_isb1 (t := .bool) (by rfl) fx.b_isinstance (evv 1) (cty fx.b_bool)) (by rfl)) (ev_bool1 (ev_cmp (op := .eq) hr.units (evv 0) (evv 1) (by rfl))))))
    ess_nil) ess_nil)
    (ess_cons (es_ret (ev_and (ev_isb1 (t := .int) (by rfl) fx.b_isinstance (evv 0) (cty fx.b_int)) (ev_and (ev_not (ev_isb1 (t := .bool) (by rfl) fx.b_isinstance (evv 0) (cty fx.b_bool))) (ev_bool1 (ev_cmp (op := .eq) hr.units (evv 0) (evv 1) (by rfl))))))
    ess_nil))))
theorem fn45 (fx : Fx PM K mg G fa ca fd) (ok : AllOk PM w K mg base G fa fd n) : FnOk PM w K mg base (CX PM w) (2 * (n + 1)) (fa 45) (fd 45) ["matter"] (SpF G K P (n + 1) 45) :=
  fn_succ (r := 2 * n + 1) fx.F45 sc45 (fn := ⟨1, 2, [], b45⟩) rfl rfl rfl (by decide) fun cdv A outer s H E hr1 => by
    have tk := @tk_cx PM w K mg base ["matter", "own"] "_law_lists" (defScope s45) (fa 45) cdv A outer s H E
    have hr := hr1.mono (Nat.le_succ (2 * n))
    let C := callN P n
    show PSs _ _ (EvS G K (ZE K E) (bCons (sRet (cIte (tVal (cIsb (cVar 0) [.list, .tuple])) (cLst (sLc [1] (gSlot 1) (iSeq (cVar 0)) tYes (cCall C 45 (aOne (cVar 1) aNil)))) (cVar 0))) bNil))
    exact (ess_cons (es_ret (ev_ite (et_val (ev_isbs (by rfl) fx.b_isinstance (evv 0) (pa_tys (t := .list) (cty fx.b_list) (pa_tys (t := .tuple) (cty fx.b_tuple) pa_tys0)) (by decide)) (fun _ => rfl)) (ev_new (en_lc (own := [("own", 1)]) (vs := [1]) rfl sc45.nd (ei_val (evv 0)) (blkOk_by (by kernel_rfl)) rfl (fun _ _ _ _ _ => (egv_name (i := 1) sc45.nd rfl (by first | exact .inl rfl | exact .inr rfl) (by first | exact .inl rfl | exact .inr rfl) (by decide))) (fun _ _ _ _ _ => ets_nil) (fun _ _ _ _ _ => (ev_call (ok 45 rfl) hr (by rfl) fx.g45 fx.F45.kp fx.B45 tk_blk (ea_one (evv 1) ea_nil))))) (evv 0)))
    ess_nil)
theorem fn46 (fx : Fx PM K mg G fa ca fd) (ok : AllOk PM w K mg base G fa fd n) : FnOk PM w K mg base (CX PM w) (2 * (n + 1)) (fa 46) (fd 46) ["name"] (SpF G K P (n + 1) 46) :=
  fn_succ (r := 2 * n + 1) fx.F46 sc46 (fn := ⟨1, 1, [], b46⟩) rfl rfl rfl (by decide) fun cdv A outer s H E hr1 => by
    have tk := @tk_cx PM w K mg base ["name"] "_law_kind" (defScope s46) (fa 46) cdv A outer s H E
    have hr := hr1.mono (Nat.le_succ (2 * n))
    let C := callN P n
    show PSs _ _ (EvS G K (ZE K E) (bCons (sRet (cIte (tCmp .inn (cVar 0) (cTup (aOne (cCon (.str [112])) (aOne (cCon (.str [113])) aNil)))) (cCon (.str [115, 119, 97, 112])) (cIte (tCmp .inn (cVar 0) (cTup (aOne (cCon (.str [115])) (aOne (cCon (.str [116])) aNil)))) (cCon (.str [98, 97, 103])) (cCon (.str [112, 108, 97, 105, 110]))))) bNil))
    exact (ess_cons (es_ret (ev_ite (et_cmp (op := .inn) hr.units (evv 0) (ev_tup (ea_one (evs (cs := [112]) (by kernel_rfl)) (ea_one (evs (cs := [113]) (by kernel_rfl)) ea_nil))) (by rfl)) (evs (cs := [115, 119, 97, 112]) (by kernel_rfl)) (ev_ite (et_cmp (op := .inn) hr.units (evv 0) (ev_tup (ea_one (evs (cs := [115]) (by kernel_rfl)) (ea_one (evs (cs := [116]) (by kernel_rfl)) ea_nil))) (by rfl)) (evs (cs := [98, 97, 103]) (by kernel_rfl)) (evs (cs := [112, 108, 97, 105, 110]) (by kernel_rfl)))))
    ess_nil)
theorem fn47 (fx : Fx PM K mg G fa ca fd) (ok : AllOk PM w K mg base G fa fd n) : FnOk PM w K mg base (CX PM w) (2 * (n + 1)) (fa 47) (fd 47) [] (SpF G K P (n + 1) 47) :=
  fn_succ (r := 2 * n + 1) fx.F47 sc47 (fn := ⟨0, 3, [], b47⟩) rfl rfl rfl (by decide) fun cdv A outer s H E hr1 => by
    have tk := @tk_cx PM w K mg base ["rows", "name", "many"] "_law_book" (defScope s47) (fa 47) cdv A outer s H E
    have hr := hr1.mono (Nat.le_succ (2 * n))
    let C := callN P n
    show PSs _ _ (EvS G K (ZE K E) (bCons (sAsg (gSlot 0) (cLst (aOne (cTup (aOne (cCon (.str [97])) (aOne (cCon (.int (.ofNat 0))) aNil))) (aOne (cTup (aOne (cCon (.str [98])) (aOne (cCon (.int (.ofNat 0))) aNil))) (aOne (cTup (aOne (cCon (.str [99])) (aOne (cCon (.int (.ofNat 0))) aNil))) (aOne (cTup (aOne (cCon (.str [102])) (aOne (cCon (.int (.ofNat 1))) aNil))) (aOne (cTup (aOne (cCon (.str [103])) (aOne (cCon (.int (.ofNat 2))) aNil))) (aOne (cTup (aOne (cCon (.str [112])) (aOne (cCon (.int (.ofNat 2))) aNil))) (aOne (cTup (aOne (cCon (.str [115])) (aOne (cCon (.int (.ofNat 2))) aNil))) (aOne (cTup (aOne (cCon (.str [116])) (aOne (cCon (.int (.ofNat 2))) aNil))) aNil)))))))))) (bCons (sRet (cBf .tuple (sLc [1, 2] (gTupN 2 (gCons (gSlot 1) (gCons (gSlot 2) gNil))) (iSeq (cVar 0)) tYes (cTup (aOne (cVar 1) (aOne (cCall C 46 (aOne (cVar 1) aNil)) (aOne (cVar 2) aNil))))))) bNil)))
    exact (ess_cons (es_asg (ev_lst (ea_one (ev_tup (ea_one (evs (cs := [97]) (by kernel_rfl)) (ea_one evi ea_nil))) (ea_one (ev_tup (ea_one (evs (cs := [98]) (by kernel_rfl)) (ea_one evi ea_nil))) (ea_one (ev_tup (ea_one (evs (cs := [99]) (by kernel_rfl)) (ea_one evi ea_nil))) (ea_one (ev_tup (ea_one (evs (cs := [102]) (by kernel_rfl)) (ea_one evi ea_nil))) (ea_one (ev_tup (ea_one (evs (cs := [103]) (by kernel_rfl)) (ea_one evi ea_nil))) (ea_one (ev_tup (ea_one (evs (cs := [112]) (by kernel_rfl)) (ea_one evi ea_nil))) (ea_one (ev_tup (ea_one (evs (cs := [115]) (by kernel_rfl)) (ea_one evi ea_nil))) (ea_one (ev_tup (ea_one (evs (cs := [116]) (by kernel_rfl)) (ea_one evi ea_nil))) ea_nil))))))))) (eg_of (eg0_name (i := 0) sc47.nd rfl (by first | exact .inl rfl | exact .inr rfl))))
    (ess_cons (es_ret (ev_tupleQ (by rfl) fx.b_tuple (eq_l (el_new (en_lc (own := [("name", 1), ("many", 2)]) (vs := [1, 2]) rfl sc47.nd (ei_val (evv 0)) (blkOk_by (by kernel_rfl)) rfl (fun _ _ _ _ _ => (egv_tup (n := 2) rfl (egvs_cons (egv_name (i := 1) sc47.nd rfl (by first | exact .inl rfl | exact .inr rfl) (by first | exact .inl rfl | exact .inr rfl) (by decide)) (egvs_cons (egv_name (i := 2) sc47.nd rfl (by first | exact .inl rfl | exact .inr rfl) (by first | exact .inl rfl | exact .inr rfl) (by decide)) egvs_nil rfl) rfl) rfl rfl)) (fun _ _ _ _ _ => ets_nil) (fun _ _ _ _ _ => (ev_tup (ea_one (evv 1) (ea_one (ev_call (ok 46 rfl) hr (by rfl) fx.g46 fx.F46.kp fx.B46 tk_blk (ea_one (evv 1) ea_nil)) (ea_one (evv 2) ea_nil))))))))))
    ess_nil))
theorem fn48 (fx : Fx PM K mg G fa ca fd) (ok : AllOk PM w K mg base G fa fd n) : FnOk PM w K mg base (CX PM w) (2 * (n + 1)) (fa 48) (fd 48) ["soft"] (SpF G K P (n + 1) 48) :=
  fn_succ (r := 2 * n + 1) fx.F48 sc48 (fn := ⟨1, 10, [], b48⟩) rfl rfl rfl (by decide) fun cdv A outer s H E hr1 => by
    have tk := @tk_cx PM w K mg base ["soft", "got", "due", "book", "a", "b", "one", "other", "near", "far"] "_law_told_right" (defScope s48) (fa 48) cdv A outer s H E
    have hr := hr1.mono (Nat.le_succ (2 * n))
    let C := callN P n
    show PSs _ _ (EvS G K (ZE K E) (bCons (sPar [3, 4, 5] (aOne (cCall C 47 aNil) (aOne (cTup (aOne (cCon (.str [97])) (aOne (cTup aNil) aNil))) (aOne (cTup (aOne (cCon (.str [98])) (aOne (cTup aNil) aNil))) aNil)))) (bCons (sPar [6, 7] (aOne (cTup (aOne (cTup (aOne (cCon (.int (.ofNat 0))) (aOne (cTup (aOne (cCon (.str [115])) (aOne (cTup (aOne (cCon (.int (.ofNat 2))) (aOne (cVar 4) aNil))) aNil))) aNil))) (aOne (cTup (aOne (cCon (.int (.ofNat 1))) (aOne (cTup (aOne (cCon (.str [102])) (aOne (cTup (aOne (cCon (.int (.ofNat 0))) aNil)) aNil))) aNil))) (aOne (cTup (aOne (cCon (.int (.ofNat 3))) (aOne (cCon (.int (.ofNat 2))) aNil))) aNil)))) (aOne (cTup (aOne (cTup (aOne (cCon (.int (.ofNat 0))) (aOne (cVar 5) aNil))) (aOne (cTup (aOne (cCon (.int (.ofNat 2))) (aOne (cTup (aOne (cCon (.str [115])) (aOne (cTup (aOne (cVar 5) (aOne (cCon (.int (.ofNat 0))) aNil))) aNil))) aNil))) (aOne (cTup (aOne (cCon (.int (.ofNat 4))) (aOne (cCon (.int (.ofNat 5))) aNil))) aNil)))) aNil))) (bCons (sPar [8, 9] (aOne (cIte (tVal (cVar 0)) (cCall C 45 (aOne (cVar 6) aNil)) (cVar 6)) (aOne (cIte (tVal (cVar 0)) (cCall C 45 (aOne (cVar 7) aNil)) (cVar 7)) aNil))) (bCons (sAsg (gSlot 1) (cLst (aOne (cCall C 30 (aOne (cVar 3) (aOne (cVar 8) (aOne (cTup (aOne (cCon (.str [115])) (aOne (cTup (aOne (cCon (.int (.ofNat 0))) (aOne (cCon (.int (.ofNat 1))) aNil))) aNil))) aNil)))) (aOne (cCall C 30 (aOne (cVar 3) (aOne (cVar 8) (aOne (cTup (aOne (cCon (.str [112])) (aOne (cTup (aOne (cCon (.int (.ofNat 3))) (aOne (cCon (.int (.ofNat 1))) aNil))) aNil))) aNil)))) (aOne (cCallP C 30 0 [2, 1, 0] aNil (aOne (cCon (.int (.ofNat 9))) (aOne (cVar 8) (aOne (cVar 3) aNil)))) (aOne (cCall C 30 (aOne (cVar 3) (aOne (cTup aNil) (aOne (cTup (aOne (cCon (.str [115])) (aOne (cTup (aOne (cCon (.int (.ofNat 1))) (aOne (cCon (.int (.ofNat 0))) aNil))) aNil))) aNil)))) aNil)))))) (bCons (sAsg (gSlot 2) (cLst (aOne (cTup (aOne (cCon (.str [115])) (aOne (cTup (aOne (cCon (.int (.ofNat 2))) (aOne (cVar 4) (aOne (cTup (aOne (cCon (.str [102])) (aOne (cTup (aOne (cCon (.int (.ofNat 0))) aNil)) aNil))) aNil)))) aNil))) (aOne (cTup (aOne (cCon (.str [112])) (aOne (cTup (aOne (cCon (.int (.ofNat 2))) (aOne (cTup (aOne (cCon (.str [102])) (aOne (cTup (aOne (cCon (.int (.ofNat 0))) aNil)) aNil))) aNil))) aNil))) (aOne (cCon (.int (.ofNat 9))) (aOne (cTup (aOne (cCon (.str [115])) (aOne (cTup (aOne (cCon (.int (.ofNat 0))) (aOne (cCon (.int (.ofNat 1))) aNil))) aNil))) aNil)))))) (bCons (sAsg (gSlot 1) (cBin .add (cVar 1) (cLst (aOne (cCall C 31 (aOne (cVar 3) (aOne (cVar 9) (aOne (cTup (aOne (cTup (aOne (cCon (.int (.ofNat 0))) (aOne (cCon (.int (.ofNat 2))) aNil))) (aOne (cTup (aOne (cTup (aOne (cCon (.str [115])) (aOne (cTup (aOne (cCon (.int (.ofNat 2))) (aOne (cCon (.int (.ofNat 2))) aNil))) aNil))) (aOne (cVar 4) aNil))) aNil))) aNil)))) (aOne (cCallP C 31 0 [2, 1, 0] aNil (aOne (cLst aNil) (aOne (cVar 9) (aOne (cVar 3) aNil)))) aNil))))) (bCons (sAsg (gSlot 2) (cBin .add (cVar 2) (cLst (aOne (cTup (aOne (cTup (aOne (cVar 5) (aOne (cTup (aOne (cCon (.str [115])) (aOne (cTup (aOne (cCon (.int (.ofNat 0))) (aOne (cVar 5) aNil))) aNil))) aNil))) (aOne (cTup (aOne (cTup (aOne (cCon (.str [115])) (aOne (cTup (aOne (cCon (.int (.ofNat 0))) (aOne (cCon (.int (.ofNat 0))) (aOne (cVar 5) (aOne (cVar 5) aNil))))) aNil))) (aOne (cVar 4) aNil))) aNil))) (aOne (cTup aNil) aNil))))) (bCons (sAsg (gSlot 1) (cBin .add (cVar 1) (cLst (aOne (cCall C 33 (aOne (cVar 3) (aOne (cVar 8) (aOne (cVar 9) aNil)))) (aOne (cCall C 33 (aOne (cVar 3) (aOne (cVar 9) (aOne (cVar 8) aNil)))) (aOne (cCallP C 33 0 [2, 1, 0] aNil (aOne (cTup aNil) (aOne (cLst (aOne (cLst (aOne (cCon (.int (.ofNat 7))) (aOne (cLst (aOne (cCon (.str [115])) (aOne (cLst (aOne (cVar 4) (aOne (cCon (.int (.ofNat 1))) aNil))) aNil))) aNil))) aNil)) (aOne (cVar 3) aNil)))) (aOne (cCall C 33 (aOne (cVar 3) (aOne (cTup aNil) (aOne (cTup (aOne (cTup (aOne (cCon (.int (.ofNat 2))) (aOne (cTup (aOne (cCon (.str [115])) (aOne (cTup (aOne (cVar 5) (aOne (cCon (.int (.ofNat 0))) aNil))) aNil))) aNil))) aNil)) aNil)))) aNil))))))) (bCons (sAsg (gSlot 2) (cBin .add (cVar 2) (cLst (aOne (cTup (aOne (cTup (aOne (cCon (.int (.ofNat 0))) (aOne (cTup (aOne (cCon (.str [115])) (aOne (cTup (aOne (cCon (.int (.ofNat 0))) (aOne (cVar 4) (aOne (cVar 5) aNil)))) aNil))) aNil))) (aOne (cTup (aOne (cCon (.int (.ofNat 1))) (aOne (cTup (aOne (cCon (.str [102])) (aOne (cTup (aOne (cVar 5) aNil)) aNil))) aNil))) (aOne (cTup (aOne (cCon (.int (.ofNat 2))) (aOne (cTup (aOne (cCon (.str [115])) (aOne (cTup (aOne (cCon (.int (.ofNat 0))) (aOne (cVar 5) aNil))) aNil))) aNil))) (aOne (cTup (aOne (cCon (.int (.ofNat 3))) (aOne (cTup (aOne (cCon (.str [115])) (aOne (cTup (aOne (cCon (.int (.ofNat 0))) (aOne (cVar 5) aNil))) aNil))) aNil))) (aOne (cTup (aOne (cCon (.int (.ofNat 4))) (aOne (cCon (.int (.ofNat 5))) aNil))) aNil)))))) aNil)))) (bCons (sAsg (gSlot 2) (cBin .add (cVar 2) (cLst (aOne (cTup (aOne (cTup (aOne (cCon (.int (.ofNat 0))) (aOne (cVar 5) aNil))) (aOne (cTup (aOne (cCon (.int (.ofNat 1))) (aOne (cTup (aOne (cCon (.str [102])) (aOne (cTup (aOne (cCon (.int (.ofNat 0))) aNil)) aNil))) aNil))) (aOne (cTup (aOne (cCon (.int (.ofNat 2))) (aOne (cTup (aOne (cCon (.str [115])) (aOne (cTup (aOne (cCon (.int (.ofNat 2))) (aOne (cVar 4) (aOne (cVar 5) aNil)))) aNil))) aNil))) (aOne (cTup (aOne (cCon (.int (.ofNat 3))) (aOne (cCon (.int (.ofNat 2))) aNil))) (aOne (cTup (aOne (cCon (.int (.ofNat 4))) (aOne (cCon (.int (.ofNat 5))) aNil))) aNil)))))) (aOne (cTup (aOne (cTup (aOne (cCon (.int (.ofNat 7))) (aOne (cTup (aOne (cCon (.str [115])) (aOne (cTup (aOne (cCon (.int (.ofNat 1))) (aOne (cVar 4) aNil))) aNil))) aNil))) aNil)) (aOne (cTup (aOne (cTup (aOne (cCon (.int (.ofNat 2))) (aOne (cTup (aOne (cCon (.str [115])) (aOne (cTup (aOne (cCon (.int (.ofNat 0))) (aOne (cVar 5) aNil))) aNil))) aNil))) aNil)) aNil)))))) (bCons (sAsg (gSlot 1) (cBin .add (cVar 1) (cLst (aOne (cCall C 34 (aOne (cVar 3) (aOne (cVar 8) (aOne (cTup (aOne (cCon (.int (.ofNat 0))) (aOne (cCon (.int (.ofNat 2))) (aOne (cCon (.int (.ofNat 3))) (aOne (cCon (.int (.ofNat 8))) aNil))))) aNil)))) (aOne (cCallP C 34 0 [2, 1, 0] aNil (aOne (cTup aNil) (aOne (cVar 8) (aOne (cVar 3) aNil)))) aNil))))) (bCons (sAsg (gSlot 1) (cBin .add (cVar 1) (cLst (aOne (cCall C 36 (aOne (cVar 3) (aOne (cVar 8) (aOne (cTup (aOne (cTup (aOne (cCon (.int (.ofNat 0))) (aOne (cTup (aOne (cCon (.str [115])) (aOne (cTup (aOne (cVar 4) (aOne (cCon (.int (.ofNat 2))) aNil))) aNil))) aNil))) (aOne (cTup (aOne (cCon (.int (.ofNat 3))) (aOne (cCon (.int (.ofNat 2))) aNil))) aNil))) (aOne (cTup (aOne (cCon (.int (.ofNat 0))) (aOne (cCon (.int (.ofNat 2))) (aOne (cCon (.int (.ofNat 3))) aNil)))) aNil))))) (aOne (cCall C 36 (aOne (cVar 3) (aOne (cVar 8) (aOne (cTup (aOne (cTup (aOne (cCon (.int (.ofNat 3))) (aOne (cCon (.int (.ofNat 2))) aNil))) aNil)) (aOne (cTup (aOne (cCon (.int (.ofNat 0))) (aOne (cCon (.int (.ofNat 3))) aNil))) aNil))))) aNil))))) (bCons (sAsg (gSlot 2) (cBin .add (cVar 2) (cLst (aOne (cTup (aOne (cTup (aOne (cCon (.int (.ofNat 0))) (aOne (cTup (aOne (cCon (.str [115])) (aOne (cTup (aOne (cCon (.int (.ofNat 2))) (aOne (cVar 4) aNil))) aNil))) aNil))) (aOne (cTup (aOne (cCon (.int (.ofNat 3))) (aOne (cCon (.int (.ofNat 2))) aNil))) aNil))) (aOne (cTup aNil) (aOne (cCon (.bl true)) (aOne (cCon (.bl false)) aNil))))))) (bCons (sAsg (gSlot 1) (cBin .add (cVar 1) (cLst (aOne (cCall C 36 (aOne (cVar 3) (aOne (cVar 8) (aOne (cVar 9) (aOne (cLst aNil) aNil))))) (aOne (cCall C 37 (aOne (cVar 3) (aOne (cVar 8) (aOne (cTup (aOne (cCon (.int (.ofNat 0))) (aOne (cCon (.int (.ofNat 1))) (aOne (cCon (.int (.ofNat 2))) (aOne (cCon (.int (.ofNat 3))) aNil))))) aNil)))) (aOne (cCall C 37 (aOne (cVar 3) (aOne (cTup (aOne (cTup (aOne (cCon (.int (.ofNat 0))) (aOne (cVar 4) aNil))) aNil)) (aOne (cTup (aOne (cCon (.int (.ofNat 0))) aNil)) aNil)))) aNil)))))) (bCons (sAsg (gSlot 1) (cBin .add (cVar 1) (cLst (aOne (cCall C 37 (aOne (cVar 3) (aOne (cTup aNil) (aOne (cTup (aOne (cCon (.int (.ofNat 1))) (aOne (cCon (.int (.ofNat 4))) aNil))) aNil)))) (aOne (cCall C 35 (aOne (cVar 3) (aOne (cTup (aOne (cTup (aOne (cCon (.int (.ofNat 0))) (aOne (cTup (aOne (cCon (.str [115])) (aOne (cTup (aOne (cVar 4) (aOne (cCon (.int (.ofNat 3))) aNil))) aNil))) aNil))) (aOne (cTup (aOne (cCon (.int (.ofNat 3))) (aOne (cCon (.int (.ofNat 2))) aNil))) aNil))) (aOne (cVar 8) aNil)))) aNil))))) (bCons (sAsg (gSlot 2) (cBin .add (cVar 2) (cLst (aOne (cCon (.bl true)) (aOne (cTup (aOne (cCon (.int (.ofNat 0))) (aOne (cCon (.int (.ofNat 2))) aNil))) (aOne (cTup aNil) (aOne (cTup (aOne (cCon (.int (.ofNat 1))) (aOne (cCon (.int (.ofNat 4))) aNil))) (aOne (cCon (.bl true)) aNil)))))))) (bCons (sAsg (gSlot 1) (cBin .add (cVar 1) (cLst (aOne (cCallP C 35 0 [2, 0, 1] aNil (aOne (cTup (aOne (cTup (aOne (cCon (.int (.ofNat 0))) (aOne (cCon (.int (.ofNat 1))) aNil))) aNil)) (aOne (cVar 8) (aOne (cVar 3) aNil)))) (aOne (cCall C 35 (aOne (cVar 3) (aOne (cTup aNil) (aOne (cTup aNil) aNil)))) (aOne (cCall C 39 (aOne (cVar 3) (aOne (cTup (aOne (cTup (aOne (cCon (.int (.ofNat 0))) (aOne (cCon (.int (.ofNat 1))) aNil))) (aOne (cTup (aOne (cCon (.int (.ofNat 1))) (aOne (cCon (.int (.ofNat 2))) aNil))) aNil))) (aOne (cTup (aOne (cCon (.int (.ofNat 0))) (aOne (cCon (.int (.ofNat 1))) aNil))) aNil)))) aNil)))))) (bCons (sAsg (gSlot 1) (cBin .add (cVar 1) (cLst (aOne (cCall C 39 (aOne (cVar 3) (aOne (cTup (aOne (cTup (aOne (cCon (.int (.ofNat 0))) (aOne (cCon (.int (.ofNat 1))) aNil))) (aOne (cTup (aOne (cCon (.int (.ofNat 1))) (aOne (cCon (.int (.ofNat 2))) aNil))) aNil))) (aOne (cTup (aOne (cCon (.int (.ofNat 0))) (aOne (cCon (.int (.ofNat 1))) (aOne (cCon (.int (.ofNat 2))) aNil)))) aNil)))) (aOne (cCall C 39 (aOne (cVar 3) (aOne (cTup (aOne (cTup (aOne (cCon (.int (.ofNat 0))) (aOne (cVar 4) aNil))) aNil)) (aOne (cTup (aOne (cCon (.int (.ofNat 0))) aNil)) aNil)))) aNil))))) (bCons (sAsg (gSlot 2) (cBin .add (cVar 2) (cLst (aOne (cCon (.bl false)) (aOne (cCon (.bl true)) (aOne (cCon (.bl true)) (aOne (cCon (.bl false)) (aOne (cCon (.bl false)) aNil)))))))) (bCons (sAsg (gSlot 1) (cBin .add (cVar 1) (cLst (aOne (cCall C 39 (aOne (cVar 3) (aOne (cTup (aOne (cTup (aOne (cCon (.int (.ofNat 0))) (aOne (cVar 4) aNil))) aNil)) (aOne (cTup (aOne (cCon (.int (.ofNat 1))) aNil)) aNil)))) (aOne (cCall C 39 (aOne (cVar 3) (aOne (cTup aNil) (aOne (cTup aNil) aNil)))) (aOne (cCall C 39 (aOne (cVar 3) (aOne (cTup (aOne (cTup (aOne (cCon (.int (.ofNat 3))) (aOne (cCon (.int (.ofNat 1))) aNil))) aNil)) (aOne (cTup (aOne (cCon (.int (.ofNat 1))) (aOne (cCon (.int (.ofNat 3))) aNil))) aNil)))) aNil)))))) (bCons (sAsg (gSlot 1) (cBin .add (cVar 1) (cLst (aOne (cCall C 40 (aOne (cVar 3) (aOne (cTup (aOne (cTup (aOne (cCon (.int (.ofNat 0))) (aOne (cCon (.int (.ofNat 1))) aNil))) (aOne (cTup (aOne (cCon (.int (.ofNat 1))) (aOne (cCon (.int (.ofNat 2))) aNil))) aNil))) (aOne (cTup (aOne (cCon (.int (.ofNat 0))) (aOne (cCon (.int (.ofNat 1))) aNil))) aNil)))) (aOne (cCall C 40 (aOne (cVar 3) (aOne (cTup (aOne (cTup (aOne (cCon (.int (.ofNat 0))) (aOne (cCon (.int (.ofNat 5))) aNil))) aNil)) (aOne (cTup (aOne (cCon (.int (.ofNat 2))) aNil)) aNil)))) aNil))))) (bCons (sRet (cCall C 44 (aOne (cBin .add (cVar 1) (cLst (aOne (cCallP C 40 0 [1, 2, 0] aNil (aOne (cTup (aOne (cCon (.int (.ofNat 0))) (aOne (cCon (.int (.ofNat 1))) aNil))) (aOne (cVar 3) (aOne (cTup (aOne (cTup (aOne (cCon (.int (.ofNat 0))) (aOne (cCon (.int (.ofNat 1))) aNil))) (aOne (cTup (aOne (cCon (.int (.ofNat 1))) (aOne (cCon (.int (.ofNat 0))) aNil))) aNil))) aNil)))) aNil))) (aOne (cBin .add (cVar 2) (cLst (aOne (cCon (.bl true)) (aOne (cCon (.bl true)) (aOne (cCon (.bl false)) (aOne (cTup (aOne (cTup (aOne (cCon (.int (.ofNat 1))) (aOne (cCon (.int (.ofNat 0))) aNil))) (aOne (cTup (aOne (cCon (.int (.ofNat 2))) (aOne (cCon (.int (.ofNat 1))) aNil))) aNil))) (aOne (cTup aNil) (aOne (cTup (aOne (cTup (aOne (cCon (.int (.ofNat 0))) (aOne (cCon (.int (.ofNat 1))) aNil))) (aOne (cTup (aOne (cCon (.int (.ofNat 1))) (aOne (cCon (.int (.ofNat 0))) aNil))) aNil))) aNil)))))))) aNil)))) bNil)))))))))))))))))))))))
    exact (ess_cons (es_par3 rfl sc48.nd rfl rfl rfl (by decide) (by decide) (by decide) rfl rfl rfl (ea_one (ev_call0 (ok 47 rfl) hr (by rfl) fx.g47 fx.F47.kp fx.B47 tk) (ea_one (ev_tup (ea_one (evs (cs := [97]) (by kernel_rfl)) (ea_one (ev_tup ea_nil) ea_nil))) (ea_one (ev_tup (ea_one (evs (cs := [98]) (by kernel_rfl)) (ea_one (ev_tup ea_nil) ea_nil))) ea_nil))) (by rfl))
    (ess_cons (es_par2 rfl sc48.nd rfl rfl (by decide) rfl rfl (ea_one (ev_tup (ea_one (ev_tup (ea_one evi (ea_one (ev_tup (ea_one (evs (cs := [115]) (by kernel_rfl)) (ea_one (ev_tup (ea_one evi (ea_one (evv 4) ea_nil))) ea_nil))) ea_nil))) (ea_one (ev_tup (ea_one evi (ea_one (ev_tup (ea_one (evs (cs := [102]) (by kernel_rfl)) (ea_one (ev_tup (ea_one evi ea_nil)) ea_nil))) ea_nil))) (ea_one (ev_tup (ea_one evi (ea_one evi ea_nil))) ea_nil)))) (ea_one (ev_tup (ea_one (ev_tup (ea_one evi (ea_one (evv 5) ea_nil))) (ea_one (ev_tup (ea_one evi (ea_one (ev_tup (ea_one (evs (cs := [115]) (by kernel_rfl)) (ea_one (ev_tup (ea_one (evv 5) (ea_one evi ea_nil))) ea_nil))) ea_nil))) (ea_one (ev_tup (ea_one evi (ea_one evi ea_nil))) ea_nil)))) ea_nil)) (by rfl))
    (ess_cons (es_par2 rfl sc48.nd rfl rfl (by decide) rfl rfl (ea_one (ev_ite (et_val (evv 0) (fun _ => rfl)) (ev_call (ok 45 rfl) hr (by rfl) fx.g45 fx.F45.kp fx.B45 tk (ea_one (evv 6) ea_nil)) (evv 6)) (ea_one (ev_ite (et_val (evv 0) (fun _ => rfl)) (ev_call (ok 45 rfl) hr (by rfl) fx.g45 fx.F45.kp fx.B45 tk (ea_one (evv 7) ea_nil)) (evv 7)) ea_nil)) (by rfl))
    (ess_cons (es_asg (ev_lst (ea_one (ev_call (ok 30 rfl) hr (by rfl) fx.g30 fx.F30.kp fx.B30 tk (ea_one (evv 3) (ea_one (evv 8) (ea_one (ev_tup (ea_one (evs (cs := [115]) (by kernel_rfl)) (ea_one (ev_tup (ea_one evi (ea_one evi ea_nil))) ea_nil))) ea_nil)))) (ea_one (ev_call (ok 30 rfl) hr (by rfl) fx.g30 fx.F30.kp fx.B30 tk (ea_one (evv 3) (ea_one (evv 8) (ea_one (ev_tup (ea_one (evs (cs := [112]) (by kernel_rfl)) (ea_one (ev_tup (ea_one evi (ea_one evi ea_nil))) ea_nil))) ea_nil)))) (ea_one (ev_callK (ok 30 rfl) hr (by rfl) fx.g30 fx.F30.kp fx.k30_0_term_answer_book tk (ek_one evi (ek_one (evv 8) (ek_one (evv 3) ek_nil)))) (ea_one (ev_call (ok 30 rfl) hr (by rfl) fx.g30 fx.F30.kp fx.B30 tk (ea_one (evv 3) (ea_one (ev_tup ea_nil) (ea_one (ev_tup (ea_one (evs (cs := [115]) (by kernel_rfl)) (ea_one (ev_tup (ea_one evi (ea_one evi ea_nil))) ea_nil))) ea_nil)))) ea_nil))))) (eg_of (eg0_name (i := 1) sc48.nd rfl (by first | exact .inl rfl | exact .inr rfl))))
    (ess_cons (es_asg (ev_lst (ea_one (ev_tup (ea_one (evs (cs := [115]) (by kernel_rfl)) (ea_one (ev_tup (ea_one evi (ea_one (evv 4) (ea_one (ev_tup (ea_one (evs (cs := [102]) (by kernel_rfl)) (ea_one (ev_tup (ea_one evi ea_nil)) ea_nil))) ea_nil)))) ea_nil))) (ea_one (ev_tup (ea_one (evs (cs := [112]) (by kernel_rfl)) (ea_one (ev_tup (ea_one evi (ea_one (ev_tup (ea_one (evs (cs := [102]) (by kernel_rfl)) (ea_one (ev_tup (ea_one evi ea_nil)) ea_nil))) ea_nil))) ea_nil))) (ea_one evi (ea_one (ev_tup (ea_one (evs (cs := [115]) (by kernel_rfl)) (ea_one (ev_tup (ea_one evi (ea_one evi ea_nil))) ea_nil))) ea_nil))))) (eg_of (eg0_name (i := 2) sc48.nd rfl (by first | exact .inl rfl | exact .inr rfl))))
    (ess_cons (es_asg (ev_bin (op := .add) (evv 1) (ev_lst (ea_one (ev_call (ok 31 rfl) hr (by rfl) fx.g31 fx.F31.kp fx.B31 tk (ea_one (evv 3) (ea_one (evv 9) (ea_one (ev_tup (ea_one (ev_tup (ea_one evi (ea_one evi ea_nil))) (ea_one (ev_tup (ea_one (ev_tup (ea_one (evs (cs := [115]) (by kernel_rfl)) (ea_one (ev_tup (ea_one evi (ea_one evi ea_nil))) ea_nil))) (ea_one (evv 4) ea_nil))) ea_nil))) ea_nil)))) (ea_one (ev_callK (ok 31 rfl) hr (by rfl) fx.g31 fx.F31.kp fx.k31_0_equations_answer_book tk (ek_one (ev_lst ea_nil) (ek_one (evv 9) (ek_one (evv 3) ek_nil)))) ea_nil)))) (eg_of (eg0_name (i := 1) sc48.nd rfl (by first | exact .inl rfl | exact .inr rfl))))
    (ess_cons (es_asg (ev_bin (op := .add) (evv 2) (ev_lst (ea_one (ev_tup (ea_one (ev_tup (ea_one (evv 5) (ea_one (ev_tup (ea_one (evs (cs := [115]) (by kernel_rfl)) (ea_one (ev_tup (ea_one evi (ea_one (evv 5) ea_nil))) ea_nil))) ea_nil))) (ea_one (ev_tup (ea_one (ev_tup (ea_one (evs (cs := [115]) (by kernel_rfl)) (ea_one (ev_tup (ea_one evi (ea_one evi (ea_one (evv 5) (ea_one (evv 5) ea_nil))))) ea_nil))) (ea_one (evv 4) ea_nil))) ea_nil))) (ea_one (ev_tup ea_nil) ea_nil)))) (eg_of (eg0_name (i := 2) sc48.nd rfl (by first | exact .inl rfl | exact .inr rfl))))
    (ess_cons (es_asg (ev_bin (op := .add) (evv 1) (ev_lst (ea_one (ev_call (ok 33 rfl) hr (by rfl) fx.g33 fx.F33.kp fx.B33 tk (ea_one (evv 3) (ea_one (evv 8) (ea_one (evv 9) ea_nil)))) (ea_one (ev_call (ok 33 rfl) hr (by rfl) fx.g33 fx.F33.kp fx.B33 tk (ea_one (evv 3) (ea_one (evv 9) (ea_one (evv 8) ea_nil)))) (ea_one (ev_callK (ok 33 rfl) hr (by rfl) fx.g33 fx.F33.kp fx.k33_0_other_one_book tk (ek_one (ev_tup ea_nil) (ek_one (ev_lst (ea_one (ev_lst (ea_one evi (ea_one (ev_lst (ea_one (evs (cs := [115]) (by kernel_rfl)) (ea_one (ev_lst (ea_one (evv 4) (ea_one evi ea_nil))) ea_nil))) ea_nil))) ea_nil)) (ek_one (evv 3) ek_nil)))) (ea_one (ev_call (ok 33 rfl) hr (by rfl) fx.g33 fx.F33.kp fx.B33 tk (ea_one (evv 3) (ea_one (ev_tup ea_nil) (ea_one (ev_tup (ea_one (ev_tup (ea_one evi (ea_one (ev_tup (ea_one (evs (cs := [115]) (by kernel_rfl)) (ea_one (ev_tup (ea_one (evv 5) (ea_one evi ea_nil))) ea_nil))) ea_nil))) ea_nil)) ea_nil)))) ea_nil)))))) (eg_of (eg0_name (i := 1) sc48.nd rfl (by first | exact .inl rfl | exact .inr rfl))))
    (ess_cons (es_asg (ev_bin (op := .add) (evv 2) (ev_lst (ea_one (ev_tup (ea_one (ev_tup (ea_one evi (ea_one (ev_tup (ea_one (evs (cs := [115]) (by kernel_rfl)) (ea_one (ev_tup (ea_one evi (ea_one (evv 4) (ea_one (evv 5) ea_nil)))) ea_nil))) ea_nil))) (ea_one (ev_tup (ea_one evi (ea_one (ev_tup (ea_one (evs (cs := [102]) (by kernel_rfl)) (ea_one (ev_tup (ea_one (evv 5) ea_nil)) ea_nil))) ea_nil))) (ea_one (ev_tup (ea_one evi (ea_one (ev_tup (ea_one (evs (cs := [115]) (by kernel_rfl)) (ea_one (ev_tup (ea_one evi (ea_one (evv 5) ea_nil))) ea_nil))) ea_nil))) (ea_one (ev_tup (ea_one evi (ea_one (ev_tup (ea_one (evs (cs := [115]) (by kernel_rfl)) (ea_one (ev_tup (ea_one evi (ea_one (evv 5) ea_nil))) ea_nil))) ea_nil))) (ea_one (ev_tup (ea_one evi (ea_one evi ea_nil))) ea_nil)))))) ea_nil))) (eg_of (eg0_name (i := 2) sc48.nd rfl (by first | exact .inl rfl | exact .inr rfl))))
    (ess_cons (es_asg (ev_bin (op := .add) (evv 2) (ev_lst (ea_one (ev_tup (ea_one (ev_tup (ea_one evi (ea_one (evv 5) ea_nil))) (ea_one (ev_tup (ea_one evi (ea_one (ev_tup (ea_one (evs (cs := [102]) (by kernel_rfl)) (ea_one (ev_tup (ea_one evi ea_nil)) ea_nil))) ea_nil))) (ea_one (ev_tup (ea_one evi (ea_one (ev_tup (ea_one (evs (cs := [115]) (by kernel_rfl)) (ea_one (ev_tup (ea_one evi (ea_one (evv 4) (ea_one (evv 5) ea_nil)))) ea_nil))) ea_nil))) (ea_one (ev_tup (ea_one evi (ea_one evi ea_nil))) (ea_one (ev_tup (ea_one evi (ea_one evi ea_nil))) ea_nil)))))) (ea_one (ev_tup (ea_one (ev_tup (ea_one evi (ea_one (ev_tup (ea_one (evs (cs := [115]) (by kernel_rfl)) (ea_one (ev_tup (ea_one evi (ea_one (evv 4) ea_nil))) ea_nil))) ea_nil))) ea_nil)) (ea_one (ev_tup (ea_one (ev_tup (ea_one evi (ea_one (ev_tup (ea_one (evs (cs := [115]) (by kernel_rfl)) (ea_one (ev_tup (ea_one evi (ea_one (evv 5) ea_nil))) ea_nil))) ea_nil))) ea_nil)) ea_nil))))) (eg_of (eg0_name (i := 2) sc48.nd rfl (by first | exact .inl rfl | exact .inr rfl))))
    (ess_cons (es_asg (ev_bin (op := .add) (evv 1) (ev_lst (ea_one (ev_call (ok 34 rfl) hr (by rfl) fx.g34 fx.F34.kp fx.B34 tk (ea_one (evv 3) (ea_one (evv 8) (ea_one (ev_tup (ea_one evi (ea_one evi (ea_one evi (ea_one evi ea_nil))))) ea_nil)))) (ea_one (ev_callK (ok 34 rfl) hr (by rfl) fx.g34 fx.F34.kp fx.k34_0_unknowns_answer_book tk (ek_one (ev_tup ea_nil) (ek_one (evv 8) (ek_one (evv 3) ek_nil)))) ea_nil)))) (eg_of (eg0_name (i := 1) sc48.nd rfl (by first | exact .inl rfl | exact .inr rfl))))
    (ess_cons (es_asg (ev_bin (op := .add) (evv 1) (ev_lst (ea_one (ev_call (ok 36 rfl) hr (by rfl) fx.g36 fx.F36.kp fx.B36 tk (ea_one (evv 3) (ea_one (evv 8) (ea_one (ev_tup (ea_one (ev_tup (ea_one evi (ea_one (ev_tup (ea_one (evs (cs := [115]) (by kernel_rfl)) (ea_one (ev_tup (ea_one (evv 4) (ea_one evi ea_nil))) ea_nil))) ea_nil))) (ea_one (ev_tup (ea_one evi (ea_one evi ea_nil))) ea_nil))) (ea_one (ev_tup (ea_one evi (ea_one evi (ea_one evi ea_nil)))) ea_nil))))) (ea_one (ev_call (ok 36 rfl) hr (by rfl) fx.g36 fx.F36.kp fx.B36 tk (ea_one (evv 3) (ea_one (evv 8) (ea_one (ev_tup (ea_one (ev_tup (ea_one evi (ea_one evi ea_nil))) ea_nil)) (ea_one (ev_tup (ea_one evi (ea_one evi ea_nil))) ea_nil))))) ea_nil)))) (eg_of (eg0_name (i := 1) sc48.nd rfl (by first | exact .inl rfl | exact .inr rfl))))
    (ess_cons (es_asg (ev_bin (op := .add) (evv 2) (ev_lst (ea_one (ev_tup (ea_one (ev_tup (ea_one evi (ea_one (ev_tup (ea_one (evs (cs := [115]) (by kernel_rfl)) (ea_one (ev_tup (ea_one evi (ea_one (evv 4) ea_nil))) ea_nil))) ea_nil))) (ea_one (ev_tup (ea_one evi (ea_one evi ea_nil))) ea_nil))) (ea_one (ev_tup ea_nil) (ea_one evb (ea_one evb ea_nil)))))) (eg_of (eg0_name (i := 2) sc48.nd rfl (by first | exact .inl rfl | exact .inr rfl))))
    (ess_cons (es_asg (ev_bin (op := .add) (evv 1) (ev_lst (ea_one (ev_call (ok 36 rfl) hr (by rfl) fx.g36 fx.F36.kp fx.B36 tk (ea_one (evv 3) (ea_one (evv 8) (ea_one (evv 9) (ea_one (ev_lst ea_nil) ea_nil))))) (ea_one (ev_call (ok 37 rfl) hr (by rfl) fx.g37 fx.F37.kp fx.B37 tk (ea_one (evv 3) (ea_one (evv 8) (ea_one (ev_tup (ea_one evi (ea_one evi (ea_one evi (ea_one evi ea_nil))))) ea_nil)))) (ea_one (ev_call (ok 37 rfl) hr (by rfl) fx.g37 fx.F37.kp fx.B37 tk (ea_one (evv 3) (ea_one (ev_tup (ea_one (ev_tup (ea_one evi (ea_one (evv 4) ea_nil))) ea_nil)) (ea_one (ev_tup (ea_one evi ea_nil)) ea_nil)))) ea_nil))))) (eg_of (eg0_name (i := 1) sc48.nd rfl (by first | exact .inl rfl | exact .inr rfl))))
    (ess_cons (es_asg (ev_bin (op := .add) (evv 1) (ev_lst (ea_one (ev_call (ok 37 rfl) hr (by rfl) fx.g37 fx.F37.kp fx.B37 tk (ea_one (evv 3) (ea_one (ev_tup ea_nil) (ea_one (ev_tup (ea_one evi (ea_one evi ea_nil))) ea_nil)))) (ea_one (ev_call (ok 35 rfl) hr (by rfl) fx.g35 fx.F35.kp fx.B35 tk (ea_one (evv 3) (ea_one (ev_tup (ea_one (ev_tup (ea_one evi (ea_one (ev_tup (ea_one (evs (cs := [115]) (by kernel_rfl)) (ea_one (ev_tup (ea_one (evv 4) (ea_one evi ea_nil))) ea_nil))) ea_nil))) (ea_one (ev_tup (ea_one evi (ea_one evi ea_nil))) ea_nil))) (ea_one (evv 8) ea_nil)))) ea_nil)))) (eg_of (eg0_name (i := 1) sc48.nd rfl (by first | exact .inl rfl | exact .inr rfl))))
    (ess_cons (es_asg (ev_bin (op := .add) (evv 2) (ev_lst (ea_one evb (ea_one (ev_tup (ea_one evi (ea_one evi ea_nil))) (ea_one (ev_tup ea_nil) (ea_one (ev_tup (ea_one evi (ea_one evi ea_nil))) (ea_one evb ea_nil))))))) (eg_of (eg0_name (i := 2) sc48.nd rfl (by first | exact .inl rfl | exact .inr rfl))))
    (ess_cons (es_asg (ev_bin (op := .add) (evv 1) (ev_lst (ea_one (ev_callK (ok 35 rfl) hr (by rfl) fx.g35 fx.F35.kp fx.k35_0_equations_answer_book tk (ek_one (ev_tup (ea_one (ev_tup (ea_one evi (ea_one evi ea_nil))) ea_nil)) (ek_one (evv 8) (ek_one (evv 3) ek_nil)))) (ea_one (ev_call (ok 35 rfl) hr (by rfl) fx.g35 fx.F35.kp fx.B35 tk (ea_one (evv 3) (ea_one (ev_tup ea_nil) (ea_one (ev_tup ea_nil) ea_nil)))) (ea_one (ev_call (ok 39 rfl) hr (by rfl) fx.g39 fx.F39.kp fx.B39 tk (ea_one (evv 3) (ea_one (ev_tup (ea_one (ev_tup (ea_one evi (ea_one evi ea_nil))) (ea_one (ev_tup (ea_one evi (ea_one evi ea_nil))) ea_nil))) (ea_one (ev_tup (ea_one evi (ea_one evi ea_nil))) ea_nil)))) ea_nil))))) (eg_of (eg0_name (i := 1) sc48.nd rfl (by first | exact .inl rfl | exact .inr rfl))))
    (ess_cons (es_asg (ev_bin (op := .add) (evv 1) (ev_lst (ea_one (ev_call (ok 39 rfl) hr (by rfl) fx.g39 fx.F39.kp fx.B39 tk (ea_one (evv 3) (ea_one (ev_tup (ea_one (ev_tup (ea_one evi (ea_one evi ea_nil))) (ea_one (ev_tup (ea_one evi (ea_one evi ea_nil))) ea_nil))) (ea_one (ev_tup (ea_one evi (ea_one evi (ea_one evi ea_nil)))) ea_nil)))) (ea_one (ev_call (ok 39 rfl) hr (by rfl) fx.g39 fx.F39.kp fx.B39 tk (ea_one (evv 3) (ea_one (ev_tup (ea_one (ev_tup (ea_one evi (ea_one (evv 4) ea_nil))) ea_nil)) (ea_one (ev_tup (ea_one evi ea_nil)) ea_nil)))) ea_nil)))) (eg_of (eg0_name (i := 1) sc48.nd rfl (by first | exact .inl rfl | exact .inr rfl))))
    (ess_cons (es_asg (ev_bin (op := .add) (evv 2) (ev_lst (ea_one evb (ea_one evb (ea_one evb (ea_one evb (ea_one evb ea_nil))))))) (eg_of (eg0_name (i := 2) sc48.nd rfl (by first | exact .inl rfl | exact .inr rfl))))
    (ess_cons (es_asg (ev_bin (op := .add) (evv 1) (ev_lst (ea_one (ev_call (ok 39 rfl) hr (by rfl) fx.g39 fx.F39.kp fx.B39 tk (ea_one (evv 3) (ea_one (ev_tup (ea_one (ev_tup (ea_one evi (ea_one (evv 4) ea_nil))) ea_nil)) (ea_one (ev_tup (ea_one evi ea_nil)) ea_nil)))) (ea_one (ev_call (ok 39 rfl) hr (by rfl) fx.g39 fx.F39.kp fx.B39 tk (ea_one (evv 3) (ea_one (ev_tup ea_nil) (ea_one (ev_tup ea_nil) ea_nil)))) (ea_one (ev_call (ok 39 rfl) hr (by rfl) fx.g39 fx.F39.kp fx.B39 tk (ea_one (evv 3) (ea_one (ev_tup (ea_one (ev_tup (ea_one evi (ea_one evi ea_nil))) ea_nil)) (ea_one (ev_tup (ea_one evi (ea_one evi ea_nil))) ea_nil)))) ea_nil))))) (eg_of (eg0_name (i := 1) sc48.nd rfl (by first | exact .inl rfl | exact .inr rfl))))
    (ess_cons (es_asg (ev_bin (op := .add) (evv 1) (ev_lst (ea_one (ev_call (ok 40 rfl) hr (by rfl) fx.g40 fx.F40.kp fx.B40 tk (ea_one (evv 3) (ea_one (ev_tup (ea_one (ev_tup (ea_one evi (ea_one evi ea_nil))) (ea_one (ev_tup (ea_one evi (ea_one evi ea_nil))) ea_nil))) (ea_one (ev_tup (ea_one evi (ea_one evi ea_nil))) ea_nil)))) (ea_one (ev_call (ok 40 rfl) hr (by rfl) fx.g40 fx.F40.kp fx.B40 tk (ea_one (evv 3) (ea_one (ev_tup (ea_one (ev_tup (ea_one evi (ea_one evi ea_nil))) ea_nil)) (ea_one (ev_tup (ea_one evi ea_nil)) ea_nil)))) ea_nil)))) (eg_of (eg0_name (i := 1) sc48.nd rfl (by first | exact .inl rfl | exact .inr rfl))))
    (ess_cons (es_ret (ev_call (ok 44 rfl) hr (by rfl) fx.g44 fx.F44.kp fx.B44 tk (ea_one (ev_bin (op := .add) (evv 1) (ev_lst (ea_one (ev_callK (ok 40 rfl) hr (by rfl) fx.g40 fx.F40.kp fx.k40_0_unknowns_book_answer tk (ek_one (ev_tup (ea_one evi (ea_one evi ea_nil))) (ek_one (evv 3) (ek_one (ev_tup (ea_one (ev_tup (ea_one evi (ea_one evi ea_nil))) (ea_one (ev_tup (ea_one evi (ea_one evi ea_nil))) ea_nil))) ek_nil)))) ea_nil))) (ea_one (ev_bin (op := .add) (evv 2) (ev_lst (ea_one evb (ea_one evb (ea_one evb (ea_one (ev_tup (ea_one (ev_tup (ea_one evi (ea_one evi ea_nil))) (ea_one (ev_tup (ea_one evi (ea_one evi ea_nil))) ea_nil))) (ea_one (ev_tup ea_nil) (ea_one (ev_tup (ea_one (ev_tup (ea_one evi (ea_one evi ea_nil))) (ea_one (ev_tup (ea_one evi (ea_one evi ea_nil))) ea_nil))) ea_nil)))))))) ea_nil))))
    ess_nil))))))))))))))))))))))
theorem fn49 (fx : Fx PM K mg G fa ca fd) (ok : AllOk PM w K mg base G fa fd n) : FnOk PM w K mg base (CX PM w) (2 * (n + 1)) (fa 49) (fd 49) [] (SpF G K P (n + 1) 49) :=
  fn_succ (r := 2 * n + 1) fx.F49 sc49 (fn := ⟨0, 6, [], b49⟩) rfl rfl rfl (by decide) fun cdv A outer s H E hr1 => by
    have tk := @tk_cx PM w K mg base ["good", "bad", "got", "book", "a", "own"] "_law_near_right" (defScope s49) (fa 49) cdv A outer s H E
    have hr := hr1.mono (Nat.le_succ (2 * n))
    let C := callN P n
    show PSs _ _ (EvS G K (ZE K E) (bCons (sAsg (gTupN 2 (gCons (gSlot 3) (gCons (gSlot 4) gNil))) (cTup (aOne (cCall C 47 aNil) (aOne (cTup (aOne (cCon (.str [97])) (aOne (cTup aNil) aNil))) aNil)))) (bCons (sAsg (gSlot 0) (cLst (aOne (cTup aNil) (aOne (cTup (aOne (cTup (aOne (cCon (.int (.ofNat 0))) (aOne (cCon (.int (.ofNat 1))) aNil))) aNil)) (aOne (cTup (aOne (cTup (aOne (cCon (.int (.ofNat 0))) (aOne (cVar 4) aNil))) (aOne (cTup (aOne (cCon (.int (.ofNat 99))) (aOne (cCon (.int (.ofNat 0))) aNil))) aNil))) (aOne (cTup (aOne (cTup (aOne (cCon (.int (.ofNat 5))) (aOne (cTup (aOne (cCon (.str [115])) (aOne (cTup (aOne (cCon (.int (.ofNat 5))) (aOne (cCon (.int (.ofNat 0))) (aOne (cTup (aOne (cCon (.str [115])) (aOne (cTup (aOne (cCon (.int (.ofNat 1))) (aOne (cCon (.int (.ofNat 1))) aNil))) aNil))) aNil)))) aNil))) aNil))) aNil)) aNil)))))) (bCons (sAsg (gSlot 1) (cLst (aOne (cTup (aOne (cTup (aOne (cCon (.int (.ofNat 0))) (aOne (cCon (.int (.ofNat 0))) aNil))) aNil)) (aOne (cTup (aOne (cTup (aOne (cCon (.int (.ofNat 1))) (aOne (cVar 4) aNil))) (aOne (cTup (aOne (cCon (.int (.ofNat 0))) (aOne (cVar 4) aNil))) aNil))) (aOne (cTup (aOne (cTup (aOne (cCon (.int (.ofNat 0))) (aOne (cVar 4) aNil))) (aOne (cTup (aOne (cCon (.int (.ofNat 0))) (aOne (cCon (.int (.ofNat 1))) aNil))) aNil))) (aOne (cLst (aOne (cTup (aOne (cCon (.int (.ofNat 0))) (aOne (cVar 4) aNil))) aNil)) (aOne (cTup (aOne (cLst (aOne (cCon (.int (.ofNat 0))) (aOne (cVar 4) aNil))) aNil)) (aOne (cTup (aOne (cTup (aOne (cCon (.int (.ofNat 100))) (aOne (cVar 4) aNil))) aNil)) (aOne (cTup (aOne (cTup (aOne (cNeg (cCon (.int (.ofNat 1)))) (aOne (cVar 4) aNil))) aNil)) (aOne (cTup (aOne (cTup (aOne (cCon (.bl true)) (aOne (cVar 4) aNil))) aNil)) aNil)))))))))) (bCons (sAsg (gSlot 1) (cBin .add (cVar 1) (cLst (aOne (cTup (aOne (cTup (aOne (cCon (.int (.ofNat 0))) (aOne (cTup (aOne (cCon (.str [115])) (aOne (cTup (aOne (cCon (.int (.ofNat 0))) aNil)) aNil))) aNil))) aNil)) (aOne (cTup (aOne (cTup (aOne (cCon (.int (.ofNat 0))) aNil)) aNil)) (aOne (cTup (aOne (cTup (aOne (cCon (.int (.ofNat 0))) (aOne (cVar 4) (aOne (cVar 4) aNil)))) aNil)) (aOne (cCon .non) (aOne (cCon (.int (.ofNat 0))) (aOne (cTup (aOne (cTup (aOne (cCon (.int (.ofNat 0))) (aOne (cLst (aOne (cCon (.str [102])) (aOne (cTup (aOne (cCon (.int (.ofNat 0))) aNil)) aNil))) aNil))) aNil)) (aOne (cTup (aOne (cTup (aOne (cTup (aOne (cCon (.int (.ofNat 0))) aNil)) (aOne (cVar 4) aNil))) aNil)) (aOne (cTup (aOne (cTup (aOne (cCon (.int (.ofNat 0))) (aOne (cCon .non) aNil))) aNil)) aNil))))))))))) (bCons (sAsg (gSlot 2) (cBin .add (cLst (sLc [5] (gSlot 5) (iSeq (cVar 0)) tYes (cCall C 25 (aOne (cVar 3) (aOne (cVar 5) aNil))))) (cLst (sLc [5] (gSlot 5) (iSeq (cVar 1)) tYes (cCall C 25 (aOne (cVar 3) (aOne (cVar 5) aNil))))))) (bCons (sRet (cCall C 44 (aOne (cVar 2) (aOne (cBin .add (cBin .mul (cLst (aOne (cCon (.bl true)) aNil)) (cCon (.int (.ofNat 4)))) (cBin .mul (cLst (aOne (cCon (.bl false)) aNil)) (cCon (.int (.ofNat 16))))) aNil)))) bNil)))))))
    exact (ess_cons (es_asg (ev_tup (ea_one (ev_call0 (ok 47 rfl) hr (by rfl) fx.g47 fx.F47.kp fx.B47 tk) (ea_one (ev_tup (ea_one (evs (cs := [97]) (by kernel_rfl)) (ea_one (ev_tup ea_nil) ea_nil))) ea_nil))) (eg_of (eg0_tup (n := 2) rfl (egs_cons (eg0_name (i := 3) sc49.nd rfl (by first | exact .inl rfl | exact .inr rfl)) (egs_cons (eg0_name (i := 4) sc49.nd rfl (by first | exact .inl rfl | exact .inr rfl)) egs_nil)))))
    (ess_cons (es_asg (ev_lst (ea_one (ev_tup ea_nil) (ea_one (ev_tup (ea_one (ev_tup (ea_one evi (ea_one evi ea_nil))) ea_nil)) (ea_one (ev_tup (ea_one (ev_tup (ea_one evi (ea_one (evv 4) ea_nil))) (ea_one (ev_tup (ea_one evi (ea_one evi ea_nil))) ea_nil))) (ea_one (ev_tup (ea_one (ev_tup (ea_one evi (ea_one (ev_tup (ea_one (evs (cs := [115]) (by kernel_rfl)) (ea_one (ev_tup (ea_one evi (ea_one evi (ea_one (ev_tup (ea_one (evs (cs := [115]) (by kernel_rfl)) (ea_one (ev_tup (ea_one evi (ea_one evi ea_nil))) ea_nil))) ea_nil)))) ea_nil))) ea_nil))) ea_nil)) ea_nil))))) (eg_of (eg0_name (i := 0) sc49.nd rfl (by first | exact .inl rfl | exact .inr rfl))))
    (ess_cons (es_asg (ev_lst (ea_one (ev_tup (ea_one (ev_tup (ea_one evi (ea_one evi ea_nil))) ea_nil)) (ea_one (ev_tup (ea_one (ev_tup (ea_one evi (ea_one (evv 4) ea_nil))) (ea_one (ev_tup (ea_one evi (ea_one (evv 4) ea_nil))) ea_nil))) (ea_one (ev_tup (ea_one (ev_tup (ea_one evi (ea_one (evv 4) ea_nil))) (ea_one (ev_tup (ea_one evi (ea_one evi ea_nil))) ea_nil))) (ea_one (ev_lst (ea_one (ev_tup (ea_one evi (ea_one (evv 4) ea_nil))) ea_nil)) (ea_one (ev_tup (ea_one (ev_lst (ea_one evi (ea_one (evv 4) ea_nil))) ea_nil)) (ea_one (ev_tup (ea_one (ev_tup (ea_one evi (ea_one (evv 4) ea_nil))) ea_nil)) (ea_one (ev_tup (ea_one (ev_tup (ea_one (ev_neg evi) (ea_one (evv 4) ea_nil))) ea_nil)) (ea_one (ev_tup (ea_one (ev_tup (ea_one evb (ea_one (evv 4) ea_nil))) ea_nil)) ea_nil))))))))) (eg_of (eg0_name (i := 1) sc49.nd rfl (by first | exact .inl rfl | exact .inr rfl))))
    (ess_cons (es_asg (ev_bin (op := .add) (evv 1) (ev_lst (ea_one (ev_tup (ea_one (ev_tup (ea_one evi (ea_one (ev_tup (ea_one (evs (cs := [115]) (by kernel_rfl)) (ea_one (ev_tup (ea_one evi ea_nil)) ea_nil))) ea_nil))) ea_nil)) (ea_one (ev_tup (ea_one (ev_tup (ea_one evi ea_nil)) ea_nil)) (ea_one (ev_tup (ea_one (ev_tup (ea_one evi (ea_one (evv 4) (ea_one (evv 4) ea_nil)))) ea_nil)) (ea_one evn (ea_one evi (ea_one (ev_tup (ea_one (ev_tup (ea_one evi (ea_one (ev_lst (ea_one (evs (cs := [102]) (by kernel_rfl)) (ea_one (ev_tup (ea_one evi ea_nil)) ea_nil))) ea_nil))) ea_nil)) (ea_one (ev_tup (ea_one (ev_tup (ea_one (ev_tup (ea_one evi ea_nil)) (ea_one (evv 4) ea_nil))) ea_nil)) (ea_one (ev_tup (ea_one (ev_tup (ea_one evi (ea_one evn ea_nil))) ea_nil)) ea_nil)))))))))) (eg_of (eg0_name (i := 1) sc49.nd rfl (by first | exact .inl rfl | exact .inr rfl))))
    (ess_cons (es_asg (ev_bin (op := .add) (ev_new (en_lc (own := [("own", 5)]) (vs := [5]) rfl sc49.nd (ei_val (evv 0)) (blkOk_by (by kernel_rfl)) rfl (fun _ _ _ _ _ => (egv_name (i := 5) sc49.nd rfl (by first | exact .inl rfl | exact .inr rfl) (by first | exact .inl rfl | exact .inr rfl) (by decide))) (fun _ _ _ _ _ => ets_nil) (fun _ _ _ _ _ => (ev_call (ok 25 rfl) hr (by rfl) fx.g25 fx.F25.kp fx.B25 tk_blk (ea_one (evv 3) (ea_one (evv 5) ea_nil)))))) (ev_new (en_lc (own := [("own", 5)]) (vs := [5]) rfl sc49.nd (ei_val (evv 1)) (blkOk_by (by kernel_rfl)) rfl (fun _ _ _ _ _ => (egv_name (i := 5) sc49.nd rfl (by first | exact .inl rfl | exact .inr rfl) (by first | exact .inl rfl | exact .inr rfl) (by decide))) (fun _ _ _ _ _ => ets_nil) (fun _ _ _ _ _ => (ev_call (ok 25 rfl) hr (by rfl) fx.g25 fx.F25.kp fx.B25 tk_blk (ea_one (evv 3) (ea_one (evv 5) ea_nil))))))) (eg_of (eg0_name (i := 2) sc49.nd rfl (by first | exact .inl rfl | exact .inr rfl))))
    (ess_cons (es_ret (ev_call (ok 44 rfl) hr (by rfl) fx.g44 fx.F44.kp fx.B44 tk (ea_one (evv 2) (ea_one (ev_bin (op := .add) (ev_bin (op := .mul) (ev_lst (ea_one evb ea_nil)) evi) (ev_bin (op := .mul) (ev_lst (ea_one evb ea_nil)) evi)) ea_nil))))
    ess_nil))))))
theorem fn50 (fx : Fx PM K mg G fa ca fd) (ok : AllOk PM w K mg base G fa fd n) : FnOk PM w K mg base (CX PM w) (2 * (n + 1)) (fa 50) (fd 50) ["door", "book", "answer", "term"] (SpF G K P (n + 1) 50) :=
  fn_succ (r := 2 * n + 1) fx.F50 sc50 (fn := ⟨4, 5, [], b50⟩) rfl rfl rfl (by decide) fun cdv A outer s H E hr1 => by
    have tk := @tk_cx PM w K mg base ["door", "book", "answer", "term", "caught"] "_law_try" (defScope s50) (fa 50) cdv A outer s H E
    have hr := hr1.mono (Nat.le_succ (2 * n))
    let C := callN P n
    show PSs _ _ (EvS G K (ZE K E) (bCons (sTry 5 (bCons (sIte (tCmp .eq (cVar 0) (cCon (.int (.ofNat 0)))) (bCons (sEx (cCall C 30 (aOne (cVar 1) (aOne (cVar 2) (aOne (cVar 3) aNil))))) bNil) (bCons (sIte (tCmp .eq (cVar 0) (cCon (.int (.ofNat 1)))) (bCons (sEx (cCall C 31 (aOne (cVar 1) (aOne (cVar 2) (aOne (cTup (aOne (cTup (aOne (cCon (.int (.ofNat 0))) (aOne (cVar 3) aNil))) aNil)) aNil))))) bNil) (bCons (sIte (tCmp .eq (cVar 0) (cCon (.int (.ofNat 2)))) (bCons (sEx (cCall C 33 (aOne (cVar 1) (aOne (cVar 2) (aOne (cTup (aOne (cTup (aOne (cCon (.int (.ofNat 0))) (aOne (cVar 3) aNil))) aNil)) aNil))))) bNil) (bCons (sIte (tCmp .eq (cVar 0) (cCon (.int (.ofNat 3)))) (bCons (sEx (cCall C 35 (aOne (cVar 1) (aOne (cTup (aOne (cTup (aOne (cVar 3) (aOne (cCon (.int (.ofNat 0))) aNil))) aNil)) (aOne (cVar 2) aNil))))) bNil) (bCons (sIte (tCmp .eq (cVar 0) (cCon (.int (.ofNat 4)))) (bCons (sEx (cCall C 33 (aOne (cVar 1) (aOne (cTup (aOne (cTup (aOne (cCon (.int (.ofNat 5))) (aOne (cVar 3) aNil))) aNil)) (aOne (cVar 2) aNil))))) bNil) (bCons (sEx (cCall C 36 (aOne (cVar 1) (aOne (cVar 2) (aOne (cTup (aOne (cTup (aOne (cCon (.int (.ofNat 5))) (aOne (cVar 3) aNil))) aNil)) (aOne (cTup aNil) aNil)))))) bNil)) bNil)) bNil)) bNil)) bNil)) bNil) (hOn 0 (some 4) (fun ws => (bCons (sRet (cCon (.bl true))) bNil)) hNil)) (bCons (sRet (cCon (.str [116, 111, 108, 100]))) bNil)))
    exact (ess_cons (es_try rfl rfl rfl sc50.nd tk (fun E pn xe tk hp => (ess_cons (es_if (et_cmp (op := .eq) hr.units (evv 0) evi (by rfl)) (ess_cons (es_expr (ev_call (ok 30 rfl) hr (by rfl) fx.g30 fx.F30.kp fx.B30 tk (ea_one (evv 1) (ea_one (evv 2) (ea_one (evv 3) ea_nil)))))
    ess_nil) (ess_cons (es_if (et_cmp (op := .eq) hr.units (evv 0) evi (by rfl)) (ess_cons (es_expr (ev_call (ok 31 rfl) hr (by rfl) fx.g31 fx.F31.kp fx.B31 tk (ea_one (evv 1) (ea_one (evv 2) (ea_one (ev_tup (ea_one (ev_tup (ea_one evi (ea_one (evv 3) ea_nil))) ea_nil)) ea_nil)))))
    ess_nil) (ess_cons (es_if (et_cmp (op := .eq) hr.units (evv 0) evi (by rfl)) (ess_cons (es_expr (ev_call (ok 33 rfl) hr (by rfl) fx.g33 fx.F33.kp fx.B33 tk (ea_one (evv 1) (ea_one (evv 2) (ea_one (ev_tup (ea_one (ev_tup (ea_one evi (ea_one (evv 3) ea_nil))) ea_nil)) ea_nil)))))
    ess_nil) (ess_cons (es_if (et_cmp (op := .eq) hr.units (evv 0) evi (by rfl)) (ess_cons (es_expr (ev_call (ok 35 rfl) hr (by rfl) fx.g35 fx.F35.kp fx.B35 tk (ea_one (evv 1) (ea_one (ev_tup (ea_one (ev_tup (ea_one (evv 3) (ea_one evi ea_nil))) ea_nil)) (ea_one (evv 2) ea_nil)))))
    ess_nil) (ess_cons (es_if (et_cmp (op := .eq) hr.units (evv 0) evi (by rfl)) (ess_cons (es_expr (ev_call (ok 33 rfl) hr (by rfl) fx.g33 fx.F33.kp fx.B33 tk (ea_one (evv 1) (ea_one (ev_tup (ea_one (ev_tup (ea_one evi (ea_one (evv 3) ea_nil))) ea_nil)) (ea_one (evv 2) ea_nil)))))
    ess_nil) (ess_cons (es_expr (ev_call (ok 36 rfl) hr (by rfl) fx.g36 fx.F36.kp fx.B36 tk (ea_one (evv 1) (ea_one (evv 2) (ea_one (ev_tup (ea_one (ev_tup (ea_one evi (ea_one (evv 3) ea_nil))) ea_nil)) (ea_one (ev_tup ea_nil) ea_nil))))))
    ess_nil))
    ess_nil))
    ess_nil))
    ess_nil))
    ess_nil))
    ess_nil)) (hd_cl fx.e0.toExK (fun ws a oe d pn hz hf => (phs_cons (ph_ret (ph_is1 (i := 4) fx.e0.is_ hz hf (by rfl) fx.b_isinstance rfl (by first | exact .inl rfl | exact .inr (.inl rfl) | exact .inr (.inr rfl)) (cty (X := Cx.suite _ _ _) fx.b_ValueError) ty_only fx.i0_ValueError)) ess_nil)) HdOk.nil))
    (ess_cons (es_ret (evs (cs := [116, 111, 108, 100]) (by kernel_rfl)))
    ess_nil))
theorem fn51 (fx : Fx PM K mg G fa ca fd) (ok : AllOk PM w K mg base G fa fd n) : FnOk PM w K mg base (CX PM w) (2 * (n + 1)) (fa 51) (fd 51) ["door", "book", "answer", "unknowns"] (SpF G K P (n + 1) 51) :=
  fn_succ (r := 2 * n + 1) fx.F51 sc51 (fn := ⟨4, 5, [], b51⟩) rfl rfl rfl (by decide) fun cdv A outer s H E hr1 => by
    have tk := @tk_cx PM w K mg base ["door", "book", "answer", "unknowns", "caught"] "_law_open" (defScope s51) (fa 51) cdv A outer s H E
    have hr := hr1.mono (Nat.le_succ (2 * n))
    let C := callN P n
    show PSs _ _ (EvS G K (ZE K E) (bCons (sTry 5 (bCons (sIte (tCmp .eq (cVar 0) (cCon (.int (.ofNat 0)))) (bCons (sEx (cCall C 34 (aOne (cVar 1) (aOne (cVar 2) (aOne (cVar 3) aNil))))) bNil) (bCons (sIte (tCmp .eq (cVar 0) (cCon (.int (.ofNat 1)))) (bCons (sEx (cCall C 37 (aOne (cVar 1) (aOne (cVar 2) (aOne (cVar 3) aNil))))) bNil) (bCons (sIte (tCmp .eq (cVar 0) (cCon (.int (.ofNat 2)))) (bCons (sEx (cCall C 36 (aOne (cVar 1) (aOne (cVar 2) (aOne (cVar 2) (aOne (cVar 3) aNil)))))) bNil) (bCons (sIte (tCmp .eq (cVar 0) (cCon (.int (.ofNat 3)))) (bCons (sEx (cCall C 39 (aOne (cVar 1) (aOne (cVar 2) (aOne (cVar 3) aNil))))) bNil) (bCons (sEx (cCall C 40 (aOne (cVar 1) (aOne (cVar 2) (aOne (cVar 3) aNil))))) bNil)) bNil)) bNil)) bNil)) bNil) (hOn 1 (some 4) (fun ws => (bCons (sRet (cLst (aOne (cCon (.str [99, 97, 110, 110, 111, 116])) (aOne (cCon (.bl true)) aNil)))) bNil)) (hOn 0 (some 4) (fun ws => (bCons (sRet (cCon (.bl true))) bNil)) hNil))) (bCons (sRet (cCon (.str [116, 111, 108, 100]))) bNil)))
    exact (ess_cons (es_try rfl rfl rfl sc51.nd tk (fun E pn xe tk hp => (ess_cons (es_if (et_cmp (op := .eq) hr.units (evv 0) evi (by rfl)) (ess_cons (es_expr (ev_call (ok 34 rfl) hr (by rfl) fx.g34 fx.F34.kp fx.B34 tk (ea_one (evv 1) (ea_one (evv 2) (ea_one (evv 3) ea_nil)))))
    ess_nil) (ess_cons (es_if (et_cmp (op := .eq) hr.units (evv 0) evi (by rfl)) (ess_cons (es_expr (ev_call (ok 37 rfl) hr (by rfl) fx.g37 fx.F37.kp fx.B37 tk (ea_one (evv 1) (ea_one (evv 2) (ea_one (evv 3) ea_nil)))))
    ess_nil) (ess_cons (es_if (et_cmp (op := .eq) hr.units (evv 0) evi (by rfl)) (ess_cons (es_expr (ev_call (ok 36 rfl) hr (by rfl) fx.g36 fx.F36.kp fx.B36 tk (ea_one (evv 1) (ea_one (evv 2) (ea_one (evv 2) (ea_one (evv 3) ea_nil))))))
    ess_nil) (ess_cons (es_if (et_cmp (op := .eq) hr.units (evv 0) evi (by rfl)) (ess_cons (es_expr (ev_call (ok 39 rfl) hr (by rfl) fx.g39 fx.F39.kp fx.B39 tk (ea_one (evv 1) (ea_one (evv 2) (ea_one (evv 3) ea_nil)))))
    ess_nil) (ess_cons (es_expr (ev_call (ok 40 rfl) hr (by rfl) fx.g40 fx.F40.kp fx.B40 tk (ea_one (evv 1) (ea_one (evv 2) (ea_one (evv 3) ea_nil)))))
    ess_nil))
    ess_nil))
    ess_nil))
    ess_nil))
    ess_nil)) (hd_cl fx.e1.toExK (fun ws a oe d pn hz hf => (phs_cons (ph_ret (ph_lst (pha_one (ph_e (evs (cs := [99, 97, 110, 110, 111, 116]) (by kernel_rfl))) (pha_one (ph_is1 (i := 4) fx.e1.is_ hz hf (by rfl) fx.b_isinstance rfl (by first | exact .inl rfl | exact .inr (.inl rfl) | exact .inr (.inr rfl)) (cty (X := Cx.suite _ _ _) fx.b_ValueError) ty_only fx.i1_ValueError) pha_nil)))) ess_nil)) (hd_cl fx.e0.toExK (fun ws a oe d pn hz hf => (phs_cons (ph_ret (ph_is1 (i := 4) fx.e0.is_ hz hf (by rfl) fx.b_isinstance rfl (by first | exact .inl rfl | exact .inr (.inl rfl) | exact .inr (.inr rfl)) (cty (X := Cx.suite _ _ _) fx.b_ValueError) ty_only fx.i0_ValueError)) ess_nil)) HdOk.nil)))
    (ess_cons (es_ret (evs (cs := [116, 111, 108, 100]) (by kernel_rfl)))
    ess_nil))
theorem fn52 (fx : Fx PM K mg G fa ca fd) (ok : AllOk PM w K mg base G fa fd n) : FnOk PM w K mg base (CX PM w) (2 * (n + 1)) (fa 52) (fd 52) [] (SpF G K P (n + 1) 52) :=
  fn_succ (r := 2 * n + 1) fx.F52 sc52 (fn := ⟨0, 5, [], b52⟩) rfl rfl rfl (by decide) fun cdv A outer s H E hr1 => by
    have tk := @tk_cx PM w K mg base ["door", "got", "book", "a", "own"] "_law_refused_right" (defScope s52) (fa 52) cdv A outer s H E
    have hr := hr1.mono (Nat.le_succ (2 * n))
    let C := callN P n
    show PSs _ _ (EvS G K (ZE K E) (bCons (sAsg (gTupN 3 (gCons (gSlot 2) (gCons (gSlot 3) (gCons (gSlot 1) gNil)))) (cTup (aOne (cCall C 47 aNil) (aOne (cTup (aOne (cCon (.str [97])) (aOne (cTup aNil) aNil))) (aOne (cLst aNil) aNil))))) (bCons (sFor (gSlot 0) (iRng1 (cCon (.int (.ofNat 6)))) (bCons (sAsg (gSlot 1) (cBin .add (cVar 1) (cLst (sLc [4] (gSlot 4) (iSeq (cTup (aOne (cCon .non) (aOne (cTup (aOne (cTup (aOne (cCon (.int (.ofNat 0))) (aOne (cCon (.int (.ofNat 0))) aNil))) aNil)) (aOne (cTup (aOne (cTup (aOne (cCon (.int (.ofNat 1))) (aOne (cVar 3) aNil))) (aOne (cTup (aOne (cCon (.int (.ofNat 0))) (aOne (cVar 3) aNil))) aNil))) (aOne (cTup (aOne (cTup (aOne (cCon (.int (.ofNat 0))) (aOne (cTup (aOne (cCon (.str [100])) (aOne (cTup aNil) aNil))) aNil))) aNil)) aNil)))))) tYes (cCall C 50 (aOne (cVar 0) (aOne (cVar 2) (aOne (cVar 4) (aOne (cVar 3) aNil))))))))) (bCons (sAsg (gSlot 1) (cBin .add (cBin .add (cVar 1) (cLst (sLc [4] (gSlot 4) (iSeq (cTup (aOne (cCon .non) (aOne (cTup (aOne (cCon (.str [115])) (aOne (cTup (aOne (cCon (.int (.ofNat 0))) aNil)) aNil))) (aOne (cCon (.int (.ofNat 100))) aNil))))) tYes (cCall C 50 (aOne (cVar 0) (aOne (cVar 2) (aOne (cTup aNil) (aOne (cVar 4) aNil)))))))) (cLst (sLc [4] (gSlot 4) (iSeq (cTup (aOne (cCon .non) (aOne (cTup aNil) (aOne (cRevA (cVar 2)) aNil))))) tYes (cCall C 50 (aOne (cVar 0) (aOne (cVar 4) (aOne (cTup aNil) (aOne (cVar 3) aNil))))))))) bNil))) (bCons (sFor (gSlot 0) (iRng1 (cCon (.int (.ofNat 5)))) (bCons (sAsg (gSlot 1) (cBin .add (cBin .add (cVar 1) (cLst (sLc [4] (gSlot 4) (iSeq (cTup (aOne (cCon .non) (aOne (cTup (aOne (cCon (.int (.ofNat 1))) (aOne (cCon (.int (.ofNat 0))) aNil))) (aOne (cTup (aOne (cCon (.int (.ofNat 0))) (aOne (cCon (.int (.ofNat 0))) aNil))) (aOne (cTup (aOne (cNeg (cCon (.int (.ofNat 1)))) aNil)) (aOne (cTup (aOne (cCon (.int (.ofNat 100))) aNil)) (aOne (cCon (.int (.ofNat 0))) (aOne (cTup (aOne (cCon (.bl true)) aNil)) aNil))))))))) tYes (cCall C 51 (aOne (cVar 0) (aOne (cVar 2) (aOne (cTup aNil) (aOne (cVar 4) aNil)))))))) (cLst (aOne (cCall C 51 (aOne (cVar 0) (aOne (cVar 2) (aOne (cTup (aOne (cTup (aOne (cCon (.int (.ofNat 0))) (aOne (cCon (.int (.ofNat 0))) aNil))) aNil)) (aOne (cTup (aOne (cCon (.int (.ofNat 0))) aNil)) aNil))))) (aOne (cCall C 51 (aOne (cVar 0) (aOne (cTup aNil) (aOne (cTup aNil) (aOne (cTup aNil) aNil))))) aNil))))) bNil)) (bCons (sAsg (gSlot 1) (cBin .add (cVar 1) (cLst (sLc [4] (gSlot 4) (iSeq (cTup (aOne (cTup (aOne (cTup (aOne (cCon (.int (.ofNat 0))) (aOne (cVar 3) aNil))) aNil)) (aOne (cTup (aOne (cTup (aOne (cCon (.int (.ofNat 0))) (aOne (cCon (.int (.ofNat 1))) aNil))) aNil)) (aOne (cTup (aOne (cTup (aOne (cCon (.int (.ofNat 1))) (aOne (cTup (aOne (cCon (.str [115])) (aOne (cTup (aOne (cCon (.int (.ofNat 0))) (aOne (cCon (.int (.ofNat 1))) aNil))) aNil))) aNil))) aNil)) (aOne (cTup (aOne (cTup (aOne (cCon (.int (.ofNat 0))) (aOne (cCon (.int (.ofNat 2))) aNil))) (aOne (cTup (aOne (cCon (.int (.ofNat 1))) (aOne (cCon (.int (.ofNat 2))) aNil))) aNil))) aNil)))))) tYes (cCall C 51 (aOne (cCon (.int (.ofNat 4))) (aOne (cVar 2) (aOne (cVar 4) (aOne (cTup (aOne (cCon (.int (.ofNat 0))) (aOne (cCon (.int (.ofNat 1))) aNil))) aNil))))))))) (bCons (sRet (cCall C 44 (aOne (cVar 1) (aOne (cBin .add (cBin .mul (cLst (aOne (cCon (.bl true)) aNil)) (cCon (.int (.ofNat 105)))) (cBin .mul (cLst (aOne (cLst (aOne (cCon (.str [99, 97, 110, 110, 111, 116])) (aOne (cCon (.bl true)) aNil))) aNil)) (cCon (.int (.ofNat 4))))) aNil)))) bNil))))))
    exact (ess_cons (es_asg (ev_tup (ea_one (ev_call0 (ok 47 rfl) hr (by rfl) fx.g47 fx.F47.kp fx.B47 tk) (ea_one (ev_tup (ea_one (evs (cs := [97]) (by kernel_rfl)) (ea_one (ev_tup ea_nil) ea_nil))) (ea_one (ev_lst ea_nil) ea_nil)))) (eg_of (eg0_tup (n := 3) rfl (egs_cons (eg0_name (i := 2) sc52.nd rfl (by first | exact .inl rfl | exact .inr rfl)) (egs_cons (eg0_name (i := 3) sc52.nd rfl (by first | exact .inl rfl | exact .inr rfl)) (egs_cons (eg0_name (i := 1) sc52.nd rfl (by first | exact .inl rfl | exact .inr rfl)) egs_nil))))))
    (ess_cons (es_for (passes_of rfl) rfl (ei_rng1 (by rfl) fx.b_range (ea_one evi ea_nil)) (eg_of (eg0_name (i := 0) sc52.nd rfl (by first | exact .inl rfl | exact .inr rfl))) (ess_cons (es_asg (ev_bin (op := .add) (evv 1) (ev_new (en_lc (own := [("own", 4)]) (vs := [4]) rfl sc52.nd (ei_val (ev_tup (ea_one evn (ea_one (ev_tup (ea_one (ev_tup (ea_one evi (ea_one evi ea_nil))) ea_nil)) (ea_one (ev_tup (ea_one (ev_tup (ea_one evi (ea_one (evv 3) ea_nil))) (ea_one (ev_tup (ea_one evi (ea_one (evv 3) ea_nil))) ea_nil))) (ea_one (ev_tup (ea_one (ev_tup (ea_one evi (ea_one (ev_tup (ea_one (evs (cs := [100]) (by kernel_rfl)) (ea_one (ev_tup ea_nil) ea_nil))) ea_nil))) ea_nil)) ea_nil)))))) (blkOk_by (by kernel_rfl)) rfl (fun _ _ _ _ _ => (egv_name (i := 4) sc52.nd rfl (by first | exact .inl rfl | exact .inr rfl) (by first | exact .inl rfl | exact .inr rfl) (by decide))) (fun _ _ _ _ _ => ets_nil) (fun _ _ _ _ _ => (ev_call (ok 50 rfl) hr (by rfl) fx.g50 fx.F50.kp fx.B50 tk_blk (ea_one (evv 0) (ea_one (evv 2) (ea_one (evv 4) (ea_one (evv 3) ea_nil))))))))) (eg_of (eg0_name (i := 1) sc52.nd rfl (by first | exact .inl rfl | exact .inr rfl))))
    (ess_cons (es_asg (ev_bin (op := .add) (ev_bin (op := .add) (evv 1) (ev_new (en_lc (own := [("own", 4)]) (vs := [4]) rfl sc52.nd (ei_val (ev_tup (ea_one evn (ea_one (ev_tup (ea_one (evs (cs := [115]) (by kernel_rfl)) (ea_one (ev_tup (ea_one evi ea_nil)) ea_nil))) (ea_one evi ea_nil))))) (blkOk_by (by kernel_rfl)) rfl (fun _ _ _ _ _ => (egv_name (i := 4) sc52.nd rfl (by first | exact .inl rfl | exact .inr rfl) (by first | exact .inl rfl | exact .inr rfl) (by decide))) (fun _ _ _ _ _ => ets_nil) (fun _ _ _ _ _ => (ev_call (ok 50 rfl) hr (by rfl) fx.g50 fx.F50.kp fx.B50 tk_blk (ea_one (evv 0) (ea_one (evv 2) (ea_one (ev_tup ea_nil) (ea_one (evv 4) ea_nil))))))))) (ev_new (en_lc (own := [("own", 4)]) (vs := [4]) rfl sc52.nd (ei_val (ev_tup (ea_one evn (ea_one (ev_tup ea_nil) (ea_one (ev_revA (evv 2)) ea_nil))))) (blkOk_by (by kernel_rfl)) rfl (fun _ _ _ _ _ => (egv_name (i := 4) sc52.nd rfl (by first | exact .inl rfl | exact .inr rfl) (by first | exact .inl rfl | exact .inr rfl) (by decide))) (fun _ _ _ _ _ => ets_nil) (fun _ _ _ _ _ => (ev_call (ok 50 rfl) hr (by rfl) fx.g50 fx.F50.kp fx.B50 tk_blk (ea_one (evv 0) (ea_one (evv 4) (ea_one (ev_tup ea_nil) (ea_one (evv 3) ea_nil))))))))) (eg_of (eg0_name (i := 1) sc52.nd rfl (by first | exact .inl rfl | exact .inr rfl))))
    ess_nil)))
    (ess_cons (es_for (passes_of rfl) rfl (ei_rng1 (by rfl) fx.b_range (ea_one evi ea_nil)) (eg_of (eg0_name (i := 0) sc52.nd rfl (by first | exact .inl rfl | exact .inr rfl))) (ess_cons (es_asg (ev_bin (op := .add) (ev_bin (op := .add) (evv 1) (ev_new (en_lc (own := [("own", 4)]) (vs := [4]) rfl sc52.nd (ei_val (ev_tup (ea_one evn (ea_one (ev_tup (ea_one evi (ea_one evi ea_nil))) (ea_one (ev_tup (ea_one evi (ea_one evi ea_nil))) (ea_one (ev_tup (ea_one (ev_neg evi) ea_nil)) (ea_one (ev_tup (ea_one evi ea_nil)) (ea_one evi (ea_one (ev_tup (ea_one evb ea_nil)) ea_nil))))))))) (blkOk_by (by kernel_rfl)) rfl (fun _ _ _ _ _ => (egv_name (i := 4) sc52.nd rfl (by first | exact .inl rfl | exact .inr rfl) (by first | exact .inl rfl | exact .inr rfl) (by decide))) (fun _ _ _ _ _ => ets_nil) (fun _ _ _ _ _ => (ev_call (ok 51 rfl) hr (by rfl) fx.g51 fx.F51.kp fx.B51 tk_blk (ea_one (evv 0) (ea_one (evv 2) (ea_one (ev_tup ea_nil) (ea_one (evv 4) ea_nil))))))))) (ev_lst (ea_one (ev_call (ok 51 rfl) hr (by rfl) fx.g51 fx.F51.kp fx.B51 tk (ea_one (evv 0) (ea_one (evv 2) (ea_one (ev_tup (ea_one (ev_tup (ea_one evi (ea_one evi ea_nil))) ea_nil)) (ea_one (ev_tup (ea_one evi ea_nil)) ea_nil))))) (ea_one (ev_call (ok 51 rfl) hr (by rfl) fx.g51 fx.F51.kp fx.B51 tk (ea_one (evv 0) (ea_one (ev_tup ea_nil) (ea_one (ev_tup ea_nil) (ea_one (ev_tup ea_nil) ea_nil))))) ea_nil)))) (eg_of (eg0_name (i := 1) sc52.nd rfl (by first | exact .inl rfl | exact .inr rfl))))
    ess_nil))
    (ess_cons (es_asg (ev_bin (op := .add) (evv 1) (ev_new (en_lc (own := [("own", 4)]) (vs := [4]) rfl sc52.nd (ei_val (ev_tup (ea_one (ev_tup (ea_one (ev_tup (ea_one evi (ea_one (evv 3) ea_nil))) ea_nil)) (ea_one (ev_tup (ea_one (ev_tup (ea_one evi (ea_one evi ea_nil))) ea_nil)) (ea_one (ev_tup (ea_one (ev_tup (ea_one evi (ea_one (ev_tup (ea_one (evs (cs := [115]) (by kernel_rfl)) (ea_one (ev_tup (ea_one evi (ea_one evi ea_nil))) ea_nil))) ea_nil))) ea_nil)) (ea_one (ev_tup (ea_one (ev_tup (ea_one evi (ea_one evi ea_nil))) (ea_one (ev_tup (ea_one evi (ea_one evi ea_nil))) ea_nil))) ea_nil)))))) (blkOk_by (by kernel_rfl)) rfl (fun _ _ _ _ _ => (egv_name (i := 4) sc52.nd rfl (by first | exact .inl rfl | exact .inr rfl) (by first | exact .inl rfl | exact .inr rfl) (by decide))) (fun _ _ _ _ _ => ets_nil) (fun _ _ _ _ _ => (ev_call (ok 51 rfl) hr (by rfl) fx.g51 fx.F51.kp fx.B51 tk_blk (ea_one evi (ea_one (evv 2) (ea_one (evv 4) (ea_one (ev_tup (ea_one evi (ea_one evi ea_nil))) ea_nil))))))))) (eg_of (eg0_name (i := 1) sc52.nd rfl (by first | exact .inl rfl | exact .inr rfl))))
    (ess_cons (es_ret (ev_call (ok 44 rfl) hr (by rfl) fx.g44 fx.F44.kp fx.B44 tk (ea_one (evv 1) (ea_one (ev_bin (op := .add) (ev_bin (op := .mul) (ev_lst (ea_one evb ea_nil)) evi) (ev_bin (op := .mul) (ev_lst (ea_one (ev_lst (ea_one (evs (cs := [99, 97, 110, 110, 111, 116]) (by kernel_rfl)) (ea_one evb ea_nil))) ea_nil)) evi)) ea_nil))))
    ess_nil)))))
theorem fn53 (fx : Fx PM K mg G fa ca fd) (ok : AllOk PM w K mg base G fa fd n) : FnOk PM w K mg base (CX PM w) (2 * (n + 1)) (fa 53) (fd 53) ["script"] (SpF G K P (n + 1) 53) :=
  fn_succ (r := 2 * n + 1) fx.F53 sc53 (fn := ⟨1, 4, [], b53 lawRest⟩) rfl rfl rfl (by decide) fun cdv A outer s H E hr1 => by
    have tk := @tk_cx PM w K mg base ["script", "urn", "part", "soft"] "law" (defScope s53) (fa 53) cdv A outer s H E
    have hr := hr1.mono (Nat.le_succ (2 * n))
    let C := callN P n
    show PSs _ _ (EvS G K (ZE K E) (bCons (sAsg (gSlot 1) (cCall C 41 (aOne (cCall C 43 (aOne (cVar 0) (aOne (cCon (.int (.ofNat 1))) aNil))) (aOne (cCon (.int (.ofNat 0))) aNil)))) (bCons (sPar [2, 3] (aOne (cCall C 42 (aOne (cVar 1) (aOne (cCon (.int (.ofNat 3))) aNil))) (aOne (cCmp .eq (cCall C 42 (aOne (cVar 1) (aOne (cCon (.int (.ofNat 2))) aNil))) (cCon (.int (.ofNat 0)))) aNil))) (bCons (sRet (cIte (tCmp .eq (cVar 2) (cCon (.int (.ofNat 0)))) (cCall C 48 (aOne (cVar 3) aNil)) (cIte (tCmp .eq (cVar 2) (cCon (.int (.ofNat 1)))) (cCall C 49 aNil) (cCall C 52 aNil)))) bNil))))
    exact (ess_cons (es_asg (ev_call (ok 41 rfl) hr (by rfl) fx.g41 fx.F41.kp fx.B41 tk (ea_one (ev_call (ok 43 rfl) hr (by rfl) fx.g43 fx.F43.kp fx.B43 tk (ea_one (evv 0) (ea_one evi ea_nil))) (ea_one evi ea_nil))) (eg_of (eg0_name (i := 1) sc53.nd rfl (by first | exact .inl rfl | exact .inr rfl))))
    (ess_cons (es_par2 rfl sc53.nd rfl rfl (by decide) rfl rfl (ea_one (ev_call (ok 42 rfl) hr (by rfl) fx.g42 fx.F42.kp fx.B42 tk (ea_one (evv 1) (ea_one evi ea_nil))) (ea_one (ev_cmp (op := .eq) hr.units (ev_call (ok 42 rfl) hr (by rfl) fx.g42 fx.F42.kp fx.B42 tk (ea_one (evv 1) (ea_one evi ea_nil))) evi (by rfl)) ea_nil)) (by rfl))
    (ess_cons (es_ret (ev_ite (et_cmp (op := .eq) hr.units (evv 2) evi (by rfl)) (ev_call (ok 48 rfl) hr (by rfl) fx.g48 fx.F48.kp fx.B48 tk (ea_one (evv 3) ea_nil)) (ev_ite (et_cmp (op := .eq) hr.units (evv 2) evi (by rfl)) (ev_call0 (ok 49 rfl) hr (by rfl) fx.g49 fx.F49.kp fx.B49 tk) (ev_call0 (ok 52 rfl) hr (by rfl) fx.g52 fx.F52.kp fx.B52 tk))))
    ess_nil)))
theorem all_succ (fx : Fx PM K mg G fa ca fd) (ok : AllOk PM w K mg base G fa fd n) : AllOk PM w K mg base G fa fd (n + 1) := fun i hi => by
  match i, hi with
  | 0, _ => exact fn0 fx ok
  | 1, _ => exact fn1 fx ok
  | 2, _ => exact fn2 fx ok
  | 3, _ => exact fn3 fx ok
  | 4, _ => exact fn4 fx ok
  | 5, _ => exact fn5 fx ok
  | 6, _ => exact fn6 fx ok
  | 7, _ => exact fn7 fx ok
  | 8, _ => exact fn8 fx ok
  | 9, _ => exact fn9 fx ok
  | 10, _ => exact fn10 fx ok
  | 11, _ => exact fn11 fx ok
  | 12, _ => exact fn12 fx ok
  | 13, _ => exact fn13 fx ok
  | 14, _ => exact fn14 fx ok
  | 15, _ => exact fn15 fx ok
  | 16, _ => exact fn16 fx ok
  | 17, _ => exact fn17 fx ok
  | 18, _ => exact fn18 fx ok
  | 19, _ => exact fn19 fx ok
  | 20, _ => exact fn20 fx ok
  | 21, _ => exact fn21 fx ok
  | 22, _ => exact fn22 fx ok
  | 23, _ => exact fn23 fx ok
  | 24, _ => exact fn24 fx ok
  | 25, _ => exact fn25 fx ok
  | 26, _ => exact fn26 fx ok
  | 27, _ => exact fn27 fx ok
  | 28, _ => exact fn28 fx ok
  | 29, _ => exact fn29 fx ok
  | 30, _ => exact fn30 fx ok
  | 31, _ => exact fn31 fx ok
  | 32, _ => exact fn32 fx ok
  | 33, _ => exact fn33 fx ok
  | 34, _ => exact fn34 fx ok
  | 35, _ => exact fn35 fx ok
  | 36, _ => exact fn36 fx ok
  | 37, _ => exact fn37 fx ok
  | 38, _ => exact fn38 fx ok
  | 39, _ => exact fn39 fx ok
  | 40, _ => exact fn40 fx ok
  | 41, _ => exact fn41 fx ok
  | 42, _ => exact fn42 fx ok
  | 43, _ => exact fn43 fx ok
  | 44, _ => exact fn44 fx ok
  | 45, _ => exact fn45 fx ok
  | 46, _ => exact fn46 fx ok
  | 47, _ => exact fn47 fx ok
  | 48, _ => exact fn48 fx ok
  | 49, _ => exact fn49 fx ok
  | 50, _ => exact fn50 fx ok
  | 51, _ => exact fn51 fx ok
  | 52, _ => exact fn52 fx ok
  | 53, _ => exact fn53 fx ok
  | i + 54, h => exact absurd (Nat.blt_eq.mp h) (by omega)
theorem all_ok (fx : Fx PM K mg G fa ca fd) : ∀ n, AllOk PM w K mg base G fa fd n
  | 0 => fun i _ => fn_zero
  | n + 1 => all_succ fx (all_ok fx n)
end
def cl : List Str := ["Unfit", "CanNot"]
def atL (n : Nat) : Str × Option Str := (bif Nat.blt n 27 then (bif Nat.blt n 13 then (bif Nat.blt n 6 then (bif Nat.blt n 3 then (bif Nat.blt n 1 then ("is_number", none) else (bif Nat.blt n 2 then ("is_below", none) else ("is_tuple_of", none))) else (bif Nat.blt n 4 then ("tuple_of", none) else (bif Nat.blt n 5 then ("sure", none) else ("is_number_set", none)))) else (bif Nat.blt n 9 then (bif Nat.blt n 7 then ("is_sign_name", none) else (bif Nat.blt n 8 then ("is_sign", none) else ("is_book", none))) else (bif Nat.blt n 11 then (bif Nat.blt n 10 then ("sure_book", none) else ("signs_of", none)) else (bif Nat.blt n 12 then ("parts_fit", none) else ("is_term_by", none))))) else (bif Nat.blt n 20 then (bif Nat.blt n 16 then (bif Nat.blt n 14 then ("sure_term", none) else (bif Nat.blt n 15 then ("sure_equations", none) else ("parts_in", none))) else (bif Nat.blt n 18 then (bif Nat.blt n 17 then ("words_in", none) else ("walked", none)) else (bif Nat.blt n 19 then ("unknowns_in", none) else ("key_of", none)))) else (bif Nat.blt n 23 then (bif Nat.blt n 21 then ("in_order", none) else (bif Nat.blt n 22 then ("flat_parts", none) else ("formed_by", none))) else (bif Nat.blt n 25 then (bif Nat.blt n 24 then ("bag_of", none) else ("is_answer_by", none)) else (bif Nat.blt n 26 then ("is_answer", none) else ("sure_answer", none)))))) else (bif Nat.blt n 41 then (bif Nat.blt n 34 then (bif Nat.blt n 30 then (bif Nat.blt n 28 then ("sure_unknowns", none) else (bif Nat.blt n 29 then ("put_told", none) else ("answer_of", none))) else (bif Nat.blt n 32 then (bif Nat.blt n 31 then ("put_in", none) else ("put_in_all", none)) else (bif Nat.blt n 33 then ("together", none) else ("put_together", none)))) else (bif Nat.blt n 37 then (bif Nat.blt n 35 then ("answer_kept", none) else (bif Nat.blt n 36 then ("does_solve", none) else ("do_alike", none))) else (bif Nat.blt n 39 then (bif Nat.blt n 38 then ("left_open", none) else ("is_exchange", none)) else (bif Nat.blt n 40 then ("is_renaming", none) else ("renaming_back", none))))) else (bif Nat.blt n 48 then (bif Nat.blt n 44 then (bif Nat.blt n 42 then ("_law_box", none) else (bif Nat.blt n 43 then ("_law_take", none) else ("_law_cells", none))) else (bif Nat.blt n 46 then (bif Nat.blt n 45 then ("_law_same", none) else ("_law_lists", none)) else (bif Nat.blt n 47 then ("_law_kind", none) else ("_law_book", none)))) else (bif Nat.blt n 51 then (bif Nat.blt n 49 then ("_law_told_right", none) else (bif Nat.blt n 50 then ("_law_near_right", none) else ("_law_try", none))) else (bif Nat.blt n 53 then (bif Nat.blt n 52 then ("_law_open", none) else ("_law_refused_right", none)) else (bif Nat.blt n 54 then ("law", none) else ("", none)))))))
def cnL (n : Nat) : Str := (bif Nat.blt n 1 then "Unfit" else (bif Nat.blt n 2 then "CanNot" else ""))
def ddL (n : Nat) : He.DefD := (bif Nat.blt n 27 then (bif Nat.blt n 13 then (bif Nat.blt n 6 then (bif Nat.blt n 3 then (bif Nat.blt n 1 then defd "is_number" s0 else (bif Nat.blt n 2 then defd "is_below" s1 else defd "is_tuple_of" s2)) else (bif Nat.blt n 4 then defd "tuple_of" s3 else (bif Nat.blt n 5 then defd "sure" s4 else defd "is_number_set" s5))) else (bif Nat.blt n 9 then (bif Nat.blt n 7 then defd "is_sign_name" s6 else (bif Nat.blt n 8 then defd "is_sign" s7 else defd "is_book" s8)) else (bif Nat.blt n 11 then (bif Nat.blt n 10 then defd "sure_book" s9 else defd "signs_of" s10) else (bif Nat.blt n 12 then defd "parts_fit" s11 else defd "is_term_by" s12)))) else (bif Nat.blt n 20 then (bif Nat.blt n 16 then (bif Nat.blt n 14 then defd "sure_term" s13 else (bif Nat.blt n 15 then defd "sure_equations" s14 else defd "parts_in" s15)) else (bif Nat.blt n 18 then (bif Nat.blt n 17 then defd "words_in" s16 else defd "walked" s17) else (bif Nat.blt n 19 then defd "unknowns_in" s18 else defd "key_of" s19))) else (bif Nat.blt n 23 then (bif Nat.blt n 21 then defd "in_order" s20 else (bif Nat.blt n 22 then defd "flat_parts" s21 else defd "formed_by" s22)) else (bif Nat.blt n 25 then (bif Nat.blt n 24 then defd "bag_of" s23 else defd "is_answer_by" s24) else (bif Nat.blt n 26 then defd "is_answer" s25 else defd "sure_answer" s26))))) else (bif Nat.blt n 41 then (bif Nat.blt n 34 then (bif Nat.blt n 30 then (bif Nat.blt n 28 then defd "sure_unknowns" s27 else (bif Nat.blt n 29 then defd "put_told" s28 else defd "answer_of" s29)) else (bif Nat.blt n 32 then (bif Nat.blt n 31 then defd "put_in" s30 else defd "put_in_all" s31) else (bif Nat.blt n 33 then defd "together" s32 else defd "put_together" s33))) else (bif Nat.blt n 37 then (bif Nat.blt n 35 then defd "answer_kept" s34 else (bif Nat.blt n 36 then defd "does_solve" s35 else defd "do_alike" s36)) else (bif Nat.blt n 39 then (bif Nat.blt n 38 then defd "left_open" s37 else defd "is_exchange" s38) else (bif Nat.blt n 40 then defd "is_renaming" s39 else defd "renaming_back" s40)))) else (bif Nat.blt n 48 then (bif Nat.blt n 44 then (bif Nat.blt n 42 then defd "_law_box" s41 else (bif Nat.blt n 43 then defd "_law_take" s42 else defd "_law_cells" s43)) else (bif Nat.blt n 46 then (bif Nat.blt n 45 then defd "_law_same" s44 else defd "_law_lists" s45) else (bif Nat.blt n 47 then defd "_law_kind" s46 else defd "_law_book" s47))) else (bif Nat.blt n 51 then (bif Nat.blt n 49 then defd "_law_told_right" s48 else (bif Nat.blt n 50 then defd "_law_near_right" s49 else defd "_law_try" s50)) else (bif Nat.blt n 53 then (bif Nat.blt n 52 then defd "_law_open" s51 else defd "_law_refused_right" s52) else (bif Nat.blt n 54 then defd "law" s53 else defd "" (.Pass ⟨0, 0, 0, 0⟩)))))))
def fnL : List He.DefD := [defd "is_number" s0, defd "is_below" s1, defd "is_tuple_of" s2, defd "tuple_of" s3, defd "sure" s4, defd "is_number_set" s5, defd "is_sign_name" s6, defd "is_sign" s7, defd "is_book" s8, defd "sure_book" s9, defd "signs_of" s10, defd "parts_fit" s11, defd "is_term_by" s12, defd "sure_term" s13, defd "sure_equations" s14, defd "parts_in" s15, defd "words_in" s16, defd "walked" s17, defd "unknowns_in" s18, defd "key_of" s19, defd "in_order" s20, defd "flat_parts" s21, defd "formed_by" s22, defd "bag_of" s23, defd "is_answer_by" s24, defd "is_answer" s25, defd "sure_answer" s26, defd "sure_unknowns" s27, defd "put_told" s28, defd "answer_of" s29, defd "put_in" s30, defd "put_in_all" s31, defd "together" s32, defd "put_together" s33, defd "answer_kept" s34, defd "does_solve" s35, defd "do_alike" s36, defd "left_open" s37, defd "is_exchange" s38, defd "is_renaming" s39, defd "renaming_back" s40, defd "_law_box" s41, defd "_law_take" s42, defd "_law_cells" s43, defd "_law_same" s44, defd "_law_lists" s45, defd "_law_kind" s46, defd "_law_book" s47, defd "_law_told_right" s48, defd "_law_near_right" s49, defd "_law_try" s50, defd "_law_open" s51, defd "_law_refused_right" s52, defd "law" s53]
abbrev RWL : PySem.W.OpenLaw := PySem.Challenge.rw_fewanswers_k09_answers_by_hand_and_refus
def su : Nm := ⟨[], [], []⟩
def fsL : List Fct := [emF cl, gloF "is_number", gloF "is_below", gloF "is_tuple_of", gloF "tuple_of", gloF "sure", gloF "is_number_set", gloF "is_sign_name", gloF "is_sign", gloF "is_book", gloF "sure_book", gloF "signs_of", gloF "parts_fit", gloF "is_term_by", gloF "sure_term", gloF "sure_equations", gloF "parts_in", gloF "words_in", gloF "walked", gloF "unknowns_in", gloF "key_of", gloF "in_order", gloF "flat_parts", gloF "formed_by", gloF "bag_of", gloF "is_answer_by", gloF "is_answer", gloF "sure_answer", gloF "sure_unknowns", gloF "put_told", gloF "answer_of", gloF "put_in", gloF "put_in_all", gloF "together", gloF "put_together", gloF "answer_kept", gloF "does_solve", gloF "do_alike", gloF "left_open", gloF "is_exchange", gloF "is_renaming", gloF "renaming_back", gloF "_law_box", gloF "_law_take", gloF "_law_cells", gloF "_law_same", gloF "_law_lists", gloF "_law_kind", gloF "_law_book", gloF "_law_told_right", gloF "_law_near_right", gloF "_law_try", gloF "_law_open", gloF "_law_refused_right", gloF "law", freeF "ValueError", freeF "abs", freeF "all", freeF "any", freeF "bool", freeF "dict", freeF "enumerate", freeF "int", freeF "isinstance", freeF "len", freeF "list", freeF "range", freeF "set", freeF "sorted", freeF "str", freeF "sum", freeF "tuple", freeF "zip", strF "BAG" (toS [98, 97, 103]), intF "MOST_NAME" 8, intF "MOST_PLAIN" 3, intF "MOST_SIGNS" 8, intF "MOST_UNKNOWN" 100, strF "PLAIN" (toS [112, 108, 97, 105, 110]), strF "SMALL" (toS [97, 98, 99, 100, 101, 102, 103, 104, 105, 106, 107, 108, 109, 110, 111, 112, 113, 114, 115, 116, 117, 118, 119, 120, 121, 122]), strF "SWAP" (toS [115, 119, 97, 112]), clsF [.type "ValueError", .type "Exception", .type "BaseException", .type "object"] "ValueError.__new__" "Unfit", clsF [.type "ValueError", .type "Exception", .type "BaseException", .type "object"] "ValueError.__new__" "CanNot", kitF "Unfit" (fun K => .type "ValueError") true, kitF "CanNot" (fun K => .type "ValueError") true]
def spL : List SupD := []
section
variable {K : PySem.W.Frag} {h : Heap} {mg : Str → Option Value}
theorem fx_of (X : K.In h) (N : h.Ns mainGlobals mg) (c : SaysF fsL fnL spL K) (ne : Nonempty FuncData) {o : Option Addr} (sk : ScrK (gm K cl su o) K) : Fx RWL.prog K mg (gm K cl su o) (fun n => He.fAd K (atL n)) (fun n => He.ga K (cnL n)) (fun n => fdOf K ne (ddL n)) := by
  have F0 : FnP K "is_number" "is_number" s0 (He.fAd K ("is_number", none)) (fdOf K ne (defd "is_number" s0)) := fdOf_ok (d := defd "is_number" s0) (c.def_ 0 rfl)
  have F1 : FnP K "is_below" "is_below" s1 (He.fAd K ("is_below", none)) (fdOf K ne (defd "is_below" s1)) := fdOf_ok (d := defd "is_below" s1) (c.def_ 1 rfl)
  have F2 : FnP K "is_tuple_of" "is_tuple_of" s2 (He.fAd K ("is_tuple_of", none)) (fdOf K ne (defd "is_tuple_of" s2)) := fdOf_ok (d := defd "is_tuple_of" s2) (c.def_ 2 rfl)
  have F3 : FnP K "tuple_of" "tuple_of" s3 (He.fAd K ("tuple_of", none)) (fdOf K ne (defd "tuple_of" s3)) := fdOf_ok (d := defd "tuple_of" s3) (c.def_ 3 rfl)
  have F4 : FnP K "sure" "sure" s4 (He.fAd K ("sure", none)) (fdOf K ne (defd "sure" s4)) := fdOf_ok (d := defd "sure" s4) (c.def_ 4 rfl)
  have F5 : FnP K "is_number_set" "is_number_set" s5 (He.fAd K ("is_number_set", none)) (fdOf K ne (defd "is_number_set" s5)) := fdOf_ok (d := defd "is_number_set" s5) (c.def_ 5 rfl)
  have F6 : FnP K "is_sign_name" "is_sign_name" s6 (He.fAd K ("is_sign_name", none)) (fdOf K ne (defd "is_sign_name" s6)) := fdOf_ok (d := defd "is_sign_name" s6) (c.def_ 6 rfl)
  have F7 : FnP K "is_sign" "is_sign" s7 (He.fAd K ("is_sign", none)) (fdOf K ne (defd "is_sign" s7)) := fdOf_ok (d := defd "is_sign" s7) (c.def_ 7 rfl)
  have F8 : FnP K "is_book" "is_book" s8 (He.fAd K ("is_book", none)) (fdOf K ne (defd "is_book" s8)) := fdOf_ok (d := defd "is_book" s8) (c.def_ 8 rfl)
  have F9 : FnP K "sure_book" "sure_book" s9 (He.fAd K ("sure_book", none)) (fdOf K ne (defd "sure_book" s9)) := fdOf_ok (d := defd "sure_book" s9) (c.def_ 9 rfl)
  have F10 : FnP K "signs_of" "signs_of" s10 (He.fAd K ("signs_of", none)) (fdOf K ne (defd "signs_of" s10)) := fdOf_ok (d := defd "signs_of" s10) (c.def_ 10 rfl)
  have F11 : FnP K "parts_fit" "parts_fit" s11 (He.fAd K ("parts_fit", none)) (fdOf K ne (defd "parts_fit" s11)) := fdOf_ok (d := defd "parts_fit" s11) (c.def_ 11 rfl)
  have F12 : FnP K "is_term_by" "is_term_by" s12 (He.fAd K ("is_term_by", none)) (fdOf K ne (defd "is_term_by" s12)) := fdOf_ok (d := defd "is_term_by" s12) (c.def_ 12 rfl)
  have F13 : FnP K "sure_term" "sure_term" s13 (He.fAd K ("sure_term", none)) (fdOf K ne (defd "sure_term" s13)) := fdOf_ok (d := defd "sure_term" s13) (c.def_ 13 rfl)
  have F14 : FnP K "sure_equations" "sure_equations" s14 (He.fAd K ("sure_equations", none)) (fdOf K ne (defd "sure_equations" s14)) := fdOf_ok (d := defd "sure_equations" s14) (c.def_ 14 rfl)
  have F15 : FnP K "parts_in" "parts_in" s15 (He.fAd K ("parts_in", none)) (fdOf K ne (defd "parts_in" s15)) := fdOf_ok (d := defd "parts_in" s15) (c.def_ 15 rfl)
  have F16 : FnP K "words_in" "words_in" s16 (He.fAd K ("words_in", none)) (fdOf K ne (defd "words_in" s16)) := fdOf_ok (d := defd "words_in" s16) (c.def_ 16 rfl)
  have F17 : FnP K "walked" "walked" s17 (He.fAd K ("walked", none)) (fdOf K ne (defd "walked" s17)) := fdOf_ok (d := defd "walked" s17) (c.def_ 17 rfl)
  have F18 : FnP K "unknowns_in" "unknowns_in" s18 (He.fAd K ("unknowns_in", none)) (fdOf K ne (defd "unknowns_in" s18)) := fdOf_ok (d := defd "unknowns_in" s18) (c.def_ 18 rfl)
  have F19 : FnP K "key_of" "key_of" s19 (He.fAd K ("key_of", none)) (fdOf K ne (defd "key_of" s19)) := fdOf_ok (d := defd "key_of" s19) (c.def_ 19 rfl)
  have F20 : FnP K "in_order" "in_order" s20 (He.fAd K ("in_order", none)) (fdOf K ne (defd "in_order" s20)) := fdOf_ok (d := defd "in_order" s20) (c.def_ 20 rfl)
  have F21 : FnP K "flat_parts" "flat_parts" s21 (He.fAd K ("flat_parts", none)) (fdOf K ne (defd "flat_parts" s21)) := fdOf_ok (d := defd "flat_parts" s21) (c.def_ 21 rfl)
  have F22 : FnP K "formed_by" "formed_by" s22 (He.fAd K ("formed_by", none)) (fdOf K ne (defd "formed_by" s22)) := fdOf_ok (d := defd "formed_by" s22) (c.def_ 22 rfl)
  have F23 : FnP K "bag_of" "bag_of" s23 (He.fAd K ("bag_of", none)) (fdOf K ne (defd "bag_of" s23)) := fdOf_ok (d := defd "bag_of" s23) (c.def_ 23 rfl)
  have F24 : FnP K "is_answer_by" "is_answer_by" s24 (He.fAd K ("is_answer_by", none)) (fdOf K ne (defd "is_answer_by" s24)) := fdOf_ok (d := defd "is_answer_by" s24) (c.def_ 24 rfl)
  have F25 : FnP K "is_answer" "is_answer" s25 (He.fAd K ("is_answer", none)) (fdOf K ne (defd "is_answer" s25)) := fdOf_ok (d := defd "is_answer" s25) (c.def_ 25 rfl)
  have F26 : FnP K "sure_answer" "sure_answer" s26 (He.fAd K ("sure_answer", none)) (fdOf K ne (defd "sure_answer" s26)) := fdOf_ok (d := defd "sure_answer" s26) (c.def_ 26 rfl)
  have F27 : FnP K "sure_unknowns" "sure_unknowns" s27 (He.fAd K ("sure_unknowns", none)) (fdOf K ne (defd "sure_unknowns" s27)) := fdOf_ok (d := defd "sure_unknowns" s27) (c.def_ 27 rfl)
  have F28 : FnP K "put_told" "put_told" s28 (He.fAd K ("put_told", none)) (fdOf K ne (defd "put_told" s28)) := fdOf_ok (d := defd "put_told" s28) (c.def_ 28 rfl)
  have F29 : FnP K "answer_of" "answer_of" s29 (He.fAd K ("answer_of", none)) (fdOf K ne (defd "answer_of" s29)) := fdOf_ok (d := defd "answer_of" s29) (c.def_ 29 rfl)
  have F30 : FnP K "put_in" "put_in" s30 (He.fAd K ("put_in", none)) (fdOf K ne (defd "put_in" s30)) := fdOf_ok (d := defd "put_in" s30) (c.def_ 30 rfl)
  have F31 : FnP K "put_in_all" "put_in_all" s31 (He.fAd K ("put_in_all", none)) (fdOf K ne (defd "put_in_all" s31)) := fdOf_ok (d := defd "put_in_all" s31) (c.def_ 31 rfl)
  have F32 : FnP K "together" "together" s32 (He.fAd K ("together", none)) (fdOf K ne (defd "together" s32)) := fdOf_ok (d := defd "together" s32) (c.def_ 32 rfl)
  have F33 : FnP K "put_together" "put_together" s33 (He.fAd K ("put_together", none)) (fdOf K ne (defd "put_together" s33)) := fdOf_ok (d := defd "put_together" s33) (c.def_ 33 rfl)
  have F34 : FnP K "answer_kept" "answer_kept" s34 (He.fAd K ("answer_kept", none)) (fdOf K ne (defd "answer_kept" s34)) := fdOf_ok (d := defd "answer_kept" s34) (c.def_ 34 rfl)
  have F35 : FnP K "does_solve" "does_solve" s35 (He.fAd K ("does_solve", none)) (fdOf K ne (defd "does_solve" s35)) := fdOf_ok (d := defd "does_solve" s35) (c.def_ 35 rfl)
  have F36 : FnP K "do_alike" "do_alike" s36 (He.fAd K ("do_alike", none)) (fdOf K ne (defd "do_alike" s36)) := fdOf_ok (d := defd "do_alike" s36) (c.def_ 36 rfl)
  have F37 : FnP K "left_open" "left_open" s37 (He.fAd K ("left_open", none)) (fdOf K ne (defd "left_open" s37)) := fdOf_ok (d := defd "left_open" s37) (c.def_ 37 rfl)
  have F38 : FnP K "is_exchange" "is_exchange" s38 (He.fAd K ("is_exchange", none)) (fdOf K ne (defd "is_exchange" s38)) := fdOf_ok (d := defd "is_exchange" s38) (c.def_ 38 rfl)
  have F39 : FnP K "is_renaming" "is_renaming" s39 (He.fAd K ("is_renaming", none)) (fdOf K ne (defd "is_renaming" s39)) := fdOf_ok (d := defd "is_renaming" s39) (c.def_ 39 rfl)
  have F40 : FnP K "renaming_back" "renaming_back" s40 (He.fAd K ("renaming_back", none)) (fdOf K ne (defd "renaming_back" s40)) := fdOf_ok (d := defd "renaming_back" s40) (c.def_ 40 rfl)
  have F41 : FnP K "_law_box" "_law_box" s41 (He.fAd K ("_law_box", none)) (fdOf K ne (defd "_law_box" s41)) := fdOf_ok (d := defd "_law_box" s41) (c.def_ 41 rfl)
  have F42 : FnP K "_law_take" "_law_take" s42 (He.fAd K ("_law_take", none)) (fdOf K ne (defd "_law_take" s42)) := fdOf_ok (d := defd "_law_take" s42) (c.def_ 42 rfl)
  have F43 : FnP K "_law_cells" "_law_cells" s43 (He.fAd K ("_law_cells", none)) (fdOf K ne (defd "_law_cells" s43)) := fdOf_ok (d := defd "_law_cells" s43) (c.def_ 43 rfl)
  have F44 : FnP K "_law_same" "_law_same" s44 (He.fAd K ("_law_same", none)) (fdOf K ne (defd "_law_same" s44)) := fdOf_ok (d := defd "_law_same" s44) (c.def_ 44 rfl)
  have F45 : FnP K "_law_lists" "_law_lists" s45 (He.fAd K ("_law_lists", none)) (fdOf K ne (defd "_law_lists" s45)) := fdOf_ok (d := defd "_law_lists" s45) (c.def_ 45 rfl)
  have F46 : FnP K "_law_kind" "_law_kind" s46 (He.fAd K ("_law_kind", none)) (fdOf K ne (defd "_law_kind" s46)) := fdOf_ok (d := defd "_law_kind" s46) (c.def_ 46 rfl)
  have F47 : FnP K "_law_book" "_law_book" s47 (He.fAd K ("_law_book", none)) (fdOf K ne (defd "_law_book" s47)) := fdOf_ok (d := defd "_law_book" s47) (c.def_ 47 rfl)
  have F48 : FnP K "_law_told_right" "_law_told_right" s48 (He.fAd K ("_law_told_right", none)) (fdOf K ne (defd "_law_told_right" s48)) := fdOf_ok (d := defd "_law_told_right" s48) (c.def_ 48 rfl)
  have F49 : FnP K "_law_near_right" "_law_near_right" s49 (He.fAd K ("_law_near_right", none)) (fdOf K ne (defd "_law_near_right" s49)) := fdOf_ok (d := defd "_law_near_right" s49) (c.def_ 49 rfl)
  have F50 : FnP K "_law_try" "_law_try" s50 (He.fAd K ("_law_try", none)) (fdOf K ne (defd "_law_try" s50)) := fdOf_ok (d := defd "_law_try" s50) (c.def_ 50 rfl)
  have F51 : FnP K "_law_open" "_law_open" s51 (He.fAd K ("_law_open", none)) (fdOf K ne (defd "_law_open" s51)) := fdOf_ok (d := defd "_law_open" s51) (c.def_ 51 rfl)
  have F52 : FnP K "_law_refused_right" "_law_refused_right" s52 (He.fAd K ("_law_refused_right", none)) (fdOf K ne (defd "_law_refused_right" s52)) := fdOf_ok (d := defd "_law_refused_right" s52) (c.def_ 52 rfl)
  have F53 : FnP K "law" "law" s53 (He.fAd K ("law", none)) (fdOf K ne (defd "law" s53)) := fdOf_ok (d := defd "law" s53) (c.def_ 53 rfl)
  exact {
    sk := sk
    g0 := He.glo_ok X N (c.fact 1 rfl)
    F0 := F0
    B0 := FunD.bindsN F0 fun _ _ _ _ _ _ us hl => match us, hl with | [_], _ => rfl
    g1 := He.glo_ok X N (c.fact 2 rfl)
    F1 := F1
    B1 := FunD.bindsN F1 fun _ _ _ _ _ _ us hl => match us, hl with | [_, _], _ => rfl
    g2 := He.glo_ok X N (c.fact 3 rfl)
    F2 := F2
    B2 := FunD.bindsN F2 fun _ _ _ _ _ _ us hl => match us, hl with | [_, _], _ => rfl
    g3 := He.glo_ok X N (c.fact 4 rfl)
    F3 := F3
    B3 := FunD.bindsN F3 fun _ _ _ _ _ _ us hl => match us, hl with | [_], _ => rfl
    g4 := He.glo_ok X N (c.fact 5 rfl)
    F4 := F4
    B4 := FunD.bindsN F4 fun _ _ _ _ _ _ us hl => match us, hl with | [_], _ => rfl
    g5 := He.glo_ok X N (c.fact 6 rfl)
    F5 := F5
    B5 := FunD.bindsN F5 fun _ _ _ _ _ _ us hl => match us, hl with | [_, _], _ => rfl
    g6 := He.glo_ok X N (c.fact 7 rfl)
    F6 := F6
    B6 := FunD.bindsN F6 fun _ _ _ _ _ _ us hl => match us, hl with | [_], _ => rfl
    g7 := He.glo_ok X N (c.fact 8 rfl)
    F7 := F7
    B7 := FunD.bindsN F7 fun _ _ _ _ _ _ us hl => match us, hl with | [_], _ => rfl
    g8 := He.glo_ok X N (c.fact 9 rfl)
    F8 := F8
    B8 := FunD.bindsN F8 fun _ _ _ _ _ _ us hl => match us, hl with | [_], _ => rfl
    g9 := He.glo_ok X N (c.fact 10 rfl)
    F9 := F9
    B9 := FunD.bindsN F9 fun _ _ _ _ _ _ us hl => match us, hl with | [_], _ => rfl
    g10 := He.glo_ok X N (c.fact 11 rfl)
    F10 := F10
    B10 := FunD.bindsN F10 fun _ _ _ _ _ _ us hl => match us, hl with | [_], _ => rfl
    g11 := He.glo_ok X N (c.fact 12 rfl)
    F11 := F11
    B11 := FunD.bindsN F11 fun _ _ _ _ _ _ us hl => match us, hl with | [_, _], _ => rfl
    g12 := He.glo_ok X N (c.fact 13 rfl)
    F12 := F12
    B12 := FunD.bindsN F12 fun _ _ _ _ _ _ us hl => match us, hl with | [_, _], _ => rfl
    g13 := He.glo_ok X N (c.fact 14 rfl)
    F13 := F13
    B13 := FunD.bindsN F13 fun _ _ _ _ _ _ us hl => match us, hl with | [_, _], _ => rfl
    g14 := He.glo_ok X N (c.fact 15 rfl)
    F14 := F14
    B14 := FunD.bindsN F14 fun _ _ _ _ _ _ us hl => match us, hl with | [_, _], _ => rfl
    g15 := He.glo_ok X N (c.fact 16 rfl)
    F15 := F15
    B15 := FunD.bindsN F15 fun _ _ _ _ _ _ us hl => match us, hl with | [_], _ => rfl
    g16 := He.glo_ok X N (c.fact 17 rfl)
    F16 := F16
    B16 := FunD.bindsN F16 fun _ _ _ _ _ _ us hl => match us, hl with | [_, _], _ => rfl
    g17 := He.glo_ok X N (c.fact 18 rfl)
    F17 := F17
    B17 := FunD.bindsN F17 fun _ _ _ _ _ _ us hl => match us, hl with | [_], _ => rfl
    g18 := He.glo_ok X N (c.fact 19 rfl)
    F18 := F18
    B18 := FunD.bindsN F18 fun _ _ _ _ _ _ us hl => match us, hl with | [_], _ => rfl
    g19 := He.glo_ok X N (c.fact 20 rfl)
    F19 := F19
    B19 := FunD.bindsN F19 fun _ _ _ _ _ _ us hl => match us, hl with | [_, _], _ => rfl
    g20 := He.glo_ok X N (c.fact 21 rfl)
    F20 := F20
    B20 := FunD.bindsN F20 fun _ _ _ _ _ _ us hl => match us, hl with | [_, _], _ => rfl
    g21 := He.glo_ok X N (c.fact 22 rfl)
    F21 := F21
    B21 := FunD.bindsN F21 fun _ _ _ _ _ _ us hl => match us, hl with | [_, _], _ => rfl
    g22 := He.glo_ok X N (c.fact 23 rfl)
    F22 := F22
    B22 := FunD.bindsN F22 fun _ _ _ _ _ _ us hl => match us, hl with | [_, _], _ => rfl
    g23 := He.glo_ok X N (c.fact 24 rfl)
    F23 := F23
    B23 := FunD.bindsN F23 fun _ _ _ _ _ _ us hl => match us, hl with | [_, _, _], _ => rfl
    g24 := He.glo_ok X N (c.fact 25 rfl)
    F24 := F24
    B24 := FunD.bindsN F24 fun _ _ _ _ _ _ us hl => match us, hl with | [_, _], _ => rfl
    g25 := He.glo_ok X N (c.fact 26 rfl)
    F25 := F25
    B25 := FunD.bindsN F25 fun _ _ _ _ _ _ us hl => match us, hl with | [_, _], _ => rfl
    g26 := He.glo_ok X N (c.fact 27 rfl)
    F26 := F26
    B26 := FunD.bindsN F26 fun _ _ _ _ _ _ us hl => match us, hl with | [_, _], _ => rfl
    g27 := He.glo_ok X N (c.fact 28 rfl)
    F27 := F27
    B27 := FunD.bindsN F27 fun _ _ _ _ _ _ us hl => match us, hl with | [_], _ => rfl
    g28 := He.glo_ok X N (c.fact 29 rfl)
    F28 := F28
    B28 := FunD.bindsN F28 fun _ _ _ _ _ _ us hl => match us, hl with | [_, _, _], _ => rfl
    g29 := He.glo_ok X N (c.fact 30 rfl)
    F29 := F29
    B29 := FunD.bindsN F29 fun _ _ _ _ _ _ us hl => match us, hl with | [_, _], _ => rfl
    g30 := He.glo_ok X N (c.fact 31 rfl)
    F30 := F30
    B30 := FunD.bindsN F30 fun _ _ _ _ _ _ us hl => match us, hl with | [_, _, _], _ => rfl
    g31 := He.glo_ok X N (c.fact 32 rfl)
    F31 := F31
    B31 := FunD.bindsN F31 fun _ _ _ _ _ _ us hl => match us, hl with | [_, _, _], _ => rfl
    g32 := He.glo_ok X N (c.fact 33 rfl)
    F32 := F32
    B32 := FunD.bindsN F32 fun _ _ _ _ _ _ us hl => match us, hl with | [_, _, _], _ => rfl
    g33 := He.glo_ok X N (c.fact 34 rfl)
    F33 := F33
    B33 := FunD.bindsN F33 fun _ _ _ _ _ _ us hl => match us, hl with | [_, _, _], _ => rfl
    g34 := He.glo_ok X N (c.fact 35 rfl)
    F34 := F34
    B34 := FunD.bindsN F34 fun _ _ _ _ _ _ us hl => match us, hl with | [_, _, _], _ => rfl
    g35 := He.glo_ok X N (c.fact 36 rfl)
    F35 := F35
    B35 := FunD.bindsN F35 fun _ _ _ _ _ _ us hl => match us, hl with | [_, _, _], _ => rfl
    g36 := He.glo_ok X N (c.fact 37 rfl)
    F36 := F36
    B36 := FunD.bindsN F36 fun _ _ _ _ _ _ us hl => match us, hl with | [_, _, _, _], _ => rfl
    g37 := He.glo_ok X N (c.fact 38 rfl)
    F37 := F37
    B37 := FunD.bindsN F37 fun _ _ _ _ _ _ us hl => match us, hl with | [_, _, _], _ => rfl
    g38 := He.glo_ok X N (c.fact 39 rfl)
    F38 := F38
    B38 := FunD.bindsN F38 fun _ _ _ _ _ _ us hl => match us, hl with | [_], _ => rfl
    g39 := He.glo_ok X N (c.fact 40 rfl)
    F39 := F39
    B39 := FunD.bindsN F39 fun _ _ _ _ _ _ us hl => match us, hl with | [_, _, _], _ => rfl
    g40 := He.glo_ok X N (c.fact 41 rfl)
    F40 := F40
    B40 := FunD.bindsN F40 fun _ _ _ _ _ _ us hl => match us, hl with | [_, _, _], _ => rfl
    g41 := He.glo_ok X N (c.fact 42 rfl)
    F41 := F41
    B41 := FunD.bindsN F41 fun _ _ _ _ _ _ us hl => match us, hl with | [_, _], _ => rfl
    g42 := He.glo_ok X N (c.fact 43 rfl)
    F42 := F42
    B42 := FunD.bindsN F42 fun _ _ _ _ _ _ us hl => match us, hl with | [_, _], _ => rfl
    g43 := He.glo_ok X N (c.fact 44 rfl)
    F43 := F43
    B43 := FunD.bindsN F43 fun _ _ _ _ _ _ us hl => match us, hl with | [_, _], _ => rfl
    g44 := He.glo_ok X N (c.fact 45 rfl)
    F44 := F44
    B44 := FunD.bindsN F44 fun _ _ _ _ _ _ us hl => match us, hl with | [_, _], _ => rfl
    g45 := He.glo_ok X N (c.fact 46 rfl)
    F45 := F45
    B45 := FunD.bindsN F45 fun _ _ _ _ _ _ us hl => match us, hl with | [_], _ => rfl
    g46 := He.glo_ok X N (c.fact 47 rfl)
    F46 := F46
    B46 := FunD.bindsN F46 fun _ _ _ _ _ _ us hl => match us, hl with | [_], _ => rfl
    g47 := He.glo_ok X N (c.fact 48 rfl)
    F47 := F47
    B47 := FunD.bindsN F47 fun _ _ _ _ _ _ us hl => match us, hl with | [], _ => rfl
    g48 := He.glo_ok X N (c.fact 49 rfl)
    F48 := F48
    B48 := FunD.bindsN F48 fun _ _ _ _ _ _ us hl => match us, hl with | [_], _ => rfl
    g49 := He.glo_ok X N (c.fact 50 rfl)
    F49 := F49
    B49 := FunD.bindsN F49 fun _ _ _ _ _ _ us hl => match us, hl with | [], _ => rfl
    g50 := He.glo_ok X N (c.fact 51 rfl)
    F50 := F50
    B50 := FunD.bindsN F50 fun _ _ _ _ _ _ us hl => match us, hl with | [_, _, _, _], _ => rfl
    g51 := He.glo_ok X N (c.fact 52 rfl)
    F51 := F51
    B51 := FunD.bindsN F51 fun _ _ _ _ _ _ us hl => match us, hl with | [_, _, _, _], _ => rfl
    g52 := He.glo_ok X N (c.fact 53 rfl)
    F52 := F52
    B52 := FunD.bindsN F52 fun _ _ _ _ _ _ us hl => match us, hl with | [], _ => rfl
    g53 := He.glo_ok X N (c.fact 54 rfl)
    F53 := F53
    B53 := FunD.bindsN F53 fun _ _ _ _ _ _ us hl => match us, hl with | [_], _ => rfl
    b_ValueError := He.free_ok X N (c.fact 55 rfl)
    b_abs := He.free_ok X N (c.fact 56 rfl)
    b_all := He.free_ok X N (c.fact 57 rfl)
    b_any := He.free_ok X N (c.fact 58 rfl)
    b_bool := He.free_ok X N (c.fact 59 rfl)
    b_dict := He.free_ok X N (c.fact 60 rfl)
    b_enumerate := He.free_ok X N (c.fact 61 rfl)
    b_int := He.free_ok X N (c.fact 62 rfl)
    b_isinstance := He.free_ok X N (c.fact 63 rfl)
    b_len := He.free_ok X N (c.fact 64 rfl)
    b_list := He.free_ok X N (c.fact 65 rfl)
    b_range := He.free_ok X N (c.fact 66 rfl)
    b_set := He.free_ok X N (c.fact 67 rfl)
    b_sorted := He.free_ok X N (c.fact 68 rfl)
    b_str := He.free_ok X N (c.fact 69 rfl)
    b_sum := He.free_ok X N (c.fact 70 rfl)
    b_tuple := He.free_ok X N (c.fact 71 rfl)
    b_zip := He.free_ok X N (c.fact 72 rfl)
    c_BAG := He.str_ok X N (c.fact 73 rfl)
    c_MOST_NAME := He.int_ok X N (c.fact 74 rfl)
    c_MOST_PLAIN := He.int_ok X N (c.fact 75 rfl)
    c_MOST_SIGNS := He.int_ok X N (c.fact 76 rfl)
    c_MOST_UNKNOWN := He.int_ok X N (c.fact 77 rfl)
    c_PLAIN := He.str_ok X N (c.fact 78 rfl)
    c_SMALL := He.str_ok X N (c.fact 79 rfl)
    c_SWAP := He.str_ok X N (c.fact 80 rfl)
    e0 := ex0_of X N PySem.F.excBase_ValueError rfl (c.fact 81 rfl) (c.fact 0 rfl)
    e1 := ex0_of X N PySem.F.excBase_ValueError rfl (c.fact 82 rfl) (c.fact 0 rfl)
    i0_ValueError := kit_ok (c.fact 83 rfl)
    i1_ValueError := kit_ok (c.fact 84 rfl)
    k30_0_term_answer_book := kb_of F30 [2, 1, 0] fun kV doc pm an cdv ct us ws h1 h2 => match us, ws, h1, h2 with | [], [a, b, c], _, _ => by kernel_rfl
    k31_0_equations_answer_book := kb_of F31 [2, 1, 0] fun kV doc pm an cdv ct us ws h1 h2 => match us, ws, h1, h2 with | [], [a, b, c], _, _ => by kernel_rfl
    k33_0_other_one_book := kb_of F33 [2, 1, 0] fun kV doc pm an cdv ct us ws h1 h2 => match us, ws, h1, h2 with | [], [a, b, c], _, _ => by kernel_rfl
    k34_0_unknowns_answer_book := kb_of F34 [2, 1, 0] fun kV doc pm an cdv ct us ws h1 h2 => match us, ws, h1, h2 with | [], [a, b, c], _, _ => by kernel_rfl
    k35_0_equations_answer_book := kb_of F35 [2, 0, 1] fun kV doc pm an cdv ct us ws h1 h2 => match us, ws, h1, h2 with | [], [a, b, c], _, _ => by kernel_rfl
    k40_0_unknowns_book_answer := kb_of F40 [1, 2, 0] fun kV doc pm an cdv ct us ws h1 h2 => match us, ws, h1, h2 with | [], [a, b, c], _, _ => by kernel_rfl
  }
end
def loose : List Str := (["__name__", "Unfit", "CanNot", "is_number", "is_below", "is_tuple_of", "tuple_of", "sure", "is_number_set", "PLAIN", "SWAP", "BAG", "MOST_SIGNS", "MOST_NAME", "MOST_PLAIN", "MOST_UNKNOWN", "SMALL", "is_sign_name", "is_sign", "is_book", "sure_book", "signs_of", "parts_fit", "is_term_by", "sure_term", "sure_equations", "parts_in", "words_in", "walked", "unknowns_in"] : List Str) ++ (["key_of", "in_order", "flat_parts", "formed_by", "bag_of", "is_answer_by", "is_answer", "sure_answer", "sure_unknowns", "put_told", "answer_of", "put_in", "put_in_all", "together", "put_together", "answer_kept", "does_solve", "do_alike", "left_open", "is_exchange", "is_renaming", "renaming_back", "_law_box", "_law_take", "_law_cells", "_law_same", "_law_lists", "_law_kind", "_law_book", "_law_told_right"] : List Str) ++ (["_law_near_right", "_law_try", "_law_open", "_law_refused_right"] : List Str)
abbrev hk : PySem.W.Hook := hookF 5 fsL fnL spL
def ob (s : PySem.W.SharedT) : AlF := obsFG 5 fsL fnL spL (HandSHeadRun.getT s)
theorem ob_eq (s : PySem.W.SharedT) : ob s = hk.obs s.abs := obsFG_eq (HandSHeadRun.getT_eq s)
theorem run (w : World) : HandSHeadRun.RunEq (PySem.W.OpenLaw.row RWL) (PySem.W.view (PySem.W.OpenLaw.row RWL).prog [69]) hk ob 2800 loose w := by
  intro os
  kernel_rfl
/-- where the law stands once its numbers are drawn -/
noncomputable abbrev at_ (R : CallT → Stm) (w0 : FE.W) (v0 : Option O) (i j : Nat) : B := R (callN (PR R) 114) [some w0, some (.ob 2), some (.int (.ofNat i)), some (.bl (Nat.beq j 0))] ⟨3, .node v0 (.node (some .cells) .nil .nil) (.node (some (.urn 2)) .nil .nil)⟩ (fun _ h => isTrueW .non) (fun w _ => isTrueW w) (fun _ _ => stop 403) (fun _ _ => stop 403) (fun _ _ _ => stop 2)
theorem split1 (R : CallT → Stm) : runLaw (PR R) LAW = belowAll (fun i => belowAll (fun j => at_ R (.ob 0) (some .cells) i j) 2) 3 := by kernel_rfl
theorem split2 (R : CallT → Stm) : runLaw2 (PR R) LAW = belowAll (fun i => belowAll (fun j => at_ R (.fn 0) (none) i j) 2) 3 := by kernel_rfl
theorem lf_0_0 (w0 : FE.W) (v0 : Option O) : at_ lawRest w0 v0 0 0 = true := by kernel_rfl
theorem lf_0_1 (w0 : FE.W) (v0 : Option O) : at_ lawRest w0 v0 0 1 = true := by kernel_rfl
theorem lf_1_0 (w0 : FE.W) (v0 : Option O) : at_ lawRest w0 v0 1 0 = true := by kernel_rfl
theorem lf_1_1 (w0 : FE.W) (v0 : Option O) : at_ lawRest w0 v0 1 1 = true := by kernel_rfl
theorem lf_2_0 (w0 : FE.W) (v0 : Option O) : at_ lawRest w0 v0 2 0 = true := by kernel_rfl
theorem lf_2_1 (w0 : FE.W) (v0 : Option O) : at_ lawRest w0 v0 2 1 = true := by kernel_rfl
theorem run1 : runLaw P LAW = true := (split1 lawRest).trans (ba_s (ba_s (ba_s rfl (ba_s (ba_s rfl (lf_0_0 _ _)) (lf_0_1 _ _))) (ba_s (ba_s rfl (lf_1_0 _ _)) (lf_1_1 _ _))) (ba_s (ba_s rfl (lf_2_0 _ _)) (lf_2_1 _ _)))
theorem run2 : runLaw2 P LAW = true := (split2 lawRest).trans (ba_s (ba_s (ba_s rfl (ba_s (ba_s rfl (lf_0_0 _ _)) (lf_0_1 _ _))) (ba_s (ba_s rfl (lf_1_0 _ _)) (lf_1_1 _ _))) (ba_s (ba_s rfl (lf_2_0 _ _)) (lf_2_1 _ _)))
theorem facts {w : World} {K : PySem.W.Frag} {h : Heap} {mg : Str → Option Value} {f : Addr} (X : K.In h) (N : h.Ns mainGlobals mg) (hfa : mg ("law" : Str) = some (.ref f)) (c : SaysF fsL fnL spL K) :
    ∃ fd : FuncData, (∀ (s : Shared) (v : Value), BindsTo s fd ⟨[v], []⟩ [("script", v)]) ∧ ∀ base : Heap, K.In base → base.Ns mainGlobals mg → FnOk RWL.prog w K mg base (fun _ _ _ _ _ _ => False) (2 * LEVEL) f fd ["script"] (fun vs H Q _ => spLaw K cl su P LAW vs H Q fun _ _ _ => False) := by
  obtain ⟨fd0, _⟩ := c.def_ 0 rfl
  have ne : Nonempty FuncData := ⟨fd0⟩
  have e := hfa.symm.trans (He.glo_ok X N (c.fact 54 (f := gloF "law") rfl))
  cases e
  have FL : FnP K "law" "law" s53 (He.fAd K ("law", none)) (fdOf K ne (defd "law" s53)) := fdOf_ok (d := defd "law" s53) (c.def_ 53 rfl)
  have b := FunD.bindsA (ps := ["script"]) FL fun _ _ _ _ _ _ us hl => match us, hl with | [_], _ => rfl
  refine ⟨_, fun s v => b s [v] rfl, fun base _ _ => fn_quiet (fn_or ?_ (fn_ex fun a sk => ?_))⟩
  · exact all_ok (fx_of X N c ne (o := none) fun a e => nomatch e) LEVEL LAW rfl
  · exact all_ok (fx_of X N c ne sk) LEVEL LAW rfl
end K09
open PySem PySem.W PySem.Calls PyProof.Rows
theorem PySem.Challenge.cw_fewanswers_k09_answers_by_hand_and_refus_holds : PySem.Challenge.rw_fewanswers_k09_answers_by_hand_and_refus.Holds := by
  w_on; o_law
  refine HandSHeadRun.head_any (r := OpenLaw.row K09.RWL) (q := view (OpenLaw.row K09.RWL).prog [69]) (H := K09.hk) (ob := K09.ob) (M := 2800) (loose := K09.loose) (d := HandSHeadRun.topDef (OpenLaw.row K09.RWL).prog 69) (kwd := []) K09.ob_eq
    (by kernel_rfl) (fun s => by kernel_rfl) K09.run (by kernel_rfl) (by kernel_rfl) (by kernel_rfl) (by rfl) (by first | assumption | decide +kernel) (by decide +kernel) ⟨rfl, rfl, rfl, rfl, rfl, by decide +kernel⟩ ?hw ?hc
  case hw => w_witness2
  case hc =>
    refine L2.walk_ofE (l := K09.RWL) (n := 63) (k := 2 * FE.LEVEL) (x := "script") (CX := fun _ _ _ _ _ _ => False) rfl (by decide) (by kernel_rfl) ⟨rfl, by decide +kernel, by decide +kernel⟩ ?F (fun _ _ _ _ z => z)
    intro w mg fa h Y G hmg0
    obtain ⟨K, KX, c⟩ := Y
    have hmg : mg ("law" : PySem.Str) = some (.ref fa) := by
      have e : (HandSHeadRun.topDef (OpenLaw.row K09.RWL).prog 69).name = ("law" : PySem.Str) := by kernel_rfl
      rw [← e]
      exact hmg0
    obtain ⟨fd, hb, hF⟩ := K09.facts (w := w) KX G hmg c
    exact ⟨K, fd, fun vs H Q _ => FE.spLaw K K09.cl K09.su K09.P K09.LAW vs H Q fun _ _ _ => False, KX, hb, fun H a ns hl _ hS => FE.law_run K09.run1 K09.run2 hl hS, hF⟩
end
