import PyProof.Rows.All
import Wide.All
import OpenK.AllK
import Wide.FinOn
import HandS.ForMost
import HandS.Zip
import HandS.DictSubView0
import KE.GoesEnumKw
import HandS.Exc
import HandS.ExcOwn
import HandS.Flow
import HandS.Style
import PyProof.SliceList
import HandS.Nested
import HandS.Base
import HandS.Call
import HandS.ExcInit
import HandS.ExcField
import KE.KExcIs
import KE.KExcInit
import HandS.TupMul
import HandS.TupAny
import KE.KTupSum
import PyProof.MinMaxWalk
import HandS.Deep
import HandS.Wide
import HandS.IsInst
import HandS.RaiseMore
import KE.GoesEnum
import KE.GoesMore
import HandS.TryOnly
import KE.KUnpackStar
import PyProof.EqKinds
import HandS.DictEq
import KE.KFmtOwn
import HandS.FStr
import KE.KCallOwn
import HandS.DictSub
import HandS.OwnEq
import HandS.Sort
import HandS.Conv
import PyProof.ListRange
import HandS.SetFor
import HandS.Strs
import PyProof.AssignAttr
import HandS.Ends
import HandS.Codes
import KE.KNestM
import HandS.EndBits
import PyProof.ReprLen
import HandS.Defaults
import PySem.Challenge.RW_rateplan_k28_rules_by_the_store
set_option Elab.async false
set_option linter.all false
set_option maxRecDepth 100000
set_option maxHeartbeats 4000000
/-! # zip of two rows, lists or tuples, strict or not -/
namespace Rp
open PySem PySem.Spec PyProof.Rows L2

/-- a row: a list (true) or a tuple -/
def SqV (k : Bool) (h : Heap) (l : Addr) (its : Array Value) : Prop := match k with
  | true => h.IsList l its
  | false => h.IsTuple l its
def SqI (k : Bool) (h : Heap) (it l : Addr) (i : Nat) : Prop := match k with
  | true => h.IsListIter it l i
  | false => h.IsTupleIter it l i
theorem SqV.ext {k : Bool} {h h' : Heap} {b l : Addr} {its : Array Value} (q : SqV k h l its) (e : Heap.ExtBut b h h') (n : l ≠ b) : SqV k h' l its := by
  cases k
  · exact Heap.IsTuple.extBut q e n
  · exact Heap.IsList.extBut q e n
theorem SqI.obj {k : Bool} {h : Heap} {it l : Addr} {i : Nat} (q : SqI k h it l i) : ∃ o n, h.get? it = some o ∧ o.cls = .type n ∧ o.data = .fields #[.ref l, .int i 0] := by
  cases k
  · obtain ⟨o, a, b, c⟩ := q; exact ⟨o, _, a, b, c⟩
  · obtain ⟨o, a, b, c⟩ := q; exact ⟨o, _, a, b, c⟩
theorem SqI.at' {k : Bool} {h h' : Heap} {it l : Addr} {i : Nat} (q : SqI k h it l i) (e : ∀ o, h.get? it = some o → h'.get? it = some o) : SqI k h' it l i := by
  cases k
  · obtain ⟨o, a, b⟩ := q; exact ⟨o, e o a, b⟩
  · obtain ⟨o, a, b⟩ := q; exact ⟨o, e o a, b⟩
theorem SqI.ext {k : Bool} {h h' : Heap} {b it l : Addr} {i : Nat} (q : SqI k h it l i) (e : Heap.ExtBut b h h') (n : it ≠ b) : SqI k h' it l i := q.at' fun o => e it o n

section
variable {prog : Program} {w : World} {A : Around} {E : Value → Shared → Prop} {s : Shared}
theorem nx_item {k : Bool} {it l : Addr} {i : Nat} {its : Array Value} {x : Value} {Q : Value → Shared → Prop} (hi : SqI k s.heap it l i) (hl : SqV k s.heap l its) (hx : its[i]? = some x)
    (hq : ∀ g, SqI k g it l (i + 1) → Heap.SameBut it s.heap g → Q x { s with heap := g }) : wpAny (model prog w) A (Builtin.SmallTypes.nextOf (.ref it)) Q E s := by
  cases k
  · exact RZ.nextOf_tuple_item hi hl hx hq
  · exact wpAny_nextOf_list_item hi hl hx hq
theorem nx_end {k : Bool} {it l : Addr} {i : Nat} {its : Array Value} {Q : Value → Shared → Prop} (hh : A.handled = none) (hi : SqI k s.heap it l i) (hl : SqV k s.heap l its) (hx : its[i]? = none)
    (hq : ∀ g e, Heap.ExtBut it s.heap g → (∃ o, g.get? e = some o ∧ o.cls = .type "StopIteration") → E (.ref e) { s with heap := g }) : wpAny (model prog w) A (Builtin.SmallTypes.nextOf (.ref it)) Q E s := by
  cases k
  · exact RZ.nextOf_tuple_end hh hi hl hx hq
  · exact wpAny_nextOf_list_end hh hi hl hx hq
theorem nxe_item {k : Bool} {it l : Addr} {i : Nat} {its : Array Value} {x : Value} {Q : Option Value → Shared → Prop} (hi : SqI k s.heap it l i) (hl : SqV k s.heap l its) (hx : its[i]? = some x)
    (hq : ∀ g, SqI k g it l (i + 1) → Heap.SameBut it s.heap g → Q (some x) { s with heap := g }) : wpAny (model prog w) A (Builtin.SmallTypes.nextOrEnd (.ref it)) Q E s := by
  unfold Builtin.SmallTypes.nextOrEnd
  exact wpAny_bind (wpAny_attempt (nx_item hi hl hx fun g a b => wpAny_pure (hq g a b)))
theorem nxe_end {k : Bool} {it l : Addr} {i : Nat} {its : Array Value} {Q : Option Value → Shared → Prop} (hh : A.handled = none) (hi : SqI k s.heap it l i) (hl : SqV k s.heap l its) (hx : its[i]? = none)
    (hq : ∀ g, Heap.ExtBut it s.heap g → Q none { s with heap := g }) : wpAny (model prog w) A (Builtin.SmallTypes.nextOrEnd (.ref it)) Q E s := by
  unfold Builtin.SmallTypes.nextOrEnd
  refine wpAny_bind (wpAny_attempt (nx_end hh hi hl hx fun g e hg he => ?_))
  obtain ⟨o, ho, hc⟩ := he
  exact wpAny_bind (wpAny_isInstance (T := "StopIteration") (b := true) ⟨o, ho, hc⟩ isSubtype_stop (wpAny_pure (hq g hg)))
/-- one row's turn in a zip -/
def drawZ (st : Bool) (it : Value) : Sem (Option Value) := do
  if st then Builtin.SmallTypes.nextOrEnd it else return some (← Builtin.SmallTypes.nextOf it)
theorem dz_item {st k : Bool} {it l : Addr} {i : Nat} {its : Array Value} {x : Value} {Q : Option Value → Shared → Prop} (hi : SqI k s.heap it l i) (hl : SqV k s.heap l its) (hx : its[i]? = some x)
    (hq : ∀ g, SqI k g it l (i + 1) → Heap.SameBut it s.heap g → Q (some x) { s with heap := g }) : wpAny (model prog w) A (drawZ st (.ref it)) Q E s := by
  cases st
  · exact wpAny_bind (nx_item hi hl hx fun g a b => wpAny_pure (hq g a b))
  · exact nxe_item hi hl hx hq
/-- a zip's record -/
abbrev IsZ (h : Heap) (z TI TO : Addr) (f0 : Value) (st : Bool) : Prop :=
  h.get? z = some { cls := .type "zip", dict := none, data := .fields #[f0, .bool false, .bool st, .ref TI, .ref TO], slots := #[] }

theorem zz_item {st k1 k2 : Bool} {z TI TO i1 i2 l1 l2 : Addr} {n : Nat} {xs ys : Array Value} {x y a b : Value} {Q : Value → Shared → Prop} (D : ZipApart z TI TO i1 i2 l1 l2) (hz : IsZ s.heap z TI TO .none st) (hTI : IsPair s.heap TI (.ref i1) (.ref i2)) (hTO : IsPair s.heap TO a b)
    (h1 : SqI k1 s.heap i1 l1 n) (h2 : SqI k2 s.heap i2 l2 n) (hl1 : SqV k1 s.heap l1 xs) (hl2 : SqV k2 s.heap l2 ys) (hx : xs[n]? = some x) (hy : ys[n]? = some y)
    (hQ : ∀ g, IsZ g z TI TO (rawInt s.heap.objs.size) st → IsPair g TO x y → SqI k1 g i1 l1 (n + 1) → SqI k2 g i2 l2 (n + 1) → IsPair g s.heap.objs.size x y → g.objs.size = s.heap.objs.size + 1 →
      (∀ c o, c ≠ z → c ≠ TO → c ≠ i1 → c ≠ i2 → s.heap.get? c = some o → g.get? c = some o) → Q (.ref s.heap.objs.size) { s with heap := g }) :
    wpAny (model prog w) A (Builtin.«zip.__next__» ⟨[.ref z], []⟩) (fun fin s' => ∃ v, fin = .done (.ret v) ∧ Q v s') E s := by
  have est : (Value.bool st == Value.bool true) = st := by cases st <;> rfl
  show wpAny _ _ (field (.ref z) 2 >>= _) _ _ _
  refine wpAny_bind (wpAny_field hz rfl (x := .bool st) rfl ?_)
  simp only [est]
  show wpAny _ _ (field (.ref z) 3 >>= _) _ _ _
  refine wpAny_bind (wpAny_field hz rfl (x := .ref TI) rfl ?_)
  refine wpAny_bind (wpAny_seqItems hTI rfl ?_)
  show wpAny _ _ (Builtin.SmallTypes.ownedTupleIsFree (.ref z) >>= _) _ _ _
  refine wpAny_bind ?_
  unfold Builtin.SmallTypes.ownedTupleIsFree
  refine wpAny_bind (wpAny_field hz rfl (x := .none) rfl (wpAny_pure ?_))
  simp only [if_true]
  refine wpAny_bind (wpAny_rule (wpAny_bind (wpAny_field hz rfl (x := .ref TO) rfl ?_)))
  refine wpAny_bind (wpAny_setField_rec hz (by simp) fun g1 hz1 s1 => ?_)
  replace hz1 : IsZ g1 z TI TO .ellipsis st := hz1
  refine wpAny_bind ?_
  simp only [List.forIn_cons, List.forIn_nil, List.zipIdx_cons, List.zipIdx_nil]
  refine wpAny_bind (wpAny_bind (wpAny_onRaise ?_))
  show wpAny _ _ (drawZ st (.ref i1)) _ _ _
  refine dz_item (h1.ext s1.extBut D.i1z) (hl1.ext s1.extBut D.l1z) hx fun g2 h12 s2 => ?_
  have t2 : IsPair g2 TO a b := s2.extBut _ _ D.TOi1 (s1.extBut _ _ D.TOz hTO)
  refine wpAny_bind (wpAny_seqItems t2 rfl (wpAny_bind (wpAny_updateSeq_pair t2 fun g3 t3 s3 => ?_)))
  replace t3 : IsPair g3 TO x b := t3
  refine wpAny_bind (wpAny_letGo (wpAny_pure ?_))
  refine wpAny_bind (wpAny_bind (wpAny_onRaise ?_))
  show wpAny _ _ (drawZ st (.ref i2)) _ _ _
  refine dz_item (((h2.ext s1.extBut D.i2z).ext s2.extBut D.i12.symm).ext s3.extBut D.TOi2.symm) (((hl2.ext s1.extBut D.l2z).ext s2.extBut D.l2i1).ext s3.extBut D.l2TO) hy fun g4 h24 s4 => ?_
  have t4 : IsPair g4 TO x b := s4.extBut _ _ D.TOi2 t3
  refine wpAny_bind (wpAny_seqItems t4 rfl (wpAny_bind (wpAny_updateSeq_pair t4 fun g5 t5 s5 => ?_)))
  replace t5 : IsPair g5 TO x y := t5
  refine wpAny_bind (wpAny_letGo (wpAny_pure (wpAny_pure ?_)))
  refine wpAny_bind (wpAny_seqItems t5 rfl (wpAny_bind (wpAny_newTuple ?_)))
  have sz : g5.objs.size = s.heap.objs.size := by rw [s5.1, s4.1, s3.1, s2.1, s1.1]
  have z5 : IsZ g5 z TI TO .ellipsis st := s5.extBut _ _ D.TOz.symm (s4.extBut _ _ D.i2z.symm (s3.extBut _ _ D.TOz.symm (s2.extBut _ _ D.i1z.symm hz1)))
  have k5 : ∀ c o, c ≠ z → c ≠ TO → c ≠ i1 → c ≠ i2 → s.heap.get? c = some o → g5.get? c = some o := fun c o c1 c2 c3 c4 e => s5.extBut _ _ c2 (s4.extBut _ _ c4 (s3.extBut _ _ c2 (s2.extBut _ _ c3 (s1.extBut _ _ c1 e))))
  have h15 : SqI k1 g5 i1 l1 (n + 1) := ((h12.ext s3.extBut D.TOi1.symm).ext s4.extBut D.i12).ext s5.extBut D.TOi1.symm
  have h25 : SqI k2 g5 i2 l2 (n + 1) := h24.ext s5.extBut D.TOi2.symm
  have zlt : z < g5.objs.size := Heap.lt_size z5
  show wpAny _ _ (Builtin.SmallTypes.ownedTupleHandOut (.ref z) (.ref g5.objs.size) >>= _) _ _ _
  refine wpAny_bind ?_
  unfold Builtin.SmallTypes.ownedTupleHandOut
  have z6 : IsZ (g5.push { cls := .type "tuple", data := .seq #[x, y] }) z TI TO .ellipsis st := Heap.get?_push_of_some _ z5
  refine wpAny_bind (wpAny_setField_rec z6 (by simp) fun g7 z7 s7 => ?_)
  replace z7 : IsZ g7 z TI TO (rawInt g5.objs.size) st := z7
  refine wpAny_setField_rec z7 (by simp) fun g8 z8 s8 => ?_
  replace z8 : IsZ g8 z TI TO (rawInt g5.objs.size) st := z8
  have up : ∀ c o, c ≠ z → g5.get? c = some o → g8.get? c = some o := fun c o c1 e => s8.extBut _ _ c1 (s7.extBut _ _ c1 (Heap.get?_push_of_some _ e))
  have t8 : IsPair g8 g5.objs.size x y := s8.extBut _ _ (Nat.ne_of_gt zlt) (s7.extBut _ _ (Nat.ne_of_gt zlt) (Heap.get?_push_size _ rfl))
  have sz8 : g8.objs.size = g5.objs.size + 1 := by rw [s8.1, s7.1, Heap.size_push]
  rw [sz] at z8 t8 sz8
  refine wpAny_pure ⟨_, rfl, ?_⟩
  show Q (.ref g5.objs.size) _
  rw [sz]
  exact hQ g8 z8 (up _ _ D.TOz t5) (h15.at' fun o e => up _ o D.i1z e) (h25.at' fun o e => up _ o D.i2z e) t8 sz8 fun c o c1 c2 c3 c4 e => up c o c1 (k5 c o c1 c2 c3 c4 e)

/-- none is left: a strict zip wants both ended -/
theorem zz_end {st k1 k2 : Bool} {z TI TO i1 i2 l1 l2 : Addr} {n : Nat} {xs ys : Array Value} {a b : Value} {Q : Fin → Shared → Prop} (hh : A.handled = none) (D : ZipApart z TI TO i1 i2 l1 l2) (hz : IsZ s.heap z TI TO .none st) (hTI : IsPair s.heap TI (.ref i1) (.ref i2)) (hTO : IsPair s.heap TO a b)
    (h1 : SqI k1 s.heap i1 l1 n) (h2 : SqI k2 s.heap i2 l2 n) (hl1 : SqV k1 s.heap l1 xs) (hl2 : SqV k2 s.heap l2 ys) (hend : xs[n]? = none ∨ ys[n]? = none) (hst : st = true → xs[n]? = none ∧ ys[n]? = none)
    (hE : ∀ g e, (∀ c o, c ≠ z → c ≠ TO → c ≠ i1 → c ≠ i2 → s.heap.get? c = some o → g.get? c = some o) → (∃ o, g.get? e = some o ∧ o.cls = .type "StopIteration") → E (.ref e) { s with heap := g }) :
    wpAny (model prog w) A (Builtin.«zip.__next__» ⟨[.ref z], []⟩) Q E s := by
  have est : (Value.bool st == Value.bool true) = st := by cases st <;> rfl
  show wpAny _ _ (field (.ref z) 2 >>= _) _ _ _
  refine wpAny_bind (wpAny_field hz rfl (x := .bool st) rfl ?_)
  simp only [est]
  show wpAny _ _ (field (.ref z) 3 >>= _) _ _ _
  refine wpAny_bind (wpAny_field hz rfl (x := .ref TI) rfl ?_)
  refine wpAny_bind (wpAny_seqItems hTI rfl ?_)
  show wpAny _ _ (Builtin.SmallTypes.ownedTupleIsFree (.ref z) >>= _) _ _ _
  refine wpAny_bind ?_
  unfold Builtin.SmallTypes.ownedTupleIsFree
  refine wpAny_bind (wpAny_field hz rfl (x := .none) rfl (wpAny_pure ?_))
  simp only [if_true]
  refine wpAny_bind (wpAny_rule (wpAny_bind (wpAny_field hz rfl (x := .ref TO) rfl ?_)))
  refine wpAny_bind (wpAny_setField_rec hz (by simp) fun g1 hz1 s1 => ?_)
  replace hz1 : IsZ g1 z TI TO .ellipsis st := hz1
  refine wpAny_bind ?_
  simp only [List.forIn_cons, List.forIn_nil, List.zipIdx_cons, List.zipIdx_nil]
  refine wpAny_bind (wpAny_bind (wpAny_onRaise ?_))
  cases st with
  | true =>
    obtain ⟨e1, e2⟩ := hst rfl
    show wpAny _ _ (Builtin.SmallTypes.nextOrEnd (.ref i1)) _ _ _
    refine nxe_end hh (h1.ext s1.extBut D.i1z) (hl1.ext s1.extBut D.l1z) e1 fun g2 s2 => ?_
    have hz2 : IsZ g2 z TI TO .ellipsis true := s2 _ _ D.i1z.symm hz1
    refine wpAny_bind (wpAny_setField_rec hz2 (by simp) fun g3 hz3 s3 => ?_)
    refine wpAny_bind ?_
    show wpAny _ _ (do
      for (it, j) in [(Value.ref i2, 1)] do
        if (← Builtin.SmallTypes.nextOrEnd it).isSome then
          rule "zip.__next__.longer"; raiseError "ValueError" s!"zip() argument {j + 1} is longer than {if j == 1 then "argument 1" else s!"arguments 1-{j}"}"
      rule "zip.__next__.all-ended"; Builtin.SmallTypes.stopIteration : Sem Fin) _ _ _
    simp only [List.forIn_cons, List.forIn_nil]
    refine wpAny_bind (wpAny_bind (wpAny_bind ?_))
    refine nxe_end hh (((h2.ext s1.extBut D.i2z).ext s2 D.i12.symm).ext s3.extBut D.i2z) (((hl2.ext s1.extBut D.l2z).ext s2 D.l2i1).ext s3.extBut D.l2z) e2 fun g4 s4 => ?_
    refine wpAny_pure (wpAny_pure (wpAny_bind (wpAny_rule ?_)))
    refine DVw.raise_stop hh fun g5 e oe k5 ho hc => ?_
    exact hE g5 e (fun c o c1 c2 c3 c4 q => k5 _ _ (s4 _ _ c4 (s3.extBut _ _ c1 (s2 _ _ c3 (s1.extBut _ _ c1 q))))) ⟨oe, ho, hc⟩
  | false =>
    refine wpAny_bind ?_
    show wpAny _ _ (Builtin.SmallTypes.nextOf (.ref i1)) _ _ _
    cases hx : xs[n]? with
    | none =>
      refine nx_end hh (h1.ext s1.extBut D.i1z) (hl1.ext s1.extBut D.l1z) hx fun g2 e s2 he => ?_
      obtain ⟨oe, ho, hc⟩ := he
      have hz2 : IsZ g2 z TI TO .ellipsis false := s2 _ _ D.i1z.symm hz1
      have nez : e ≠ z := fun q => by subst q; rw [hz2] at ho; cases ho; simp at hc
      exact wpAny_setField_rec hz2 (by simp) fun g3 _ s3 => hE g3 e (fun c o c1 _ c3 _ q => s3.extBut _ _ c1 (s2 _ _ c3 (s1.extBut _ _ c1 q))) ⟨oe, s3.extBut _ _ nez ho, hc⟩
    | some x =>
      have hy : ys[n]? = none := by
        rcases hend with q | q
        · rw [hx] at q; cases q
        · exact q
      refine nx_item (h1.ext s1.extBut D.i1z) (hl1.ext s1.extBut D.l1z) hx fun g2 h12 s2 => wpAny_pure ?_
      have t2 : IsPair g2 TO a b := s2.extBut _ _ D.TOi1 (s1.extBut _ _ D.TOz hTO)
      refine wpAny_bind (wpAny_seqItems t2 rfl (wpAny_bind (wpAny_updateSeq_pair t2 fun g3 t3 s3 => ?_)))
      refine wpAny_bind (wpAny_letGo (wpAny_pure ?_))
      refine wpAny_bind (wpAny_bind (wpAny_onRaise (wpAny_bind ?_)))
      show wpAny _ _ (Builtin.SmallTypes.nextOf (.ref i2)) _ _ _
      refine nx_end hh (((h2.ext s1.extBut D.i2z).ext s2.extBut D.i12.symm).ext s3.extBut D.TOi2.symm) (((hl2.ext s1.extBut D.l2z).ext s2.extBut D.l2i1).ext s3.extBut D.l2TO) hy fun g4 e s4 he => ?_
      obtain ⟨oe, ho, hc⟩ := he
      have hz4 : IsZ g4 z TI TO .ellipsis false := s4 _ _ D.i2z.symm (s3.extBut _ _ D.TOz.symm (s2.extBut _ _ D.i1z.symm hz1))
      have nez : e ≠ z := fun q => by subst q; rw [hz4] at ho; cases ho; simp at hc
      exact wpAny_setField_rec hz4 (by simp) fun g5 _ s5 => hE g5 e (fun c o c1 c2 c3 c4 q => s5.extBut _ _ c1 (s4 _ _ c4 (s3.extBut _ _ c2 (s2.extBut _ _ c3 (s1.extBut _ _ c1 q))))) ⟨oe, s5.extBut _ _ nez ho, hc⟩

theorem zz_next {st k1 k2 : Bool} {z TI TO i1 i2 l1 l2 : Addr} {n : Nat} {xs ys : Array Value} {x y a b : Value} {Q : Option Value → Shared → Prop} (D : ZipApart z TI TO i1 i2 l1 l2) (hz : IsZ s.heap z TI TO .none st) (hTI : IsPair s.heap TI (.ref i1) (.ref i2)) (hTO : IsPair s.heap TO a b)
    (h1 : SqI k1 s.heap i1 l1 n) (h2 : SqI k2 s.heap i2 l2 n) (hl1 : SqV k1 s.heap l1 xs) (hl2 : SqV k2 s.heap l2 ys) (hx : xs[n]? = some x) (hy : ys[n]? = some y)
    (hQ : ∀ g, IsZ g z TI TO (rawInt s.heap.objs.size) st → IsPair g TO x y → SqI k1 g i1 l1 (n + 1) → SqI k2 g i2 l2 (n + 1) → IsPair g s.heap.objs.size x y → g.objs.size = s.heap.objs.size + 1 →
      (∀ c o, c ≠ z → c ≠ TO → c ≠ i1 → c ≠ i2 → s.heap.get? c = some o → g.get? c = some o) → Q (some (.ref s.heap.objs.size)) { s with heap := g }) : wpAny (model prog w) A (pyNext (.ref z)) Q E s := by
  have ty : s.TypeIs (.ref z) "zip" := ⟨_, hz, rfl⟩
  unfold pyNext
  refine wpAny_bind (wpAny_attempt (wpAny_callSpecial?_slot (name := Str.ofString "__next__") ty F.slot_zip_next (wpAny_call_entry F.slot_zip_next ty F.entry_zip_next ?_ (F.args_zip_next_1 _))))
  exact zz_item D hz hTI hTO h1 h2 hl1 hl2 hx hy fun g a1 a2 a3 a4 a5 a6 a7 => wpAny_pure (hQ g a1 a2 a3 a4 a5 a6 a7)
theorem zz_stop {st k1 k2 : Bool} {z TI TO i1 i2 l1 l2 : Addr} {n : Nat} {xs ys : Array Value} {a b : Value} {Q : Option Value → Shared → Prop} (hh : A.handled = none) (D : ZipApart z TI TO i1 i2 l1 l2) (hz : IsZ s.heap z TI TO .none st) (hTI : IsPair s.heap TI (.ref i1) (.ref i2)) (hTO : IsPair s.heap TO a b)
    (h1 : SqI k1 s.heap i1 l1 n) (h2 : SqI k2 s.heap i2 l2 n) (hl1 : SqV k1 s.heap l1 xs) (hl2 : SqV k2 s.heap l2 ys) (hend : xs[n]? = none ∨ ys[n]? = none) (hst : st = true → xs[n]? = none ∧ ys[n]? = none)
    (hQ : ∀ g, (∀ c o, c ≠ z → c ≠ TO → c ≠ i1 → c ≠ i2 → s.heap.get? c = some o → g.get? c = some o) → Q none { s with heap := g }) : wpAny (model prog w) A (pyNext (.ref z)) Q E s := by
  have ty : s.TypeIs (.ref z) "zip" := ⟨_, hz, rfl⟩
  unfold pyNext
  refine wpAny_bind (wpAny_attempt (wpAny_callSpecial?_slot (name := Str.ofString "__next__") ty F.slot_zip_next (wpAny_call_entry F.slot_zip_next ty F.entry_zip_next ?_ (F.args_zip_next_1 _))))
  refine zz_end hh D hz hTI hTO h1 h2 hl1 hl2 hend hst fun g e hk he => ?_
  obtain ⟨o, ho, hc⟩ := he
  exact wpAny_bind (wpAny_isInstance (T := "StopIteration") (b := true) ⟨o, ho, hc⟩ isSubtype_stop (wpAny_pure (hQ _ hk)))
/-- its tuple is given to the targets -/
theorem zz_go {st : Bool} {elts : List Expr} {kk : Nat} {pos : Pos} {z TI TO a : Addr} {Q : Unit → Shared → Prop} (hz : IsZ s.heap z TI TO (rawInt a) st) (hQ : ∀ g, IsZ g z TI TO .none st → Heap.SameBut z s.heap g → Q () { s with heap := g }) :
    wpAny (model prog w) A (letOwnedTupleGo (.Tuple elts kk pos) (.ref z) (.ref a)) Q E s := by
  unfold letOwnedTupleGo
  refine wpAny_bind (wpAny_load hz ?_)
  show wpAny _ _ (if (["enumerate", "zip", "dict_itemiterator", "dict_reverseitemiterator", "odict_iterator", "itertools.zip_longest", "itertools.pairwise"].contains "zip" && (#[rawInt a, .bool false, .bool st, .ref TI, .ref TO] : Array Value)[0]? == some (rawInt a)) = true then _ else _) Q E s
  rw [if_pos (by simp)]
  refine wpAny_bind (wpAny_rule ?_)
  show wpAny _ _ (setField (.ref z) 0 .none) Q E s
  exact wpAny_setField_rec hz (by simp) fun g z' s' => hQ g z' s'
theorem zz_self {st : Bool} {z TI TO : Addr} {f0 : Value} {Q : Value → Shared → Prop} (hz : IsZ s.heap z TI TO f0 st) (h : Q (.ref z) s) : wpAny (model prog w) A (pyIter (.ref z)) Q E s := by
  have ty : s.TypeIs (.ref z) "zip" := ⟨_, hz, rfl⟩
  refine wpAny_pyIter_slot ty F.slot_zip_iter (wpAny_call_entry F.slot_zip_iter ty F.entry_zip_iter ?_ (F.args_zip_iter_1 _))
  show wpAny _ _ (ret (.ref z)) _ _ s
  exact wpAny_pure ⟨_, rfl, "zip", _, ty, F.slot_zip_next.lookup, h⟩
def itN : Bool → String
  | true => "list_iterator"
  | false => "tuple_iterator"
def itO (k : Bool) (l : Addr) : Obj := { cls := .type (itN k), data := .fields #[.ref l, .int 0 0] }
theorem pit {k : Bool} {l : Addr} {its : Array Value} {Q : Value → Shared → Prop} (hl : SqV k s.heap l its) (hq : Q (.ref s.heap.objs.size) { s with heap := s.heap.push (itO k l) }) : wpAny (model prog w) A (pyIter (.ref l)) Q E s := by
  cases k
  · exact wpAny_pyIter_tuple hl hq
  · exact wpAny_pyIter_list hl hq
end
theorem SqV.push {k : Bool} {h : Heap} {l : Addr} {its : Array Value} (q : SqV k h l its) (o : Obj) : SqV k (h.push o) l its := by
  cases k
  · obtain ⟨u, a, b⟩ := q; exact ⟨u, Heap.get?_push_of_some _ a, b⟩
  · obtain ⟨u, a, b⟩ := q; exact ⟨u, Heap.get?_push_of_some _ a, b⟩
abbrev zh1 (h : Heap) (k1 : Bool) (l1 : Addr) : Heap := h.push (itO k1 l1)
abbrev zh2 (h : Heap) (k1 k2 : Bool) (l1 l2 : Addr) : Heap := (zh1 h k1 l1).push (itO k2 l2)
abbrev zh3 (h : Heap) (k1 k2 : Bool) (l1 l2 : Addr) : Heap := (zh2 h k1 k2 l1 l2).push { cls := .type "tuple", data := .seq #[.ref h.objs.size, .ref (zh1 h k1 l1).objs.size] }
abbrev zh4 (h : Heap) (k1 k2 : Bool) (l1 l2 : Addr) : Heap := (zh3 h k1 k2 l1 l2).push { cls := .type "tuple", data := .seq #[.none, .none] }
abbrev zh5 (h : Heap) (k1 k2 st : Bool) (l1 l2 : Addr) : Heap := (zh4 h k1 k2 l1 l2).push { cls := .type "zip", data := .fields #[.none, .bool false, .bool st, .ref (zh2 h k1 k2 l1 l2).objs.size, .ref (zh3 h k1 k2 l1 l2).objs.size] }
theorem zz_new0 (k1 k2 : Bool) (l1 l2 : Addr) (xs ys : Array Value) : Meets (Builtin.«zip.__new__» ⟨[.type "zip", .ref l1, .ref l2], []⟩) (fun _ R s => SqV k1 s.heap l1 xs ∧ SqV k2 s.heap l2 ys ∧
      R (.ok (.ret (.ref (zh4 s.heap k1 k2 l1 l2).objs.size))) { s with heap := zh5 s.heap k1 k2 false l1 l2 }) :=
  .of_wp fun prog w A R s h => by
    obtain ⟨hp, g, d, tk, os⟩ := s
    obtain ⟨hl1, hl2, h⟩ := h
    have hsub := sub_zip
    have q1 : SqV k1 (Shared.heap ⟨hp, g, d, tk, os⟩) l1 xs := hl1
    have q2 : SqV k2 (Shared.heap ⟨hp.push (itO k1 l1), g, d, tk, os⟩) l2 ys := SqV.push hl2 _
    wp_walk using pit q1, pit q2
    exact ⟨_, rfl, h⟩
theorem zz_new1 (k1 k2 : Bool) (l1 l2 : Addr) (xs ys : Array Value) : Meets (Builtin.«zip.__new__» ⟨[.type "zip", .ref l1, .ref l2], [(Str.ofString "strict", .bool true)]⟩) (fun _ R s => SqV k1 s.heap l1 xs ∧ SqV k2 s.heap l2 ys ∧
      R (.ok (.ret (.ref (zh4 s.heap k1 k2 l1 l2).objs.size))) { s with heap := zh5 s.heap k1 k2 true l1 l2 }) :=
  .of_wp fun prog w A R s h => by
    obtain ⟨hp, g, d, tk, os⟩ := s
    obtain ⟨hl1, hl2, h⟩ := h
    have hsub := sub_zip
    have q1 : SqV k1 (Shared.heap ⟨hp, g, d, tk, os⟩) l1 xs := hl1
    have q2 : SqV k2 (Shared.heap ⟨hp.push (itO k1 l1), g, d, tk, os⟩) l2 ys := SqV.push hl2 _
    have e1 : (Str.ofString "strict" != ("strict" : Str)) = false := by decide +kernel
    wp_walk using pit q1, pit q2
    exact ⟨_, rfl, h⟩
end Rp
/-! # zip as an iterator of the hand layer -/
namespace Rp
open PySem PySem.Spec PyProof.Rows L2

/-- zip's iterator, by the rows that it goes through -/
def ItZ (st : Bool) (P1 P2 : Hp → List V → Prop) : It :=
  ⟨fun i H => ∃ (xs ys : List V) (x y : V), P1 H xs ∧ P2 H ys ∧ xs[i]? = some x ∧ ys[i]? = some y,
    fun i H v H' => ∃ T x y, v = .ref T ∧ H T = none ∧ H' = upd H T (.tup [x, y]) ∧ (∀ xs, P1 H xs → xs[i]? = some x) ∧ ∀ ys, P2 H ys → ys[i]? = some y,
    fun i H => ∃ xs ys : List V, P1 H xs ∧ P2 H ys ∧ (xs.length ≤ i ∨ ys.length ≤ i) ∧ (st = true → xs.length ≤ i ∧ ys.length ≤ i)⟩
def SqK (k : Bool) (K : PySem.W.Frag) (a : Addr) (H : Hp) (vs : List V) : Prop := match k with
  | true => SqL K H a vs
  | false => SqT K H a vs
theorem SqK.at' {X : Cx} {pins : List (Addr × Obj)} {σ : L2.St} {H : Hp} {s : Shared} {k : Bool} {a : Addr} {vs : List V} (q : SqK k X.K a H vs) (I : Inv X pins σ H s) : ∃ its : List Value, Vals vs its ∧ SqV k s.heap a its.toArray ∧ a < s.heap.objs.size := by
  cases k
  · obtain ⟨its, r, p, _⟩ := I.tuple q
    obtain ⟨o, e, _⟩ := id p
    exact ⟨its, r, p, Heap.lt_size e⟩
  · obtain ⟨its, r, p, _⟩ := I.list q
    exact ⟨its, r, p.isList, p.lt⟩
theorem SqK.inj {X : Cx} {pins : List (Addr × Obj)} {σ : L2.St} {H : Hp} {s : Shared} {k : Bool} {a : Addr} {xs ys : List V} (p : SqK k X.K a H xs) (q : SqK k X.K a H ys) (I : Inv X pins σ H s) : xs = ys := by
  cases k
  · exact I.tuple_inj p q
  · exact I.list_inj p q

section
variable {prog : Program} {w : World} {A : Around} {E : Value → Shared → Prop} {s : Shared}
/-- the cells of a new zip -/
def ZNew (s : Shared) (st k1 k2 : Bool) (l1 l2 : Addr) (g : Heap) : Prop :=
  IsZ g (s.heap.objs.size + 4) (s.heap.objs.size + 2) (s.heap.objs.size + 3) .none st ∧ IsPair g (s.heap.objs.size + 2) (.ref s.heap.objs.size) (.ref (s.heap.objs.size + 1)) ∧
    IsPair g (s.heap.objs.size + 3) .none .none ∧ SqI k1 g s.heap.objs.size l1 0 ∧ SqI k2 g (s.heap.objs.size + 1) l2 0 ∧ ∀ c o, s.heap.get? c = some o → g.get? c = some o
theorem itO_is {k : Bool} {g : Heap} {i l : Addr} (e : g.get? i = some (itO k l)) : SqI k g i l 0 := by
  cases k
  · exact ⟨_, e, rfl, rfl⟩
  · exact ⟨_, e, rfl, rfl⟩
theorem znew {st k1 k2 : Bool} {l1 l2 : Addr} : (zh4 s.heap k1 k2 l1 l2).objs.size = s.heap.objs.size + 4 ∧ ZNew s st k1 k2 l1 l2 (zh5 s.heap k1 k2 st l1 l2) := by
  have z1 : (zh1 s.heap k1 l1).objs.size = s.heap.objs.size + 1 := Heap.size_push ..
  have z2 : (zh2 s.heap k1 k2 l1 l2).objs.size = s.heap.objs.size + 2 := by rw [Heap.size_push, z1]
  have z3 : (zh3 s.heap k1 k2 l1 l2).objs.size = s.heap.objs.size + 3 := by rw [Heap.size_push, z2]
  have z4 : (zh4 s.heap k1 k2 l1 l2).objs.size = s.heap.objs.size + 4 := by rw [Heap.size_push, z3]
  have e5 : (zh5 s.heap k1 k2 st l1 l2).get? (zh4 s.heap k1 k2 l1 l2).objs.size = some _ := Heap.get?_push_size _ rfl
  have e4 : (zh5 s.heap k1 k2 st l1 l2).get? (zh3 s.heap k1 k2 l1 l2).objs.size = some _ := Heap.get?_push_of_some _ (Heap.get?_push_size _ rfl)
  have e3 : (zh5 s.heap k1 k2 st l1 l2).get? (zh2 s.heap k1 k2 l1 l2).objs.size = some _ := Heap.get?_push_of_some _ (Heap.get?_push_of_some _ (Heap.get?_push_size _ rfl))
  have e2 : (zh5 s.heap k1 k2 st l1 l2).get? (zh1 s.heap k1 l1).objs.size = some (itO k2 l2) := Heap.get?_push_of_some _ (Heap.get?_push_of_some _ (Heap.get?_push_of_some _ (Heap.get?_push_size _ rfl)))
  have e1 : (zh5 s.heap k1 k2 st l1 l2).get? s.heap.objs.size = some (itO k1 l1) := Heap.get?_push_of_some _ (Heap.get?_push_of_some _ (Heap.get?_push_of_some _ (Heap.get?_push_of_some _ (Heap.get?_push_size _ rfl))))
  rw [z2, z3, z4] at e5
  rw [z1, z2] at e3
  rw [z3] at e4
  rw [z1] at e2
  exact ⟨z4, e5, e3, e4, itO_is e1, itO_is e2, fun c o x => Heap.get?_push_of_some _ (Heap.get?_push_of_some _ (Heap.get?_push_of_some _ (Heap.get?_push_of_some _ (Heap.get?_push_of_some _ x))))⟩
theorem zz_call0 {k1 k2 : Bool} {l1 l2 : Addr} {xs ys : Array Value} {Q : Value → Shared → Prop} (hl1 : SqV k1 s.heap l1 xs) (hl2 : SqV k2 s.heap l2 ys) (h : ∀ g, ZNew s false k1 k2 l1 l2 g → Q (.ref (s.heap.objs.size + 4)) { s with heap := g }) :
    wpAny (model prog w) A (call (.type "zip") [.ref l1, .ref l2]) Q E s := by
  obtain ⟨z4, n⟩ := znew (s := s) (st := false) (k1 := k1) (k2 := k2) (l1 := l1) (l2 := l2)
  refine callType_new F.called_zip (by decide) (F.typeCall_zip_2 _ _) (F.newCall_zip_2 _ _) (fun obj => F.args_object_init_3 obj _ _) F.entry_zip_new (zz_new0 k1 k2 l1 l2 xs ys) ⟨hl1, hl2, ?_⟩
  show _ ∧ _
  rw [z4]
  exact ⟨⟨_, n.1, rfl⟩, h _ n⟩
theorem typeCall_zipS (a b c : Value) : checkTypeCall "zip" ⟨[a, b], [(Str.ofString "strict", c)]⟩ = pure () := by kernel_rfl
theorem newCall_zipS (a b c : Value) : checkBuiltinCall "zip.__new__" ⟨[.type "zip", a, b], [(Str.ofString "strict", c)]⟩ = pure () := by kernel_rfl
theorem args_zipS (obj a b c : Value) : argsOk "object.__init__" ⟨[obj, a, b], [(Str.ofString "strict", c)]⟩ := by
  unfold argsOk
  kernel_rfl
theorem zz_call1 {k1 k2 : Bool} {l1 l2 : Addr} {xs ys : Array Value} {Q : Value → Shared → Prop} (hl1 : SqV k1 s.heap l1 xs) (hl2 : SqV k2 s.heap l2 ys) (h : ∀ g, ZNew s true k1 k2 l1 l2 g → Q (.ref (s.heap.objs.size + 4)) { s with heap := g }) :
    wpAny (model prog w) A (call (.type "zip") [.ref l1, .ref l2] [(Str.ofString "strict", .bool true)]) Q E s := by
  obtain ⟨z4, n⟩ := znew (s := s) (st := true) (k1 := k1) (k2 := k2) (l1 := l1) (l2 := l2)
  refine callType_newKw F.called_zip (by decide) (typeCall_zipS _ _ _) (newCall_zipS _ _ _) (fun obj => args_zipS obj _ _ _) F.entry_zip_new (zz_new1 k1 k2 l1 l2 xs ys) ⟨hl1, hl2, ?_⟩
  show _ ∧ _
  rw [z4]
  exact ⟨⟨_, n.1, rfl⟩, h _ n⟩
end

theorem turn_zz {P : Program} {w : World} {K : PySem.W.Frag} {elts : List Expr} {kk : Nat} {tpos : Pos} {st k1 k2 : Bool} {a b z TI TO i1 i2 : Addr} (D : ZipApart z TI TO i1 i2 a b) :
    Turn P w K (.Tuple elts kk tpos) (ItZ st (SqK k1 K a) (SqK k2 K b)) [z, TI, TO, i1, i2] z (fun i h => IsZ h z TI TO .none st ∧ IsPair h TI (.ref i1) (.ref i2) ∧ (∃ x y, IsPair h TO x y) ∧ SqI k1 h i1 a i ∧ SqI k2 h i2 b i) where
  mem := by simp
  obj := fun i h hs c hc => by
    obtain ⟨hz, hTI, ⟨x, y, hTO⟩, h1, h2⟩ := hs
    obtain ⟨o1, n1, e1, _, d1⟩ := h1.obj
    obtain ⟨o2, n2, e2, _, d2⟩ := h2.obj
    have w : c = z ∨ c = TI ∨ c = TO ∨ c = i1 ∨ c = i2 := by simpa using hc
    rcases w with rfl | rfl | rfl | rfl | rfl
    · exact ⟨_, hz, fun v q => nomatch q⟩
    · exact ⟨_, hTI, fun v q => nomatch q⟩
    · exact ⟨_, hTO, fun v q => nomatch q⟩
    · exact ⟨o1, e1, fun v q => by rw [d1] at q; cases q⟩
    · exact ⟨o2, e2, fun v q => by rw [d2] at q; cases q⟩
  keep := fun i h h' hs k => by
    obtain ⟨hz, hTI, ⟨x, y, hTO⟩, h1, h2⟩ := hs
    exact ⟨k z (by simp) _ hz, k TI (by simp) _ hTI, ⟨x, y, k TO (by simp) _ hTO⟩, h1.at' fun o q => k i1 (by simp) o q, h2.at' fun o q => k i2 (by simp) o q⟩
  item := by
    intro X hP hw hK hc i pins s σ H E I hf hs hg
    subst hP hw hK
    obtain ⟨hz, hTI, ⟨x0, y0, hTO⟩, h1, h2⟩ := hs
    obtain ⟨xs, ys, x, y, hqx, hqy, hx, hy⟩ := hg
    obtain ⟨its, rv, p, _⟩ := hqx.at' I
    obtain ⟨its2, rv2, p2, _⟩ := hqy.at' I
    obtain ⟨u, hu, ru⟩ := rv.get hx
    obtain ⟨u2, hu2, ru2⟩ := rv2.get hy
    have zl : z < s.heap.objs.size := Heap.lt_size hz
    refine zz_next D hz hTI hTO h1 h2 p p2 (x := u) (y := u2) (by simpa using hu) (by simpa using hu2) fun g z1 TO1 h11 h21 hT hsz hk => ?_
    refine ⟨_, rfl, zz_go (s := { s with heap := g }) z1 fun g2 z2 sb => ?_⟩
    have hT2 : g2.get? s.heap.objs.size = some { cls := .type "tuple", data := .seq #[u, u2] } := (sb.2 _ (Nat.ne_of_gt zl)).trans hT
    have new : ObjOk X.prog X.w (upd H s.heap.objs.size (.tup [x, y])) g2 s.heap.objs.size (.tup [x, y]) := ⟨by show 2 ≤ sizeLine; decide, [u, u2], .cons ru (.cons ru2 .nil), ⟨_, hT2, rfl, _, rfl⟩⟩
    have I1 : Inv X pins σ (upd H s.heap.objs.size (.tup [x, y])) { s with heap := g2 } :=
      I.turnedNew (t' := s.toks) (ch := [z, TI, TO, i1, i2]) (fun c o hb q => (sb.2 c (fun q' => hb (by simp [q']))).trans (hk c o (fun q' => hb (by simp [q'])) (fun q' => hb (by simp [q'])) (fun q' => hb (by simp [q'])) (fun q' => hb (by simp [q'])) q)) hf (Nat.le_refl _) new
    refine ⟨.ref s.heap.objs.size, _, I1, rfl, ⟨_, x, y, rfl, I.hok.fresh (Nat.le_refl _), rfl, fun l hl => by rw [SqK.inj hl hqx I]; exact hx, fun l hl => by rw [SqK.inj hl hqy I]; exact hy⟩, ⟨z2, ?_, ⟨u, u2, ?_⟩, ?_, ?_⟩, fun c hcm => ?_⟩
    · exact (sb.2 _ D.TIz).trans (hk _ _ D.TIz D.TITO D.TIi1 D.TIi2 hTI)
    · exact (sb.2 _ D.TOz).trans TO1
    · exact h11.at' fun o q => (sb.2 _ D.i1z).trans q
    · exact h21.at' fun o q => (sb.2 _ D.i2z).trans q
    · have lt : c < s.heap.objs.size := by
        obtain ⟨o1, n1, e1, _⟩ := h1.obj
        obtain ⟨o2, n2, e2, _⟩ := h2.obj
        have w : c = z ∨ c = TI ∨ c = TO ∨ c = i1 ∨ c = i2 := by simpa using hcm
        rcases w with rfl | rfl | rfl | rfl | rfl
        · exact zl
        · exact Heap.lt_size hTI
        · exact Heap.lt_size hTO
        · exact Heap.lt_size e1
        · exact Heap.lt_size e2
      rw [upd_ne (Nat.ne_of_lt lt)]
      exact (hf c hcm).1
  done := by
    intro X hP hw hK hc i pins s σ H E I hf hs hg
    subst hP hw hK
    obtain ⟨hz, hTI, ⟨x0, y0, hTO⟩, h1, h2⟩ := hs
    obtain ⟨xs, ys, hqx, hqy, hend, hst⟩ := hg
    obtain ⟨its, rv, p, _⟩ := hqx.at' I
    obtain ⟨its2, rv2, p2, _⟩ := hqy.at' I
    have l1 := rv.length
    have l2 := rv2.length
    refine zz_stop (I.ok.hd hc) D hz hTI hTO h1 h2 p p2 ?_ (fun e => ?_) fun g hk => ⟨rfl, I.turnedL (t' := s.toks) (ch := [z, TI, TO, i1, i2]) (fun c o hb q => hk c o (fun q' => hb (by simp [q'])) (fun q' => hb (by simp [q'])) (fun q' => hb (by simp [q'])) (fun q' => hb (by simp [q'])) q) hf⟩
    · rcases hend with q | q
      · exact .inl (by simp; omega)
      · exact .inr (by simp; omega)
    · obtain ⟨q1, q2⟩ := hst e
      exact ⟨by simp; omega, by simp; omega⟩
  self := fun A i s Q E hs h => zz_self hs.1 h

/-- what a zip's two arguments are -/
def iZZ (K : PySem.W.Frag) (st : Bool) (ta : TA) : TI := fun σ H R => ta σ H fun vs H1 => ∃ a b k1 k2 xs ys, vs = [.ref a, .ref b] ∧ SqK k1 K a H1 xs ∧ SqK k2 K b H1 ys ∧ R (ItZ st (SqK k1 K a) (SqK k2 K b)) H1
section
variable {X : Cx}
theorem zz_made {pins : List (Addr × Obj)} {σ : L2.St} {H : Hp} {s : Shared} {E : Value → Shared → Prop} {st k1 k2 : Bool} {a b : Addr} {R : It → Hp → Prop} {g : Heap} {elts : List Expr} {kk : Nat} {tpos : Pos} (I : Inv X pins σ H s) (n : ZNew s st k1 k2 a b g) (la : a < s.heap.objs.size) (lb : b < s.heap.objs.size)
    (q : R (ItZ st (SqK k1 X.K a) (SqK k2 X.K b)) H) : wpAny (model X.prog X.w) X.A (pyIter (.ref (s.heap.objs.size + 4))) (PIE X pins σ (.Tuple elts kk tpos) R) E { s with heap := g } := by
  obtain ⟨hz, hTI, hTO, h1, h2, hk⟩ := n
  refine zz_self hz ?_
  have I2 : Inv X pins σ H { s with heap := g } := I.kept (t' := s.toks) hk
  refine ⟨s.heap.objs.size + 4, [s.heap.objs.size + 4, s.heap.objs.size + 2, s.heap.objs.size + 3, s.heap.objs.size, s.heap.objs.size + 1], _, _, H, rfl, I2, turn_zz (PySem.W.ktu_apart s.heap.objs.size a b la lb), ⟨hz, hTI, ⟨_, _, hTO⟩, h1, h2⟩, fun c hcm => ?_, q⟩
  have le : s.heap.objs.size ≤ c := by
    have w : c = s.heap.objs.size + 4 ∨ c = s.heap.objs.size + 2 ∨ c = s.heap.objs.size + 3 ∨ c = s.heap.objs.size ∨ c = s.heap.objs.size + 1 := by simpa using hcm
    rcases w with q | q | q | q | q <;> rw [q] <;> first
      | exact Nat.le_add_right _ _
      | exact Nat.le_refl _
  exact I.fpOk le (I.hok.fresh le)
theorem pi_zz0 {e e2 : Expr} {ta : TA} {p pos tpos : Pos} {elts : List Expr} {kk : Nat} (hg : Gl X "zip") (hm : X.mg "zip" = none) (ha : PA X [e, e2] ta) (hs : starEach [e, e2] X.env = (false, eval e X.env) :: starEach [e2] X.env) (hpl : (backTo pos (starEach [e2] X.env)).any (·.1) = false) :
    PI X (.Tuple elts kk tpos) (.Call (.Name "zip" p) [e, e2] [] pos) (iZZ X.K false ta) := by
  refine ⟨fun pins s σ H R I h => ?_⟩
  refine Call_ (ld_blt I hg hm PyProof.Rows.boot_zip (PyProof.Rows.callWith_type1 (thn (ha.run pos pins s σ H _ I h) fun us s1 h1 => ?_) hs hpl))
  obtain ⟨vs, H1, I1, r1, a, b, k1, k2, xs, ys, rfl, hqx, hqy, q⟩ := h1
  obtain ⟨u, u2, rfl, r, r'⟩ := Vals.two r1
  cases r
  cases r'
  obtain ⟨its, rv, p1, la⟩ := hqx.at' I1
  obtain ⟨its2, rv2, p2, lb⟩ := hqy.at' I1
  exact zz_call0 p1 p2 fun g n => zz_made I1 n la lb q
theorem callWith_tyKw {M : Model} {A : Around} {E : Value → Shared → Prop} {s : Shared} {pos : Pos} {Tn : String} {x : Sem Value} {rest : List (Bool × Sem Value)} {kws : List (Option Str × Sem Value)} {Q : Value → Shared → Prop} (h1 : rest.any (·.1) = false) (h2 : kws.any (·.1.isNone) = false) (h3 : kws.all (·.1.isSome) = true)
    (h : wpAny M A (spliced ((false, x) :: rest)) (fun vs s1 => wpAny M A (evalAll (kws.map (·.2))) (fun ks s2 => wpAny M A (call (.type Tn) vs ((kws.filterMap (·.1)).zip ks)) Q E s2) E s1) E s) : wpAny M A (callWith pos (.type Tn) [] ((false, x) :: rest) kws) Q E s := by
  unfold callWith
  have h0 : ((false, x) :: rest).any (·.1) = false := by
    show (false || rest.any _) = false
    rw [h1] <;> rfl
  refine wpAny_bind (wpAny_holding (wpAny_mono (evalArgs_kwB (Q := fun a s2 => wpAny M A (call (.type Tn) a.pos a.kw) Q E s2) h3 h) (fun a s1 q => wpAny_bind (wpAny_standAt ?_)) fun _ _ z => z))
  simp only [h0, h2, Bool.or_false]
  refine wpAny_bind (wpAny_pure ?_)
  exact wpAny_bind (wpAny_mono q (fun r s2 hr => wpAny_bind (wpAny_holding (wpAny_point (wpAny_pure hr)))) fun _ _ z => z)
theorem pi_zz1 {e e2 : Expr} {ta : TA} {p pos tpos kp cp : Pos} {elts : List Expr} {kk ck : Nat} (hg : Gl X "zip") (hm : X.mg "zip" = none) (ha : PA X [e, e2] ta) (hs : starEach [e, e2] X.env = (false, eval e X.env) :: starEach [e2] X.env) (hpl : (backTo pos (starEach [e2] X.env)).any (·.1) = false) :
    PI X (.Tuple elts kk tpos) (.Call (.Name "zip" p) [e, e2] [⟨some (Str.ofString "strict"), .Constant (.bool true) ck cp, kp⟩] pos) (iZZ X.K true ta) := by
  refine ⟨fun pins s σ H R I h => ?_⟩
  refine wpAny_Call_Name_kw (ld_blt I hg hm PyProof.Rows.boot_zip ?_)
  have hA := ha.run pos pins s σ H _ I h
  rw [hs] at hA ⊢
  refine callWith_tyKw hpl rfl rfl (thn hA fun us s1 h1 => ?_)
  obtain ⟨vs, H1, I1, r1, a, b, k1, k2, xs, ys, rfl, hqx, hqy, q⟩ := h1
  obtain ⟨u, u2, rfl, r, r'⟩ := Vals.two r1
  cases r
  cases r'
  refine PyProof.Rows.kws_cons (thn (pe_bl.run pins s1 σ H1 (fun v H2 => v = .bl true ∧ H2 = H1) I1 ⟨rfl, rfl⟩) fun v s2 h2 => PyProof.Rows.kws_nil ?_)
  obtain ⟨v', H2, I2, rv', rfl, rfl⟩ := h2
  obtain rfl : v = Value.bool true := rv'
  obtain ⟨its, rv, p1, la⟩ := hqx.at' I2
  obtain ⟨its2, rv2, p2, lb⟩ := hqy.at' I2
  exact zz_call1 p1 p2 fun g n => zz_made I2 n la lb q
end
end Rp
/-! # A small language of resolved trees, with a wish-transformer over a store of numbered objects -/
namespace Rp
open PySem

/-- the built-in classes of which things are asked -/
inductive BT where
  | non | int | bool | str | tuple | list | dict
  deriving DecidableEq
def BT.nm : BT → String
  | .non => "NoneType" | .int => "int" | .bool => "bool" | .str => "str" | .tuple => "tuple" | .list => "list" | .dict => "dict"

/-- values: tuples, lists that never change, instances that never change are trees; what changes stands in the store -/
inductive PV where
  | non
  | bl (b : Bool)
  | int (i : Int)
  | str (s : Str)
  | tup (xs : List PV)
  /-- the script -/
  | scr (xs : List PV)
  /-- a list that never changes -/
  | ls (xs : List PV)
  | ref (i : Nat)
  | fn (i : Nat)
  | cls (i : Nat)
  | ty (n : BT)
  | obj (c : Nat) (ks : List Nat) (vs : List PV)
  /-- a dict that never changes: its keys as whole numbers and names, its values -/
  | dct (ks : List (Int ⊕ Nat)) (vs : List PV)
  /-- a function made by a nested def: its number, what the captured names hold -/
  | clo (k : Nat) (caps : List PV)

instance : Inhabited PV := ⟨.non⟩

/-- a dict's keys: whole numbers, names (by their numbers) -/
inductive DK where
  | inl (i : Int)
  | inr (n : Nat)
  deriving DecidableEq

/-- what stands in the store -/
inductive SO where
  | lst (xs : List PV)
  | dic (kvs : List (DK × PV))
  | ins (c : Nat) (fs : List (Nat × PV))

abbrev Store := List SO
abbrev Sg := List (Option PV)

/-- a raised error: an own class, its fields -/
structure Ex where
  cls : Nat
  fs : List (Nat × PV)

/-- the built-in functions and classes that are called -/
inductive Blt where
  | len | sum | max | min | abs | int | str | repr | list | tuple | sorted | isinstance | all | any | bool
  deriving DecidableEq
def Blt.nm : Blt → String
  | .len => "len" | .sum => "sum" | .max => "max" | .min => "min" | .abs => "abs" | .int => "int" | .str => "str" | .repr => "repr" | .list => "list" | .tuple => "tuple"
  | .sorted => "sorted" | .isinstance => "isinstance" | .all => "all" | .any => "any" | .bool => "bool"

/-! ### names by numbers -/
def digs : Nat → Nat → List Nat
  | 0, _ => []
  | k + 1, n => if n = 0 then [] else (n % 256) :: digs k (n / 256)
/-- a name by its number: its signs are the number's digits by 256, the first one lowest -/
def dN (n : Nat) : Str := ⟨(digs n n).toArray⟩
def undig : List Nat → Nat
  | [] => 0
  | d :: r => d + 256 * undig r
theorem undig_digs : ∀ k n, n ≤ k → undig (digs k n) = n
  | 0, n, h => by
    obtain rfl : n = 0 := by omega
    rfl
  | k + 1, n, h => by
    unfold digs
    by_cases e : n = 0
    · rw [if_pos e, e]; rfl
    · rw [if_neg e]
      show n % 256 + 256 * undig (digs k (n / 256)) = n
      rw [undig_digs k (n / 256) (by omega)]
      omega
theorem dN_inj {a b : Nat} (h : dN a = dN b) : a = b := by
  unfold dN at h
  injection h with h
  have h2 : digs a a = digs b b := by simpa using congrArg Array.toList h
  have := undig_digs a a (Nat.le_refl _)
  rw [h2, undig_digs b b (Nat.le_refl _)] at this
  exact this.symm

/-- the methods of the built-in classes -/
inductive BM where
  | append | pop | extend
  deriving DecidableEq
def BM.nm : BM → Nat
  | .append => 110425311047777 | .pop => 7368560 | .extend => 110425311311973

abbrev QV := PV → Store → Prop
abbrev QX := Ex → Store → Prop

mutual
inductive RE where
  | loc (i : Nat)
  | const (c : PV)
  | glob (x : String) (c : PV)
  | bin (op : Operator) (a b : RE)
  | neg (a : RE)
  | cmp (op : CmpOp) (a b : RE)
  | chain (op op' : CmpOp) (a b c : RE)
  | and (es : REs)
  | or (es : REs)
  | not (a : RE)
  | ite (c a b : RE)
  | tup (es : REs)
  /-- a list that never changes; one that does -/
  | lst (m : Bool) (es : REs)
  | dic (ks : List DK) (vs : REs)
  /-- a dict that never changes -/
  | dicF (ks : List DK) (vs : REs)
  /-- a text put together -/
  | fstr (es : REs)
  /-- a def of the text: its number, the written positional arguments, the keywords' values, their names, how the parameters are filled -/
  | call (f : Nat) (x : String) (es : REs) (ks : List String) (kes : REs) (arr : List (Nat ⊕ PV))
  | make (c : Nat) (x : String) (es : REs) (ks : List String) (kes : REs) (arr : List (Nat ⊕ PV))
  /-- an instance that never changes: its __init__ stores arguments, no more -/
  | mko (c : Nat) (x : String) (es : REs) (ks : List String) (kes : REs) (arr : List (Nat ⊕ PV)) (fl : List (Nat × Nat))
  | blt (b : Blt) (es : REs)
  /-- list(a), a list that changes -/
  | listM (es : REs)
  | bltK (b : Blt) (es : REs) (ks : List String) (kes : REs)
  | meth (o : RE) (m : Nat) (b : Option BM) (es : REs) (ks : List String) (kes : REs) (arr : List (Nat ⊕ PV))
  | fld (o : RE) (f : Nat)
  | sub (o i : RE)
  /-- o['name'] of a dict -/
  | subK (o : RE) (f : Nat)
  /-- o[i] of a dict, by a number -/
  | subI (o i : RE)
  | slice (o : RE) (lo hi : RO)
  /-- o[::-1] -/
  | rev (m : Bool) (o : RE)
  /-- o[::st] -/
  | step (o : RE) (st : Int)
  /-- a == b, a != b by the text's own == -/
  | eqO (neg : Bool) (a b : RE)
  /-- a in b, a not in b, of instances by the text's own == -/
  | inO (neg : Bool) (a b : RE)
  /-- a == [], a != [], of lists with whatever in them -/
  | eqE (neg : Bool) (a b : RE)
  | join (a b : RE)
  | fOwn (a : RE)
  | fmtR (a : RE)
  | eqP (a b : RE)
  /-- len(a), str(a), repr(a) by the text's own -/
  | bltO (b : Blt) (a : RE)
  /-- len(range(a)) -/
  | lenR (a : RE)
  /-- a.split(b), texts -/
  | split (m : Bool) (a b : RE)
  /-- o[i], o a text -/
  | subT (o i : RE)
  /-- a in b, a sign and a text -/
  | inT (a b : RE)
  /-- list(range(a)) -/
  | lstR (m : Bool) (a : RE)
  /-- sorted(ns), sorted(set(ns)): a list of ints -/
  | srt (m : Bool) (a : RE)
  | srtSet (m : Bool) (a : RE)
  /-- a built-in class by its name, as a value -/
  | gty (n : BT)
  | lc (m : Bool) (elt : RE) (tg : RT) (it : RI) (ifs : REs) (own : List Nat)
  /-- f(es), f any expression that tells a function -/
  | callE (f : RE) (es : REs)
  /-- what is never come to -/
  | dead
inductive REs where
  | nil
  | cons (e : RE) (es : REs)
inductive RO where
  | none
  | some (e : RE)
/-- what is walked -/
inductive RI where
  | val (e : RE)
  | range (es : REs)
  | enum (e : RE) (c : Int)
  /-- a text, sign by sign -/
  | txt (e : RE)
  | zip (a b : RE) (strict : Bool)
/-- targets -/
inductive RT where
  | name (i : Nat)
  | tup (ts : RTs)
  | sub (o i : RE)
  | subK (o : RE) (f : Nat)
  | fld (o : RE) (f : Nat)
inductive RTs where
  | nil
  | cons (t : RT) (ts : RTs)
  | star (i : Nat)
end

/-! ### what stands in an except clause: e is the error that it holds -/
mutual
inductive HE where
  | const (c : PV)
  | loc (i : Nat)
  /-- e.f -/
  | fld (f : Nat)
  /-- isinstance(e, t), isinstance(e, (t, ..)) -/
  | isin (one : Bool) (ts : List (String × (Nat ⊕ String)))
  | not (a : HE)
  | and (a b : HE)
  | or (a b : HE)
  | tup (es : HEs)
inductive HEs where
  | nil
  | cons (e : HE) (es : HEs)
end
mutual
inductive HS where
  | asg (i : Nat) (e : HE)
  | ife (c : HE) (a : HSs)
  | ret (e : HE)
inductive HSs where
  | nil
  | cons (s : HS) (ss : HSs)
end

mutual
inductive RS where
  | asg (t : RT) (e : RE)
  | setlc (m : Bool) (i : Nat) (elt : RE) (tg : RT) (it : RI) (ifs : REs) (own : List Nat)
  | asg2 (t u : RT) (e : RE)
  | asg3 (t u w : RT) (e : RE)
  | par (is : List Nat) (es : REs)
  | aug (i : Nat) (op : Operator) (e : RE)
  | augF (o : RE) (f : Nat) (op : Operator) (e : RE)
  | expr (e : RE)
  | doc
  | ret (e : RE)
  | retN
  | ife (c : RE) (a b : RSs)
  | whl (c : RE) (a : RSs)
  | for_ (tg : RT) (it : RI) (a : RSs)
  | brk
  | cont
  | pass
  /-- raise of an own error, made on the spot -/
  | raise (c : Nat) (s : String) (es : REs)
  /-- try: .. except s as i: .. -/
  | tryE (a : RSs) (c : Nat) (s : String) (i : Nat) (h : HSs)
  /-- what is never come to -/
  | dead
inductive RSs where
  | nil
  | cons (s : RS) (ss : RSs)
end

/-! ### the table of a text -/
structure FDef where
  /-- names by place, parameters first -/
  N : List String
  /-- how many parameters -/
  np : Nat
  body : RSs
  /-- at its end a function is made and told: its number, the captured names -/
  tail : Option (Nat × List Nat)
structure CDef where
  ini : Option Nat
  ms : List (Nat × Nat)
  /-- the class itself, and those above -/
  up : List Nat
/-- a class of errors -/
structure EDef where
  /-- what its __init__ stores, by place -/
  fs : List Nat
  /-- the own classes that it is below of, itself too -/
  up : List Nat
  /-- the built-in ones -/
  bt : List String
  /-- may be made (an __init__ over ValueError that stores its arguments) -/
  made : Bool
structure Tab where
  fns : List FDef
  cls : List CDef
  exs : List EDef
  /-- the nested defs -/
  nst : List Nat

instance : Inhabited FDef := ⟨⟨[], 0, .nil, .none⟩⟩
instance : Inhabited CDef := ⟨⟨.none, [], []⟩⟩

/-- what a call of the def f with these (bound) arguments brings -/
abbrev CS := Nat → List PV → Store → QV → QX → Prop

/-- the largest size of a list, a tuple, a text -/
abbrev lim : Nat := 16777216

/-- a wish for what is there -/
def onS {α : Type} (o : Option α) (P : α → Prop) : Prop := match o with
  | some x => P x
  | .none => False
def onT (b : Bool) (P : Prop) : Prop := match b with
  | true => P
  | false => False
theorem onS_ex {α : Type} {o : Option α} {P : α → Prop} (h : onS o P) : ∃ x, o = some x ∧ P x := by
  cases o with
  | none => exact h.elim
  | some x => exact ⟨x, rfl, h⟩
theorem onT_ex {b : Bool} {P : Prop} (h : onT b P) : b = true ∧ P := by
  cases b with
  | false => exact h.elim
  | true => exact ⟨rfl, h⟩
theorem onS_of {α : Type} {o : Option α} {P : α → Prop} {x : α} (h : o = some x) (q : P x) : onS o P := by
  rw [h]
  exact q
theorem onT_of {b : Bool} {P : Prop} (h : b = true) (q : P) : onT b P := by
  rw [h]
  exact q
theorem onS_mono {α : Type} {o : Option α} {P P' : α → Prop} (i : ∀ x, P x → P' x) (h : onS o P) : onS o P' := by
  obtain ⟨x, e, q⟩ := onS_ex h
  exact onS_of e (i x q)
theorem onT_mono {b : Bool} {P P' : Prop} (i : P → P') (h : onT b P) : onT b P' := by
  obtain ⟨e, q⟩ := onT_ex h
  exact onT_of e (i q)
def getS (σ : Sg) (i : Nat) : Option PV := match σ[i]? with
  | some (some v) => some v
  | _ => .none
theorem getS_ex {σ : Sg} {i : Nat} {v : PV} (h : getS σ i = some v) : σ[i]? = some (some v) := by
  unfold getS at h
  split at h
  · rename_i e
    cases h
    exact e
  · cases h

/-! ### plain data: what ==, repr look through -/
def dkD : Int ⊕ Nat → PyData
  | .inl i => .int i
  | .inr n => .str (dN n)
def dkS : DK → Int ⊕ Nat
  | .inl i => .inl i
  | .inr n => .inr n
mutual
inductive Dat : Store → PV → PyData → Prop where
  | non {S} : Dat S .non .none
  | bl {S} (b : Bool) : Dat S (.bl b) (.bool b)
  | int {S} (i : Int) : Dat S (.int i) (.int i)
  | str {S} (x : Str) : Dat S (.str x) (.str x)
  | tup {S xs ds} : Dats S xs ds → Dat S (.tup xs) (.tuple ds)
  | scr {S xs ds} : Dats S xs ds → Dat S (.scr xs) (.list ds)
  | ls {S xs ds} : Dats S xs ds → Dat S (.ls xs) (.list ds)
  | lst {S : Store} {i xs ds} : S[i]? = some (SO.lst xs) → Dats S xs ds → Dat S (.ref i) (.list ds)
  | dct {S ks vs ds} : Dats S vs ds → Dat S (.dct ks vs) (.dict ((ks.map dkD).zip ds))
inductive Dats : Store → List PV → List PyData → Prop where
  | nil {S} : Dats S [] []
  | cons {S x xs d ds} : Dat S x d → Dats S xs ds → Dats S (x :: xs) (d :: ds)
end
mutual
def PV.dat : PV → Option PyData
  | .non => some .none
  | .bl b => some (.bool b)
  | .int i => some (.int i)
  | .str x => some (.str x)
  | .tup xs => (PV.dats xs).map .tuple
  | .scr xs => (PV.dats xs).map .list
  | .ls xs => (PV.dats xs).map .list
  | .dct ks vs => (PV.dats vs).map fun ds => .dict ((ks.map dkD).zip ds)
  | _ => .none
def PV.dats : List PV → Option (List PyData)
  | [] => some []
  | x :: xs => (PV.dat x).bind fun d => (PV.dats xs).map (d :: ·)
end
/-- a store's list, as it is now -/
def deref (S : Store) : PV → PV
  | .ref i => match S[i]? with
    | some (.lst xs) => .ls xs
    | _ => .ref i
  | v => v
def datS (S : Store) (v : PV) : Option PyData := (deref S v).dat
mutual
theorem dat_of {S : Store} : ∀ {v : PV} {d : PyData}, v.dat = some d → Dat S v d
  | .non, d, h => by cases h; exact .non
  | .bl b, d, h => by cases h; exact .bl b
  | .int b, d, h => by cases h; exact .int b
  | .str b, d, h => by cases h; exact .str b
  | .tup xs, d, h => by
    simp only [PV.dat, Option.map_eq_some_iff] at h
    obtain ⟨ds, e, rfl⟩ := h
    exact .tup (dats_of e)
  | .scr xs, d, h => by
    simp only [PV.dat, Option.map_eq_some_iff] at h
    obtain ⟨ds, e, rfl⟩ := h
    exact .scr (dats_of e)
  | .ls xs, d, h => by
    simp only [PV.dat, Option.map_eq_some_iff] at h
    obtain ⟨ds, e, rfl⟩ := h
    exact .ls (dats_of e)
  | .ref _, d, h => by cases h
  | .fn _, d, h => by cases h
  | .cls _, d, h => by cases h
  | .ty _, d, h => by cases h
  | .obj _ _ _, d, h => by cases h
  | .clo _ _, d, h => by cases h
  | .dct ks vs, d, h => by
    simp only [PV.dat, Option.map_eq_some_iff] at h
    obtain ⟨ds, e, rfl⟩ := h
    exact .dct (dats_of e)
theorem dats_of {S : Store} : ∀ {vs : List PV} {ds : List PyData}, PV.dats vs = some ds → Dats S vs ds
  | [], ds, h => by cases h; exact .nil
  | x :: xs, ds, h => by
    simp only [PV.dats, Option.bind_eq_some_iff, Option.map_eq_some_iff] at h
    obtain ⟨d, e, ds', e', rfl⟩ := h
    exact .cons (dat_of e) (dats_of e')
end
theorem datS_of {S : Store} {v : PV} {d : PyData} (h : datS S v = some d) : Dat S v d := by
  unfold datS deref at h
  split at h
  · split at h
    · rename_i i xs e
      simp only [PV.dat, Option.map_eq_some_iff] at h
      obtain ⟨ds, e1, rfl⟩ := h
      exact .lst e (dats_of e1)
    · cases h
  · exact dat_of h

/-- truth -/
def tru (S : Store) : PV → Option Bool
  | .non => some false
  | .bl b => some b
  | .int i => some (decide (i ≠ 0))
  | .str s => if s.length ≤ lim then some (decide (s.length ≠ 0)) else .none
  | .tup xs => some (!xs.isEmpty)
  | .scr xs => some (!xs.isEmpty)
  | .ls xs => some (!xs.isEmpty)
  | .ref i => match S[i]? with
    | some (.lst xs) => some (!xs.isEmpty)
    | _ => .none
  | _ => .none

/-- a list's items -/
def lstOf (S : Store) : PV → Option (List PV)
  | .scr xs => some xs
  | .ls xs => some xs
  | .ref i => match S[i]? with
    | some (.lst xs) => some xs
    | _ => .none
  | _ => .none
/-- .. but the script's -/
def lsOf (S : Store) : PV → Option (List PV)
  | .ls xs => some xs
  | .ref i => match S[i]? with
    | some (.lst xs) => some xs
    | _ => .none
  | _ => .none
/-- the items that stand in a value -/
def itemsOf (S : Store) : PV → Option (List PV)
  | .tup xs => some xs
  | .scr xs => some xs
  | .ls xs => some xs
  | .ref i => match S[i]? with
    | some (.lst xs) => some xs
    | _ => .none
  | _ => .none
/-- a list of the store -/
def lstAt (S : Store) (i : Nat) : Option (List PV) := match S[i]? with
  | some (.lst xs) => some xs
  | _ => .none
def dicAt (S : Store) (i : Nat) : Option (List (DK × PV)) := match S[i]? with
  | some (.dic xs) => some xs
  | _ => .none
theorem lstAt_ex {S : Store} {i : Nat} {xs : List PV} (h : lstAt S i = some xs) : S[i]? = some (.lst xs) := by
  unfold lstAt at h
  split at h
  · rename_i e
    cases h
    exact e
  · cases h
theorem dicAt_ex {S : Store} {i : Nat} {xs : List (DK × PV)} (h : dicAt S i = some xs) : S[i]? = some (.dic xs) := by
  unfold dicAt at h
  split at h
  · rename_i e
    cases h
    exact e
  · cases h
/-- an instance: its class, its fields -/
def insOf (S : Store) : PV → Option (Nat × List (Nat × PV))
  | .obj c ks vs => some (c, ks.zip vs)
  | .ref i => match S[i]? with
    | some (.ins c fs) => some (c, fs)
    | _ => .none
  | _ => .none

/-- a name's signs -/
abbrev sN (x : String) : Str := Str.ofString x
/-- stored in a dict: in its place, or at the end -/
def putD (f : DK) (v : PV) (kvs : List (DK × PV)) : List (DK × PV) :=
  if (kvs.any fun kv => decide (kv.1 = f)) = true then kvs.map (fun kv => if kv.1 = f then (kv.1, v) else kv) else kvs ++ [(f, v)]
def mergeD (kvs more : List (DK × PV)) : List (DK × PV) := more.foldl (fun acc kv => putD kv.1 kv.2 acc) kvs
def putFl (f : Nat) (v : PV) : List (Nat × PV) → List (Nat × PV)
  | [] => [(f, v)]
  | (g, w) :: r => if g = f then (g, v) :: r else (g, w) :: putFl f v r
/-! ### what the built-in operations bring -/
/-- x[k] of a row -/
def idx {α : Type} (xs : List α) (k : Int) : Option α :=
  if 0 ≤ k then xs[k.toNat]? else if 0 ≤ (xs.length : Int) + k then xs[((xs.length : Int) + k).toNat]? else .none
/-- the place of x[k] = .. -/
def ixP (n : Nat) (k : Int) : Option Nat :=
  if 0 ≤ k then (if k < (n : Int) then some k.toNat else .none) else if 0 ≤ (n : Int) + k then some ((n : Int) + k).toNat else .none
/-- the place that a bound tells -/
def bnd (n d : Nat) : Option Int → Nat
  | .none => d
  | .some v => if v < 0 then (v + (n : Int)).toNat else min v.toNat n
/-- xs[lo:hi] -/
def cutL {α : Type} (xs : List α) (lo hi : Option Int) : List α := (xs.drop (bnd xs.length 0 lo)).take (bnd xs.length xs.length hi - bnd xs.length 0 lo)

def fit (i : Int) : Prop := -(2 ^ 64) < i ∧ i < 2 ^ 64
/-- products: one side is small, or both together below a million bits -/
def mulOk (a b : Int) : Prop := fit a ∨ fit b ∨ a.natAbs.log2 + b.natAbs.log2 < 100000000
def divOk (b : Int) : Prop := 0 < b ∧ b < 1073741824
instance fit_dec : (x : Int) → Decidable (fit x)
  | .ofNat n => if h : n < 18446744073709551616 then .isTrue ⟨by have : (0 : Int) ≤ (n : Int) := Int.natCast_nonneg n; show -(2 ^ 64) < (n : Int); omega, by show (n : Int) < 2 ^ 64; omega⟩ else .isFalse fun z => h (by have : (n : Int) < 2 ^ 64 := z.2; omega)
  | .negSucc n => if h : n < 18446744073709551615 then .isTrue ⟨by omega, by omega⟩ else .isFalse fun z => h (by have := z.1; omega)
instance {a b : Int} : Decidable (mulOk a b) := by unfold mulOk; infer_instance
instance {b : Int} : Decidable (divOk b) := by unfold divOk; infer_instance

def wpBin (op : Operator) (x y : PV) (S : Store) (Q : QV) : Prop :=
  match op with
  | .Add => match x, y with
    | .int a, .int b => Q (.int (a + b)) S
    | .str a, .str b => onT (decide (a.length + b.length ≤ lim)) (Q (.str (a ++ b)) S)
    | .tup xs, .tup ys => onT (decide (xs.length + ys.length ≤ lim)) (Q (.tup (xs ++ ys)) S)
    | x, y => onS (lsOf S x) fun xs => onS (lsOf S y) fun ys => onT (decide (xs.length + ys.length ≤ lim)) (Q (.ls (xs ++ ys)) S)
  | .Sub => match x, y with
    | .int a, .int b => Q (.int (a - b)) S
    | _, _ => False
  | .Mult => match x, y with
    | .int a, .int b => onT (decide (mulOk a b)) (Q (.int (a * b)) S)
    | .tup xs, .int n => onT (decide (-1000000 ≤ n ∧ n ≤ 1000 ∧ xs.length ≤ 1000)) (Q (.tup (List.replicate n.toNat xs).flatten) S)
    | x, .int n => onS (lsOf S x) fun xs => onT (decide (-1000000 ≤ n ∧ n ≤ 1000000 ∧ xs.length * n.toNat ≤ lim)) (Q (.ls (List.replicate n.toNat xs).flatten) S)
    | _, _ => False
  | .FloorDiv => match x, y with
    | .int a, .int b => onT (decide (divOk b)) (Q (.int (a / b)) S)
    | _, _ => False
  | .Mod => match x, y with
    | .int a, .int b => onT (decide (0 < b)) (Q (.int (a % b)) S)
    | _, _ => False
  | .Pow => match x, y with
    | .int a, .int b => onT (decide (0 ≤ b ∧ b ≤ 1000000 ∧ fit a)) (Q (.int (a ^ b.toNat)) S)
    | _, _ => False
  | _ => False

/-- x op= y, of numbers -/
def wpAug (op : Operator) (x y : PV) (S : Store) (Q : QV) : Prop :=
  match op, x, y with
  | .Add, .int a, .int b => Q (.int (a + b)) S
  | .Sub, .int a, .int b => Q (.int (a - b)) S
  | _, _, _ => False

/-- == : the scalars at once, data by their trees -/
def wpEq (x y : PV) (S : Store) (Q : Bool → Prop) : Prop :=
  match x, y with
  | .int a, .int b => Q (decide (a = b))
  | .bl a, .bl b => Q (decide (a = b))
  | .str a, .str b => Q (decide (a = b))
  | x, y => onS (datS S x) fun d => onS (datS S y) fun e => onT (SeqAt.shaped d) (onT (SeqAt.shaped e) (Q (PyData.eqv d e)))

/-- x is y: None, truths -/
def isNon : PV → Option Bool
  | .non => some true
  | .ty _ => .none
  | _ => some false
def isBl (b : Bool) : PV → Option Bool
  | .bl a => some (decide (a = b))
  | .ty _ => .none
  | .fn _ => .none
  | .cls _ => .none
  | _ => some false
def wpIs (x y : PV) (Q : Bool → Prop) : Prop :=
  match y with
  | .non => onS (isNon x) Q
  | .bl b => onS (isBl b x) Q
  | _ => False

/-- whole numbers, truths -/
def intsOf : List PV → Option (List Int)
  | [] => some []
  | .int i :: r => (intsOf r).map (i :: ·)
  | _ => .none
def blsOf : List PV → Option (List Bool)
  | [] => some []
  | .bl b :: r => (blsOf r).map (b :: ·)
  | _ => .none
/-- None, truths, numbers, texts -/
def flatP : PV → Bool
  | .non => true
  | .bl _ => true
  | .int _ => true
  | .str _ => true
  | _ => false
/-- an item is the None, the text that is sought -/
def eqI (a y : PV) : Bool := match a, y with
  | .non, .non => true
  | .str s, .str z => z == s
  | _, _ => false
/-- data in a list -/
def wpInD (x y : PV) (S : Store) (Q : Bool → Prop) : Prop := onS (datS S x) fun d => onS (lstOf S y) fun ys => onS (PV.dats ys) fun ds => onT (SeqAt.shaped d) (onT (SeqAt.shaped (.list ds)) (Q (ds.any fun z => PyData.eqv z d)))
/-- x in y: whole numbers among such; None, a text in a tuple of flat things; else data in a list -/
def wpIn (x y : PV) (S : Store) (Q : Bool → Prop) : Prop :=
  match x with
  | .int i => onS (itemsOf S y) fun ys => onS (intsOf ys) fun ns => Q (decide (i ∈ ns))
  | .non => match y with
    | .tup ys => onT (ys.all flatP) (Q (ys.any (eqI .non)))
    | y => wpInD .non y S Q
  | .str s => match y with
    | .tup ys => onT (ys.all flatP) (Q (ys.any (eqI (.str s))))
    | y => wpInD (.str s) y S Q
  | x => wpInD x y S Q
def wpCmp (op : CmpOp) (x y : PV) (S : Store) (Q : Bool → Prop) : Prop :=
  match op with
  | .Eq => wpEq x y S Q
  | .NotEq => wpEq x y S fun b => Q (!b)
  | .Is => wpIs x y Q
  | .IsNot => wpIs x y fun b => Q (!b)
  | .Lt => match x, y with
    | .int a, .int b => Q (decide (a < b))
    | _, _ => False
  | .LtE => match x, y with
    | .int a, .int b => Q (decide (a ≤ b))
    | _, _ => False
  | .Gt => match x, y with
    | .int a, .int b => Q (decide (b < a))
    | _, _ => False
  | .GtE => match x, y with
    | .int a, .int b => Q (decide (b ≤ a))
    | _, _ => False
  | .In => wpIn x y S Q
  | .NotIn => wpIn x y S fun b => Q (!b)

/-- x[i] of a row -/
def wpSub (x i : PV) (S : Store) (Q : QV) : Prop :=
  match i with
  | .int k => onS (itemsOf S x) fun xs => onS (idx xs k) fun v => Q v S
  | _ => False
/-- x['name'] of a dict -/
def wpSubK (x : PV) (f : Nat) (S : Store) (Q : QV) : Prop :=
  match x with
  | .ref a => onS (dicAt S a) fun kvs => onS (kvs.lookup (.inr f)) fun v => Q v S
  | _ => False
/-- x[k] of a dict -/
def wpSubI (x k : PV) (S : Store) (Q : QV) : Prop :=
  match x, k with
  | .ref a, .int n => onS (dicAt S a) fun kvs => onS (kvs.lookup (.inl n)) fun v => Q v S
  | _, _ => False
/-- the signs of a text -/
def signs (s : Str) : List PV := s.cps.toList.map fun c => .str ⟨#[c]⟩
/-- the numbers ahead of n -/
def rgI (n : Int) : List PV := (List.range n.toNat).map fun k => .int (k : Nat)
/-- a new list: one that changes, one that doesn't -/
def newL (m : Bool) (xs : List PV) (S : Store) (Q : QV) : Prop := match m with
  | true => Q (.ref S.length) (S ++ [.lst xs])
  | false => Q (.ls xs) S
/-- texts, all of them -/
def strsOf : List PV → Option (List Str)
  | [] => some []
  | .str s :: r => (strsOf r).map (s :: ·)
  | _ :: _ => none
def joinLen (s : Str) (ys : List Str) : Nat := (ys.map (·.length)).sum + ys.length * s.length
def wpSplit (m : Bool) (s : Str) (y : PV) (S : Store) (Q : QV) : Prop := match y with
  | .str t => onT (!(t.length == 0) && decide (s.length + 2 ≤ lim)) (newL m ((Txt.split s t).map .str) S Q)
  | _ => False
def wpSubT (x k : PV) (S : Store) (Q : QV) : Prop := match x, k with
  | .str s, .int i => onT (decide (s.length ≤ lim)) (onS (L2.atI s.cps.toList i) fun c => Q (.str ⟨#[c]⟩) S)
  | _, _ => False
def wpInT (x y : PV) (S : Store) (Q : QV) : Prop := match x, y with
  | .str s, .str z => match s.cps.toList with
    | [c] => Q (.bl (decide (c ∈ z.cps.toList))) S
    | _ => False
  | _, _ => False
/-- s.join(y) -/
def wpJoin (s : Str) (y : PV) (S : Store) (Q : QV) : Prop := onS (lsOf S y) fun xs => onS (strsOf xs) fun ys => onT (decide (joinLen s ys ≤ 16777216)) (Q (.str (Txt.join s ys)) S)
/-- x[lo:hi] -/
def wpSlice (x : PV) (lo hi : Option Int) (S : Store) (Q : QV) : Prop :=
  match x with
  | .tup xs => Q (.tup (cutL xs lo hi)) S
  | x => onS (lstOf S x) fun xs => Q (.ls (cutL xs lo hi)) S
/-- every st-th item -/
def pickL {α : Type} (xs : List α) (st : Int) : List α := (sliceRange (sliceBounds none none (some st) xs.length).1 (sliceBounds none none (some st) xs.length).2.1 (sliceBounds none none (some st) xs.length).2.2).filterMap (xs[·]?)
/-- x[::st] -/
def wpStep (x : PV) (st : Int) (S : Store) (Q : QV) : Prop :=
  onS (lstOf S x) fun xs => onT (decide (st ≠ 0)) (Q (.ls (pickL xs st)) S)
/-- x[i] = v -/
def wpSet (x i v : PV) (S : Store) (Q : Store → Prop) : Prop :=
  match x, i with
  | .ref a, .int k => onS (lstAt S a) fun xs => onS (ixP xs.length k) fun j => Q (S.set a (.lst (xs.set j v)))
  | _, _ => False
/-- x['name'] = v -/
def wpSetK (x : PV) (f : Nat) (v : PV) (S : Store) (Q : Store → Prop) : Prop :=
  match x with
  | .ref a => onS (dicAt S a) fun kvs => onT (decide (kvs.length < 1000)) (Q (S.set a (.dic (putD (.inr f) v kvs))))
  | _ => False

/-- the greatest, the least of a row of numbers -/
def maxI : List Int → Int
  | [] => 0
  | [a] => a
  | a :: b :: r => if a < maxI (b :: r) then maxI (b :: r) else a
def minI : List Int → Int
  | [] => 0
  | [a] => a
  | a :: b :: r => if minI (b :: r) < a then minI (b :: r) else a

/-- one argument, two arguments -/
def one (vs : List PV) (P : PV → Prop) : Prop := match vs with
  | [x] => P x
  | _ => False
def two (vs : List PV) (P : PV → PV → Prop) : Prop := match vs with
  | [x, y] => P x y
  | _ => False
def isInt (x : PV) (P : Int → Prop) : Prop := match x with
  | .int i => P i
  | _ => False
theorem isInt_ex {x : PV} {P : Int → Prop} (h : isInt x P) : ∃ i, x = .int i ∧ P i := by
  cases x <;> first
    | exact ⟨_, rfl, h⟩
    | exact h.elim
def isBool (x : PV) (P : Bool → Prop) : Prop := match x with
  | .bl b => P b
  | _ => False
theorem isBool_ex {x : PV} {P : Bool → Prop} (h : isBool x P) : ∃ i, x = .bl i ∧ P i := by
  cases x <;> first
    | exact ⟨_, rfl, h⟩
    | exact h.elim
def wpLen (x : PV) (S : Store) (Q : QV) : Prop := match x with
  | .str s => onT (decide (s.length ≤ lim)) (Q (.int (s.length : Int)) S)
  | x => onS (itemsOf S x) fun xs => Q (.int (xs.length : Int)) S
def wpInt (x : PV) (S : Store) (Q : QV) : Prop := match x with
  | .int i => Q (.int i) S
  | .bl k => Q (.int (if k = true then 1 else 0)) S
  | .str s => onS (PySem.intText? s) fun n => onT (decide (s.length ≤ 640)) (Q (.int n) S)
  | _ => False
def wpMax (vs : List PV) (S : Store) (Q : QV) : Prop := match vs with
  | [x] => onS (itemsOf S x) fun xs => onS (intsOf xs) fun ns => onT (!ns.isEmpty) (Q (.int (maxI ns)) S)
  | [x, y] => isInt x fun i => isInt y fun j => Q (.int (if j > i then j else i)) S
  | _ => False
def wpMin (vs : List PV) (S : Store) (Q : QV) : Prop := match vs with
  | [x] => onS (itemsOf S x) fun xs => onS (intsOf xs) fun ns => onT (!ns.isEmpty) (Q (.int (minI ns)) S)
  | [x, y] => isInt x fun i => isInt y fun j => Q (.int (if j < i then j else i)) S
  | _ => False
/-- what repr shows, what str tells of a number: words of their own, that no step looks into -/
def shS : Nat → PyData → Str
  | 0, d => d.shown
  | n + 1, d => shS n d
termination_by n => n
def itS : Nat → Int → Str
  | 0, i => Str.ofString (toString i)
  | n + 1, i => itS n i
termination_by n => n
theorem shS_eq (d : PyData) : shS 0 d = d.shown := by rw [shS]
theorem itS_eq (i : Int) : itS 0 i = Str.ofString (toString i) := by rw [itS]
/-- what repr shows -/
def shOk (d : PyData) : Bool := d.showable && decide (d.depth ≤ 64) && decide ((shS 0 d).length ≤ lim)
def wpRepr (x : PV) (S : Store) (Q : QV) : Prop := onS (datS S x) fun d => onT (shOk d) (Q (.str (shS 0 d)) S)
/-- what kind of thing a value is -/
inductive Knd where
  | ty (n : BT)
  | ins (c : Nat)
def knd (S : Store) : PV → Option Knd
  | .non => some (.ty .non)
  | .bl _ => some (.ty .bool)
  | .int _ => some (.ty .int)
  | .str _ => some (.ty .str)
  | .tup _ => some (.ty .tuple)
  | .scr _ => some (.ty .list)
  | .ls _ => some (.ty .list)
  | .obj c _ _ => some (.ins c)
  | .dct _ _ => some (.ty .dict)
  | .ref i => match S[i]? with
    | some (.lst _) => some (.ty .list)
    | some (.dic _) => some (.ty .dict)
    | some (.ins c _) => some (.ins c)
    | .none => .none
  | _ => .none
def btSub (a b : BT) : Bool := decide (a = b) || match a, b with
  | .bool, .int => true
  | _, _ => false
def isOne (T : Tab) : Knd → PV → Option Bool
  | _, .ty .non => .none
  | .ty a, .ty b => some (btSub a b)
  | .ty _, .cls d => (T.cls[d]?).map fun _ => false
  | .ins c, .ty _ => (T.cls[c]?).map fun _ => false
  | .ins c, .cls d => (T.cls[c]?).bind fun cd => (T.cls[d]?).map fun _ => cd.up.contains d
  | _, _ => .none
def isAny (T : Tab) (k : Knd) : List PV → Option Bool
  | [] => some false
  | c :: r => match isOne T k c with
    | some true => some true
    | some false => isAny T k r
    | .none => .none
def isInst (T : Tab) (S : Store) (x t : PV) : Option Bool := (knd S x).bind fun k => match t with
  | .tup (c :: r) => isAny T k (c :: r)
  | t => isOne T k t
/-- a built-in called without keywords -/
def wpBlt (T : Tab) (b : Blt) (vs : List PV) (S : Store) (Q : QV) : Prop :=
  match b with
  | .len => one vs fun x => wpLen x S Q
  | .sum => one vs fun x => onS (itemsOf S x) fun xs => onS (intsOf xs) fun ns => Q (.int ns.sum) S
  | .max => wpMax vs S Q
  | .min => wpMin vs S Q
  | .abs => one vs fun x => isInt x fun i => Q (.int (if i < 0 then -i else i)) S
  | .int => one vs fun x => wpInt x S Q
  | .list => one vs fun x => onS (itemsOf S x) fun xs => Q (.ls xs) S
  | .tuple => one vs fun x => onS (itemsOf S x) fun xs => Q (.tup xs) S
  | .repr => one vs fun x => wpRepr x S Q
  | .isinstance => two vs fun x t => onS (isInst T S x t) fun b => Q (.bl b) S
  | .all => one vs fun x => onS (lstOf S x) fun xs => onS (blsOf xs) fun bs => Q (.bl (bs.all id)) S
  | .any => one vs fun x => onS (lstOf S x) fun xs => onS (blsOf xs) fun bs => Q (.bl (bs.any id)) S
  | .str => one vs fun x => match x with
    | .int i => onT (decide (i.natAbs.log2 < 1920)) (Q (.str (itS 0 i)) S)
    | .str z => Q (.str z) S
    | .tup ys => onS (datS S (.tup ys)) fun d => onT (shOk d && !d.hasDict) (Q (.str (shS 0 d)) S)
    | _ => False
  | _ => False
/-- .. with keywords -/
def wpBltK (b : Blt) (vs : List PV) (ks : List String) (kvs : List PV) (S : Store) (Q : QV) : Prop :=
  match b, ks with
  | .max, ["default"] => one vs fun x => one kvs fun z => onS (lstOf S x) fun xs => onS (intsOf xs) fun ns => Q (match ns with
    | [] => z
    | n :: r => .int (maxI (n :: r))) S
  | _, _ => False

def wpBM (m : BM) (x : PV) (vs : List PV) (S : Store) (Q : QV) : Prop :=
  match m with
  | .append => one vs fun v => match x with
    | .ref a => onS (lstAt S a) fun xs => onT (decide (xs.length < lim)) (Q .non (S.set a (.lst (xs ++ [v]))))
    | _ => False
  | .extend => one vs fun v => match x with
    | .ref a => onS (lstAt S a) fun xs => onS (lsOf S v) fun ys => onT (decide (xs.length + ys.length ≤ lim)) (Q .non (S.set a (.lst (xs ++ ys))))
    | _ => False
  | .pop => match vs, x with
    | [], .ref a => onS (lstAt S a) fun xs => onS xs.getLast? fun y => Q y (S.set a (.lst xs.dropLast))
    | _, _ => False

/-! ### the wish of a tree -/
/-- how a def's parameters are filled from the written values -/
def fill (arr : List (Nat ⊕ PV)) (vs : List PV) : List PV := arr.map fun
  | .inl i => vs.getD i .non
  | .inr v => v
/-- the method m of the object v -/
def methOf (T : Tab) (S : Store) (v : PV) (m : Nat) : Option Nat :=
  (insOf S v).bind fun p => match p.2.lookup m with
    | some _ => .none
    | .none => ((T.cls[p.1]?).map (·.ms)).bind (·.lookup m)
def isLst (S : Store) (v : PV) : Bool :=
  match v with
  | .ref a => match S[a]? with
    | some (.lst _) => true
    | _ => false
  | _ => false
/-- whose method it is, ahead of the arguments: a def, or a list's own -/
def recv (T : Tab) (S : Store) (x : PV) (m : Nat) (b : Option BM) : Option (Nat ⊕ BM) :=
  match methOf T S x m with
  | some f => some (.inl f)
  | .none => match b with
    | some b' => if isLst S x = true then some (.inr b') else .none
    | .none => .none
def fldOf (T : Tab) (S : Store) (v : PV) (f : Nat) : Option PV :=
  (insOf S v).bind fun p => (T.cls[p.1]?).bind fun _ => p.2.lookup f
/-- by whose method it is -/
def onRecv (r : Option (Nat ⊕ BM)) (A : Nat → Prop) (B : BM → Prop) : Prop := match r with
  | some (.inl f) => A f
  | some (.inr b) => B b
  | .none => False
theorem onRecv_own {r : Option (Nat ⊕ BM)} {A : Nat → Prop} {B : BM → Prop} {f : Nat} (h : r = some (.inl f)) (q : A f) : onRecv r A B := by
  rw [h]
  exact q
theorem onRecv_blt {r : Option (Nat ⊕ BM)} {A : Nat → Prop} {B : BM → Prop} {b : BM} (h : r = some (.inr b)) (q : B b) : onRecv r A B := by
  rw [h]
  exact q

/-- the slots of a comprehension's own names, forgotten -/
def wipeG (σ : Sg) : List Nat → Sg
  | [] => σ
  | v :: vs => (wipeG σ vs).set v .none

/-- the numbers lo, lo + 1, .. -/
def rngL (lo : Int) : Nat → List PV
  | 0 => []
  | n + 1 => .int lo :: rngL (lo + 1) n

abbrev okR (i : Int) : Prop := -(2 ^ 62) ≤ i ∧ i < 2 ^ 62
instance okR_dec : (i : Int) → Decidable (okR i)
  | .ofNat n => if h : n < 4611686018427387904 then .isTrue ⟨by have : (0 : Int) ≤ (n : Int) := Int.natCast_nonneg n; show -(2 ^ 62) ≤ (n : Int); omega, by show (n : Int) < 2 ^ 62; omega⟩ else .isFalse fun z => h (by have : (n : Int) < 2 ^ 62 := z.2; omega)
  | .negSucc n => if h : n < 4611686018427387904 then .isTrue ⟨by omega, by omega⟩ else .isFalse fun z => h (by have := z.1; omega)

/-- enumerate's pairs -/
def enumL (i : Int) : List PV → List PV
  | [] => []
  | x :: r => .tup [.int i, x] :: enumL (i + 1) r
def zipL : List PV → List PV → List PV
  | x :: r, y :: s => .tup [x, y] :: zipL r s
  | _, _ => []

/-- a source stands still -/
def still (S : Store) (v : PV) : Store → Prop :=
  match v with
  | .ref i => fun S' => S'[i]? = S[i]?
  | _ => fun _ => True

/-- the items of a comprehension, one by one -/
def lcRun (step : PV → Store → (Option PV → Store → Prop) → Prop) (st : Store → Prop) : List PV → List PV → Store → (List PV → Store → Prop) → Prop
  | [], acc, S, F => F acc S
  | x :: r, acc, S, F => step x S fun v S' => st S' ∧ lcRun step st r (match v with | .none => acc | some y => acc ++ [y]) S' F
/-- the turns of a for -/
def forRun (turn : PV → Sg → Store → (Sg → Store → Prop) → Prop) (st : Store → Prop) : List PV → Sg → Store → (Sg → Store → Prop) → Prop
  | [], σ, S, Q => Q σ S
  | x :: r, σ, S, Q => turn x σ S fun σ' S' => st S' ∧ forRun turn st r σ' S' Q

/-- how many items are taken, of n -/
def RTs.cnt : RTs → Nat → Nat
  | .nil, _ => 0
  | .cons _ r, n => r.cnt (n - 1) + 1
  | .star _, n => n
def RTs.len : RTs → Nat
  | .nil => 0
  | .cons _ r => r.len + 1
  | .star _ => 0

/-- whose == is asked, against what -/
def eqKind (T : Tab) (S : Store) (x y : PV) : Bool := match knd S x, knd S y with
  | some (.ins c), some (.ins d) => decide (c = d) || (match T.cls[d]? with
    | some cd => !cd.up.contains c
    | .none => false)
  | some (.ins _), some (.ty _) => true
  | _, _ => false
/-- __eq__, __len__, __str__, __repr__ by their numbers -/
abbrev nEq : Nat := 104863529000799
abbrev nLen : Nat := 26845050540154719
abbrev nStr : Nat := 26845067972140895
abbrev nRepr : Nat := 6872337383454564191
/-- what has nothing to say to an instance -/
def rflKind (S : Store) : PV → Bool
  | .non => true
  | .bl _ => true
  | .int _ => true
  | .str _ => true
  | .tup _ => true
  | .dct _ _ => true
  | x => (lstOf S x).isSome
def wpEqO (T : Tab) (C : CS) (neg : Bool) (x y : PV) (S : Store) (Q : QV) : Prop := match methOf T S x nEq with
  | some f => onT (eqKind T S x y) (C f [x, y] S (fun v S' => isBool v fun k => Q (.bl (if neg = true then !k else k)) S') (fun _ _ => False))
  | .none => onT (!neg && rflKind S x) (onS (methOf T S y nEq) fun f => C f [y, x] S (fun v S' => isBool v fun k => Q (.bl k) S') (fun _ _ => False))
mutual
/-- the two may be the same thing -/
def alk : PV → PV → Prop
  | .int i, .int j => i = j
  | .bl a, .bl b => a = b
  | .str a, .str b => a = b
  | .tup xs, .tup ys => alks xs ys
  | .obj c _ vs, .obj d _ ws => alks vs ws
  | .ref i, .ref j => i = j
  | _, _ => True
def alks : List PV → List PV → Prop
  | [], [] => True
  | x :: xs, y :: ys => alk x y ∧ alks xs ys
  | _, _ => False
end
/-- what is never an instance -/
def noIns : PV → Bool
  | .non => true
  | .bl _ => true
  | .int _ => true
  | .str _ => true
  | .tup _ => true
  | .ls _ => true
  | .dct _ _ => true
  | _ => false
/-- the second one, where it is an instance, may be the first one by their kinds -/
def kin (y x : PV) : Bool := match x with
  | .obj _ _ _ => !noIns y
  | _ => true
/-- == of two items, maybe by their own == -/
def eqIt (T : Tab) (C : CS) (x y : PV) (S : Store) (K : Bool → Store → Prop) : Prop := match x, y with
  | .int i, .int j => K (decide (i = j)) S
  | x, y => (alk x y → K true S) ∧ wpEqO T C false x y S (fun v S' => isBool v fun k => K k S')
/-- .. item by item -/
def eqRun (T : Tab) (C : CS) (Q : QV) : List PV → List PV → Store → Prop
  | [], _, S => Q (.bl true) S
  | x :: xs, ys, S => match ys with
    | [] => False
    | y :: ys => eqIt T C x y S fun k S' => if k = true then eqRun T C Q xs ys S' else Q (.bl false) S'
/-- == of two tuples as long as each other -/
def wpEqP (T : Tab) (C : CS) (x y : PV) (S : Store) (Q : QV) : Prop := match x, y with
  | .tup xs, .tup ys => onT (decide (xs.length = ys.length)) (eqRun T C Q xs ys S)
  | _, _ => False
/-- x in ys, by the items' own == -/
def inRun (T : Tab) (C : CS) (x : PV) (neg : Bool) (Q : QV) : List PV → Store → Prop
  | [], S => Q (.bl neg) S
  | y :: r, S => (kin y x = true → alk y x → Q (.bl (!neg)) S) ∧ wpEqO T C false y x S (fun v S' => isBool v fun k => if k = true then Q (.bl (!neg)) S' else inRun T C x neg Q r S')
/-- .. of a tuple, of a list that never changes -/
def wpInO (T : Tab) (C : CS) (neg : Bool) (x y : PV) (S : Store) (Q : QV) : Prop := match y with
  | .tup ys => inRun T C x neg Q ys S
  | .ls ys => inRun T C x neg Q ys S
  | _ => False
/-- .. against a written empty list -/
def wpEqE (neg : Bool) (x y : PV) (S : Store) (Q : QV) : Prop := onS (lstOf S x) fun xs => match y with
  | .ls [] => Q (.bl (if neg = true then !xs.isEmpty else xs.isEmpty)) S
  | _ => False
/-- the own name for a built-in -/
def Blt.own : Blt → Option Nat
  | .len => some nLen
  | .str => some nStr
  | .repr => some nRepr
  | _ => .none
def wpBltO (T : Tab) (C : CS) (b : Blt) (x : PV) (S : Store) (Q : QV) : Prop :=
  onS b.own fun m => onS (methOf T S x m) fun f => C f [x] S (fun v S' => match b with
    | .len => isInt v fun n => onT (decide (0 ≤ n ∧ n ≤ 1000000)) (Q (.int n) S')
    | _ => match v with
      | .str s => Q (.str s) S'
      | _ => False) (fun _ _ => False)
/-- a part of a text put together -/
def txtOf : PV → Option Str
  | .str z => if z.length ≤ lim then some z else .none
  | .int i => if i.natAbs.log2 < 1920 then some (itS 0 i) else .none
  | _ => .none
/-- the fields that an __init__ stores -/
def fldsOf (fl : List (Nat × Nat)) (vs : List PV) : List PV := fl.map fun p => vs.getD p.2 .non
def cntOk (ts : RTs) (n : Nat) : Bool := decide (n = ts.cnt n)
/-- among the nested ones -/
def isN : List Nat → Nat → Bool
  | [], _ => false
  | a :: r, n => if a = n then true else isN r n
def onClo (v : PV) (P : Nat → List PV → Prop) : Prop := match v with
  | .clo k caps => P k caps
  | _ => False
theorem onClo_ex {v : PV} {P : Nat → List PV → Prop} (h : onClo v P) : ∃ k caps, v = .clo k caps ∧ P k caps := by
  cases v <;> first
    | exact ⟨_, _, rfl, h⟩
    | exact h.elim
mutual
def wpE (T : Tab) (C : CS) : RE → Sg → Store → QV → QX → Prop
  | .loc i, σ, S, Q, _ => onS (getS σ i) fun v => Q v S
  | .const c, _, S, Q, _ => Q c S
  | .glob _ c, _, S, Q, _ => Q c S
  | .bin op a b, σ, S, Q, R => wpE T C a σ S (fun x S1 => wpE T C b σ S1 (fun y S2 => wpBin op x y S2 Q) R) R
  | .neg a, σ, S, Q, R => wpE T C a σ S (fun x S1 => isInt x fun i => Q (.int (-i)) S1) R
  | .cmp op a b, σ, S, Q, R => wpE T C a σ S (fun x S1 => wpE T C b σ S1 (fun y S2 => wpCmp op x y S2 fun k => Q (.bl k) S2) R) R
  | .chain op op' a b c, σ, S, Q, R => wpE T C a σ S (fun x S1 => wpE T C b σ S1 (fun y S2 => wpCmp op x y S2 fun k =>
      if k = true then wpE T C c σ S2 (fun z S3 => wpCmp op' y z S3 fun k' => Q (.bl k') S3) R else Q (.bl false) S2) R) R
  | .and es, σ, S, Q, R => wpAndV T C es σ S Q R
  | .or es, σ, S, Q, R => wpOrV T C es σ S Q R
  | .not a, σ, S, Q, R => wpE T C a σ S (fun x S1 => onS (tru S1 x) fun k => Q (.bl (!k)) S1) R
  | .ite c a b, σ, S, Q, R => wpT T C c σ S (fun k S1 => if k = true then wpE T C a σ S1 Q R else wpE T C b σ S1 Q R) R
  | .tup es, σ, S, Q, R => wpEs T C es σ S (fun vs S1 => Q (.tup vs) S1) R
  | .lst m es, σ, S, Q, R => wpEs T C es σ S (fun vs S1 => newL m vs S1 Q) R
  | .fstr es, σ, S, Q, R => wpJs T C es Str.empty σ S Q R
  | .dic ks vs, σ, S, Q, R => wpEs T C vs σ S (fun ws S1 => Q (.ref S1.length) (S1 ++ [.dic (mergeD [] (ks.zip ws))])) R
  | .dicF ks vs, σ, S, Q, R => wpEs T C vs σ S (fun ws S1 => Q (.dct ((mergeD [] (ks.zip ws)).map fun p => dkS p.1) ((mergeD [] (ks.zip ws)).map (·.2))) S1) R
  | .call f _ es _ kes arr, σ, S, Q, R => wpEs T C es σ S (fun vs S1 => wpEs T C kes σ S1 (fun ws S2 => C f (fill arr (vs ++ ws)) S2 Q R) R) R
  | .make c _ es _ kes arr, σ, S, Q, R => wpEs T C es σ S (fun vs S1 => wpEs T C kes σ S1 (fun ws S2 =>
      onS ((T.cls[c]?).bind (·.ini)) fun f => C f (.ref S2.length :: fill arr (vs ++ ws)) (S2 ++ [.ins c []]) (fun v S3 => match v with
        | .non => Q (.ref S2.length) S3
        | _ => False) R) R) R
  | .mko c _ es _ kes arr fl, σ, S, Q, R => wpEs T C es σ S (fun vs S1 => wpEs T C kes σ S1 (fun ws S2 =>
      (∃ f, (T.cls[c]?).bind (·.ini) = some f ∧ C f (.ref S2.length :: fill arr (vs ++ ws)) (S2 ++ [.ins c []]) (fun v S3 => v = .non ∧ S3 = S2 ++ [.ins c ((fl.map (·.1)).zip (fldsOf fl (fill arr (vs ++ ws))))]) (fun _ _ => False)) ∧
        Q (.obj c (fl.map (·.1)) (fldsOf fl (fill arr (vs ++ ws)))) S2) R) R
  | .blt b es, σ, S, Q, R => wpEs T C es σ S (fun vs S1 => wpBlt T b vs S1 Q) R
  | .listM es, σ, S, Q, R => wpEs T C es σ S (fun vs S1 => one vs fun x => onS (itemsOf S1 x) fun xs => Q (.ref S1.length) (S1 ++ [.lst xs])) R
  | .bltK b es ks kes, σ, S, Q, R => wpEs T C es σ S (fun vs S1 => wpEs T C kes σ S1 (fun ws S2 => wpBltK b vs ks ws S2 Q) R) R
  | .meth o m b es _ kes arr, σ, S, Q, R => wpE T C o σ S (fun x S1 => onRecv (recv T S1 x m b)
    (fun f => wpEs T C es σ S1 (fun vs S2 => wpEs T C kes σ S2 (fun ws S3 => C f (x :: fill arr (vs ++ ws)) S3 Q R) R) R)
    (fun b' => wpEs T C es σ S1 (fun vs S2 => wpBM b' x vs S2 Q) R)) R
  | .fld o f, σ, S, Q, R => wpE T C o σ S (fun x S1 => onS (fldOf T S1 x f) fun v => Q v S1) R
  | .sub o i, σ, S, Q, R => wpE T C o σ S (fun x S1 => wpE T C i σ S1 (fun k S2 => wpSub x k S2 Q) R) R
  | .subK o f, σ, S, Q, R => wpE T C o σ S (fun x S1 => wpSubK x f S1 Q) R
  | .subI o i, σ, S, Q, R => wpE T C o σ S (fun x S1 => wpE T C i σ S1 (fun k S2 => wpSubI x k S2 Q) R) R
  | .slice o lo hi, σ, S, Q, R => wpE T C o σ S (fun x S1 => wpO T C lo σ S1 (fun l S2 => wpO T C hi σ S2 (fun h S3 => wpSlice x l h S3 Q) R) R) R
  | .rev m o, σ, S, Q, R => wpE T C o σ S (fun x S1 => match x with
      | .tup xs => Q (.tup xs.reverse) S1
      | x => onS (lstOf S1 x) fun xs => newL m xs.reverse S1 Q) R
  | .step o st, σ, S, Q, R => wpE T C o σ S (fun x S1 => wpStep x st S1 Q) R
  | .gty n, _, S, Q, _ => Q (.ty n) S
  | .eqO neg a b, σ, S, Q, R => wpE T C a σ S (fun x S1 => wpE T C b σ S1 (fun y S2 => wpEqO T C neg x y S2 Q) R) R
  | .inO neg a b, σ, S, Q, R => wpE T C a σ S (fun x S1 => wpE T C b σ S1 (fun y S2 => wpInO T C neg x y S2 Q) R) R
  | .eqE neg a b, σ, S, Q, R => wpE T C a σ S (fun x S1 => wpE T C b σ S1 (fun y S2 => wpEqE neg x y S2 Q) R) R
  | .join a b, σ, S, Q, R => wpE T C a σ S (fun x S1 => match x with
      | .str s => wpE T C b σ S1 (fun y S2 => wpJoin s y S2 Q) R
      | _ => False) R
  | .lenR a, σ, S, Q, R => wpE T C a σ S (fun x S1 => isInt x fun i => onT (decide (0 ≤ i ∧ i < 2 ^ 62)) (Q (.int i) S1)) R
  | .split m a b, σ, S, Q, R => wpE T C a σ S (fun x S1 => match x with
      | .str s => wpE T C b σ S1 (fun y S2 => wpSplit m s y S2 Q) R
      | _ => False) R
  | .subT o i, σ, S, Q, R => wpE T C o σ S (fun x S1 => wpE T C i σ S1 (fun k S2 => wpSubT x k S2 Q) R) R
  | .inT a b, σ, S, Q, R => wpE T C a σ S (fun x S1 => wpE T C b σ S1 (fun y S2 => wpInT x y S2 Q) R) R
  | .lstR m a, σ, S, Q, R => wpE T C a σ S (fun x S1 => isInt x fun i => onT (decide (0 ≤ i ∧ i ≤ 16777216)) (newL m (rgI i) S1 Q)) R
  | .srt m a, σ, S, Q, R => wpE T C a σ S (fun x S1 => onS (lstOf S1 x) fun xs => onS (intsOf xs) fun ns => onT (decide (ns.length < 64)) (∀ ms : List Int, ms.Perm ns → ms.Pairwise (· ≤ ·) → newL m (ms.map .int) S1 Q)) R
  | .srtSet m a, σ, S, Q, R => wpE T C a σ S (fun x S1 => onS (lstOf S1 x) fun xs => onS (intsOf xs) fun ns => onT (decide (ns.length < 64)) (∀ ms : List Int, ms.Pairwise (· < ·) → (∀ k : Int, k ∈ ms ↔ k ∈ ns) → newL m (ms.map .int) S1 Q)) R
  | .bltO b a, σ, S, Q, R => wpE T C a σ S (fun x S1 => wpBltO T C b x S1 Q) R
  | .eqP a b, σ, S, Q, R => wpE T C a σ S (fun x S1 => wpE T C b σ S1 (fun y S2 => wpEqP T C x y S2 Q) R) R
  | .fOwn a, σ, S, Q, R => wpE T C a σ S (fun x S1 => wpBltO T C .str x S1 Q) R
  | .fmtR a, σ, S, Q, R => wpE T C a σ S (fun x S1 => wpRepr x S1 Q) R
  | .lc m elt tg it ifs own, σ, S, Q, R => wpI T C it σ S (fun xs st S1 => onT (decide (xs.length ≤ lim))
      (lcRun (fun x S2 Q2 => wpTg T C tg x (wipeG σ own) S2 (fun σ3 S3 => wpTs T C ifs σ3 S3 (fun k S4 =>
        if k = true then wpE T C elt σ3 S4 (fun v S5 => Q2 (some v) S5) (fun _ _ => False) else Q2 .none S4) (fun _ _ => False)) (fun _ _ => False)) st xs [] S1 (fun acc S2 => newL m acc S2 Q))) R
  | .callE f es, σ, S, Q, R => wpE T C f σ S (fun v S1 => onClo v fun k caps => onT (isN T.nst k) (wpEs T C es σ S1 (fun vs S2 => C k (vs ++ caps) S2 Q (fun _ _ => False)) R)) R
  | .dead, _, _, _, _ => False
def wpJs (T : Tab) (C : CS) : REs → Str → Sg → Store → QV → QX → Prop
  | .nil, acc, _, S, Q, _ => Q (.str acc) S
  | .cons e es, acc, σ, S, Q, R => wpE T C e σ S (fun v S1 => onS (txtOf v) fun y => onT (decide ((acc ++ y).length ≤ lim)) (wpJs T C es (acc ++ y) σ S1 Q R)) R
def wpEs (T : Tab) (C : CS) : REs → Sg → Store → (List PV → Store → Prop) → QX → Prop
  | .nil, _, S, Q, _ => Q [] S
  | .cons e es, σ, S, Q, R => wpE T C e σ S (fun v S1 => wpEs T C es σ S1 (fun vs S2 => Q (v :: vs) S2) R) R
def wpO (T : Tab) (C : CS) : RO → Sg → Store → (Option Int → Store → Prop) → QX → Prop
  | .none, _, S, Q, _ => Q .none S
  | .some e, σ, S, Q, R => wpE T C e σ S (fun v S1 => isInt v fun i => Q (some i) S1) R
/-- a test -/
def wpT (T : Tab) (C : CS) : RE → Sg → Store → (Bool → Store → Prop) → QX → Prop
  | .and es, σ, S, Q, R => wpAnd T C es σ S Q R
  | .or es, σ, S, Q, R => wpOr T C es σ S Q R
  | .not a, σ, S, Q, R => wpT T C a σ S (fun k S1 => Q (!k) S1) R
  | .ite c a b, σ, S, Q, R => wpT T C c σ S (fun k S1 => if k = true then wpT T C a σ S1 Q R else wpT T C b σ S1 Q R) R
  | .loc i, σ, S, Q, _ => onS (getS σ i) fun v => onS (tru S v) fun k => Q k S
  | .const c, _, S, Q, _ => onS (tru S c) fun k => Q k S
  | .cmp op a b, σ, S, Q, R => wpE T C a σ S (fun x S1 => wpE T C b σ S1 (fun y S2 => wpCmp op x y S2 fun k => Q k S2) R) R
  | .chain op op' a b c, σ, S, Q, R => wpE T C a σ S (fun x S1 => wpE T C b σ S1 (fun y S2 => wpCmp op x y S2 fun k =>
      if k = true then wpE T C c σ S2 (fun z S3 => wpCmp op' y z S3 fun k' => Q k' S3) R else Q false S2) R) R
  | .call f _ es _ kes arr, σ, S, Q, R => wpEs T C es σ S (fun vs S1 => wpEs T C kes σ S1 (fun ws S2 => C f (fill arr (vs ++ ws)) S2 (fun v S3 => onS (tru S3 v) fun k => Q k S3) R) R) R
  | .blt b es, σ, S, Q, R => wpEs T C es σ S (fun vs S1 => wpBlt T b vs S1 (fun v S3 => onS (tru S3 v) fun k => Q k S3)) R
  | .meth o m b es _ kes arr, σ, S, Q, R => wpE T C o σ S (fun x S1 => onRecv (recv T S1 x m b)
    (fun f => wpEs T C es σ S1 (fun vs S2 => wpEs T C kes σ S2 (fun ws S3 => C f (x :: fill arr (vs ++ ws)) S3 (fun v S4 => onS (tru S4 v) fun k => Q k S4) R) R) R)
    (fun b' => wpEs T C es σ S1 (fun vs S2 => wpBM b' x vs S2 (fun v S4 => onS (tru S4 v) fun k => Q k S4)) R)) R
  | .fld o f, σ, S, Q, R => wpE T C o σ S (fun x S1 => onS (fldOf T S1 x f) fun v => onS (tru S1 v) fun k => Q k S1) R
  | .eqO neg a b, σ, S, Q, R => wpE T C a σ S (fun x S1 => wpE T C b σ S1 (fun y S2 => wpEqO T C neg x y S2 (fun v S3 => isBool v fun k => Q k S3)) R) R
  | .inO neg a b, σ, S, Q, R => wpE T C a σ S (fun x S1 => wpE T C b σ S1 (fun y S2 => wpInO T C neg x y S2 (fun v S3 => isBool v fun k => Q k S3)) R) R
  | .eqE neg a b, σ, S, Q, R => wpE T C a σ S (fun x S1 => wpE T C b σ S1 (fun y S2 => wpEqE neg x y S2 (fun v S3 => isBool v fun k => Q k S3)) R) R
  | .sub o i, σ, S, Q, R => wpE T C o σ S (fun x S1 => wpE T C i σ S1 (fun k S2 => wpSub x k S2 (fun v S3 => onS (tru S3 v) fun k => Q k S3)) R) R
  | _, _, _, _, _ => False
def wpAnd (T : Tab) (C : CS) : REs → Sg → Store → (Bool → Store → Prop) → QX → Prop
  | .nil, _, S, Q, _ => Q true S
  | .cons e es, σ, S, Q, R => wpT T C e σ S (fun k S1 => if k = true then wpAnd T C es σ S1 Q R else Q false S1) R
def wpOr (T : Tab) (C : CS) : REs → Sg → Store → (Bool → Store → Prop) → QX → Prop
  | .nil, _, S, Q, _ => Q false S
  | .cons e es, σ, S, Q, R => wpT T C e σ S (fun k S1 => if k = true then Q true S1 else wpOr T C es σ S1 Q R) R
def wpAndV (T : Tab) (C : CS) : REs → Sg → Store → QV → QX → Prop
  | .nil, _, _, _, _ => False
  | .cons e .nil, σ, S, Q, R => wpE T C e σ S Q R
  | .cons e es, σ, S, Q, R => wpE T C e σ S (fun v S1 => onS (tru S1 v) fun k => if k = true then wpAndV T C es σ S1 Q R else Q v S1) R
def wpOrV (T : Tab) (C : CS) : REs → Sg → Store → QV → QX → Prop
  | .nil, _, _, _, _ => False
  | .cons e .nil, σ, S, Q, R => wpE T C e σ S Q R
  | .cons e es, σ, S, Q, R => wpE T C e σ S (fun v S1 => onS (tru S1 v) fun k => if k = true then Q v S1 else wpOrV T C es σ S1 Q R) R
/-- a comprehension's tests: at most one -/
def wpTs (T : Tab) (C : CS) : REs → Sg → Store → (Bool → Store → Prop) → QX → Prop
  | .nil, _, S, Q, _ => Q true S
  | .cons e .nil, σ, S, Q, R => wpT T C e σ S Q R
  | _, _, _, _, _ => False
def wpI (T : Tab) (C : CS) : RI → Sg → Store → (List PV → (Store → Prop) → Store → Prop) → QX → Prop
  | .val e, σ, S, Q, R => wpE T C e σ S (fun v S1 => onS (itemsOf S1 v) fun xs => Q xs (still S1 v) S1) R
  | .txt e, σ, S, Q, R => wpE T C e σ S (fun v S1 => match v with
      | .str s => Q (signs s) (fun _ => True) S1
      | _ => False) R
  | .range es, σ, S, Q, R => wpEs T C es σ S (fun vs S1 => match vs with
      | [.int j] => onT (decide (okR j)) (Q (rngL 0 j.toNat) (fun _ => True) S1)
      | [.int i, .int j] => onT (decide (okR i ∧ okR j)) (Q (rngL i (j - i).toNat) (fun _ => True) S1)
      | _ => False) R
  | .enum e c, σ, S, Q, R => wpE T C e σ S (fun v S1 => onS (itemsOf S1 v) fun xs => Q (enumL c xs) (still S1 v) S1) R
  | .zip a b s, σ, S, Q, R => wpE T C a σ S (fun v S1 => wpE T C b σ S1 (fun w S2 => onS (itemsOf S2 v) fun xs => onS (itemsOf S2 w) fun ys => onT (!s || decide (xs.length = ys.length))
      (Q (zipL xs ys) (fun S' => still S2 v S' ∧ still S2 w S') S2)) R) R
def wpTg (T : Tab) (C : CS) : RT → PV → Sg → Store → (Sg → Store → Prop) → QX → Prop
  | .name i, v, σ, S, Q, _ => Q (σ.set i (some v)) S
  | .tup ts, v, σ, S, Q, R => onS (itemsOf S v) fun xs => onT (cntOk ts xs.length) (wpTgs T C ts xs σ S Q R)
  | .sub o i, v, σ, S, Q, R => wpE T C o σ S (fun x S1 => wpE T C i σ S1 (fun k S2 => wpSet x k v S2 (fun S3 => Q σ S3)) R) R
  | .subK o f, v, σ, S, Q, R => wpE T C o σ S (fun x S1 => wpSetK x f v S1 (fun S3 => Q σ S3)) R
  | .fld o f, v, σ, S, Q, R => wpE T C o σ S (fun x S1 => match x with
      | .ref a => match S1[a]? with
        | some (.ins c fs) => onT ((T.cls[c]?).isSome && decide (fs.length < 900)) (Q σ (S1.set a (.ins c (putFl f v fs))))
        | _ => False
      | _ => False) R
def wpTgs (T : Tab) (C : CS) : RTs → List PV → Sg → Store → (Sg → Store → Prop) → QX → Prop
  | .nil, vs, σ, S, Q, _ => match vs with
    | [] => Q σ S
    | _ :: _ => False
  | .cons t ts, vs, σ, S, Q, R => match vs with
    | v :: r => wpTg T C t v σ S (fun σ1 S1 => wpTgs T C ts r σ1 S1 Q R) R
    | [] => False
  | .star i, vs, σ, S, Q, _ => onT (decide (vs.length ≤ 16000)) (Q (σ.set i (some (.ls vs))) S)
end

/-- what is wanted behind a statement -/
structure En where
  nx : Sg → Store → Prop
  rt : PV → Store → Prop
  bk : Sg → Store → Prop := fun _ _ => False
  ct : Sg → Store → Prop := fun _ _ => False
  ex : Ex → Sg → Store → Prop := fun _ _ _ => False

/-- the built-in errors' names -/
def bxs : List String := ["ValueError", "ArithmeticError", "Exception"]
/-- isinstance of an error -/
def exIs (T : Tab) (c : Nat) (t : Nat ⊕ String) : Option Bool := (T.exs[c]?).bind fun d => match t with
  | .inl e => if e < T.exs.length then some (d.up.contains e) else .none
  | .inr s => if bxs.contains s then some (d.bt.contains s) else .none
def exAny (T : Tab) (c : Nat) : List (String × (Nat ⊕ String)) → Option Bool
  | [] => some false
  | t :: r => (exIs T c t.2).bind fun b => (exAny T c r).map (b || ·)
mutual
/-- what an expression of an except clause tells -/
def evH (T : Tab) (x : Ex) (σ : Sg) : HE → Option PV
  | .const c => some c
  | .loc i => getS σ i
  | .fld f => (T.exs[x.cls]?).bind fun d => if d.fs.contains f = true then x.fs.lookup f else .none
  | .isin one ts => if one = true then (match ts with
      | [t] => (exIs T x.cls t.2).map .bl
      | _ => .none) else (exAny T x.cls ts).map .bl
  | .not a => (evH T x σ a).bind fun v => match v with
    | .bl b => some (.bl !b)
    | _ => .none
  | .and a b => (evH T x σ a).bind fun v => match v with
    | .bl true => evH T x σ b
    | .bl false => some (.bl false)
    | _ => .none
  | .or a b => (evH T x σ a).bind fun v => match v with
    | .bl true => some (.bl true)
    | .bl false => evH T x σ b
    | _ => .none
  | .tup es => (evHs T x σ es).map .tup
def evHs (T : Tab) (x : Ex) (σ : Sg) : HEs → Option (List PV)
  | .nil => some []
  | .cons e es => (evH T x σ e).bind fun v => (evHs T x σ es).map (v :: ·)
end
mutual
def wpH (T : Tab) (x : Ex) : HS → Sg → Store → En → Prop
  | .asg i e, σ, S, D => onS (evH T x σ e) fun v => D.nx (σ.set i (some v)) S
  | .ife c a, σ, S, D => onS (evH T x σ c) fun v => isBool v fun k => if k = true then wpHs T x a σ S D else D.nx σ S
  | .ret e, σ, S, D => onS (evH T x σ e) fun v => D.rt v S
def wpHs (T : Tab) (x : Ex) : HSs → Sg → Store → En → Prop
  | .nil, σ, S, D => D.nx σ S
  | .cons s ss, σ, S, D => wpH T x s σ S { D with nx := fun σ' S' => wpHs T x ss σ' S' D }
end

mutual
def wpS (T : Tab) (C : CS) : RS → Sg → Store → En → Prop
  | .asg t e, σ, S, D => wpE T C e σ S (fun v S1 => wpTg T C t v σ S1 D.nx (fun _ _ => False)) (fun x S1 => D.ex x σ S1)
  | .setlc m i elt tg it ifs own, σ, S, D => wpE T C (.lc m elt tg it ifs own) σ S (fun v S1 => D.nx (σ.set i (some v)) S1) (fun x S1 => D.ex x σ S1)
  | .asg2 t u e, σ, S, D => wpE T C e σ S (fun v S1 => wpTg T C t v σ S1 (fun σ2 S2 => wpTg T C u v σ2 S2 D.nx (fun _ _ => False)) (fun _ _ => False)) (fun x S1 => D.ex x σ S1)
  | .asg3 t u w e, σ, S, D => wpE T C e σ S (fun v S1 => wpTg T C t v σ S1 (fun σ2 S2 => wpTg T C u v σ2 S2 (fun σ3 S3 => wpTg T C w v σ3 S3 D.nx (fun _ _ => False)) (fun _ _ => False)) (fun _ _ => False)) (fun x S1 => D.ex x σ S1)
  | .par is es, σ, S, D => wpEs T C es σ S (fun vs S1 => match is, vs with
      | [i, j], [v, w] => D.nx ((σ.set i (some v)).set j (some w)) S1
      | [i, j, l], [v, w, u] => D.nx (((σ.set i (some v)).set j (some w)).set l (some u)) S1
      | _, _ => False) (fun x S1 => D.ex x σ S1)
  | .aug i op e, σ, S, D => onS (getS σ i) fun x => wpE T C e σ S (fun y S1 => wpAug op x y S1 (fun z S2 => D.nx (σ.set i (some z)) S2)) (fun x S1 => D.ex x σ S1)
  | .augF o f op e, σ, S, D => wpE T C o σ S (fun x S1 => match x with
      | .ref a => match S1[a]? with
        | some (.ins c fs) => onT (T.cls[c]?).isSome (onS (fs.lookup f) fun v => wpE T C e σ S1 (fun y S2 => wpAug op v y S2 fun z S3 => match S3[a]? with
          | some (.ins c' fs') => onT (decide (c' = c) && decide (fs'.length < 900)) (D.nx σ (S3.set a (.ins c (putFl f z fs'))))
          | _ => False) (fun x S2 => D.ex x σ S2))
        | _ => False
      | _ => False) (fun x S1 => D.ex x σ S1)
  | .expr e, σ, S, D => wpE T C e σ S (fun _ S1 => D.nx σ S1) (fun x S1 => D.ex x σ S1)
  | .doc, σ, S, D => D.nx σ S
  | .ret e, σ, S, D => wpE T C e σ S D.rt (fun x S1 => D.ex x σ S1)
  | .retN, _, S, D => D.rt .non S
  | .ife c a b, σ, S, D => wpT T C c σ S (fun k S1 => if k = true then wpSs T C a σ S1 D else wpSs T C b σ S1 D) (fun x S1 => D.ex x σ S1)
  | .whl c a, σ, S, D => ∃ W : Nat → Sg → Store → Prop, (∃ m, W m σ S) ∧ ∀ m σ S, W m σ S → wpT T C c σ S (fun k S1 => if k = true then
      wpSs T C a σ S1 { D with nx := fun σ' S' => ∃ m', m' < m ∧ W m' σ' S', ct := fun σ' S' => ∃ m', m' < m ∧ W m' σ' S', bk := D.nx } else D.nx σ S1) (fun x S1 => D.ex x σ S1)
  | .for_ tg it a, σ, S, D => wpI T C it σ S (fun xs st S1 => forRun (fun x σ2 S2 Q2 => wpTg T C tg x σ2 S2 (fun σ3 S3 => wpSs T C a σ3 S3 { D with nx := Q2, ct := Q2, bk := D.nx }) (fun _ _ => False)) st xs σ S1 D.nx) (fun x S1 => D.ex x σ S1)
  | .brk, σ, S, D => D.bk σ S
  | .cont, σ, S, D => D.ct σ S
  | .pass, σ, S, D => D.nx σ S
  | .raise c _ es, σ, S, D => wpEs T C es σ S (fun vs S1 => onS (T.exs[c]?) fun d => onT (d.made && decide (vs.length = d.fs.length)) (D.ex ⟨c, (d.fs.zip vs).reverse⟩ σ S1)) (fun x S1 => D.ex x σ S1)
  | .tryE a c _ i h, σ, S, D => wpSs T C a σ S { D with ex := fun x σ' S' => onS (T.exs[x.cls]?) fun d => if d.up.contains c = true then onT (decide (i < σ'.length)) (wpHs T x h (σ'.set i .none) S' D) else D.ex x σ' S' }
  | .dead, _, _, _ => False
def wpSs (T : Tab) (C : CS) : RSs → Sg → Store → En → Prop
  | .nil, σ, S, D => D.nx σ S
  | .cons s ss, σ, S, D => wpS T C s σ S { D with nx := fun σ' S' => wpSs T C ss σ' S' D }
end

/-! ### behind a call: what is new and led to by nothing is dropped -/
mutual
def PV.inR (n : Nat) : PV → Bool
  | .ref i => decide (i < n)
  | .tup xs => PV.inRs n xs
  | .scr xs => PV.inRs n xs
  | .ls xs => PV.inRs n xs
  | .obj _ _ vs => PV.inRs n vs
  | .dct _ vs => PV.inRs n vs
  | .clo _ vs => PV.inRs n vs
  | _ => true
def PV.inRs (n : Nat) : List PV → Bool
  | [] => true
  | x :: xs => PV.inR n x && PV.inRs n xs
end
def SO.inR (n : Nat) : SO → Bool
  | .lst xs => PV.inRs n xs
  | .dic kvs => PV.inRs n (kvs.map (·.2))
  | .ins _ fs => PV.inRs n (fs.map (·.2))
/-- S' may be cut to S0, behind a call that began at S -/
structure Cut (S S' S0 : Store) : Prop where
  pre : ∃ J, S' = S0 ++ J
  len : S0.length = S.length
  at_ : ∀ (i : Nat) (o : SO), S0[i]? = some o → S[i]? = some o ∨ o.inR S.length = true
inductive Dr (S S' : Store) (v : PV) : PV → Store → Prop where
  | same : Dr S S' v v S'
  | drop {S0 : Store} : Cut S S' S0 → v.inR S.length = true → Dr S S' v v S0
  | frz {S0 : Store} {i : Nat} {xs : List PV} : v = .ref i → S'[i]? = some (.lst xs) → S.length ≤ i → Cut S S' S0 → PV.inRs S.length xs = true → Dr S S' v (.ls xs) S0
def dropW (S : Store) (Q : QV) : QV := fun v S' => ∃ v' S0, Dr S S' v v' S0 ∧ Q v' S0
def dropX (S : Store) (R : QX) : QX := fun x S' => ∃ S0, (S0 = S' ∨ (Cut S S' S0 ∧ PV.inRs S.length (x.fs.map (·.2)) = true)) ∧ R x S0

/-- the names at a def's entry -/
def startG (n : Nat) (vs : List PV) : Sg := vs.map some ++ List.replicate (n - vs.length) .none
/-- what the captured names hold -/
def capsOf (σ : Sg) : List Nat → Option (List PV)
  | [] => some []
  | j :: js => (getS σ j).bind fun v => (capsOf σ js).map (v :: ·)
/-- behind a def's body: None, or the function that is made there -/
def endW (t : Option (Nat × List Nat)) (σ : Sg) (Q : QV) (S : Store) : Prop := match t with
  | .none => Q .non S
  | .some kj => onS (capsOf σ kj.2) fun caps => Q (.clo kj.1 caps) S
/-- a def's body, over the calls' wish -/
def bodyC (T : Tab) (C : CS) : CS := fun f vs S Q R => ∃ d, T.fns[f]? = some d ∧ vs.length = d.np ∧ wpSs T C d.body (startG d.N.length vs) S { nx := fun σ' S' => endW d.tail σ' (dropW S Q) S', rt := dropW S Q, ex := fun x _ S' => dropX S R x S' }
/-- a call, some calls deep; a function that was made runs once at a time -/
def wpCallA (T : Tab) : Nat → List Nat → CS
  | 0, _, _, _, _, _, _ => False
  | k + 1, rn, f, vs, S, Q, R => match isN T.nst f with
    | true => onT (!isN rn f) (bodyC T (wpCallA T k (f :: rn)) f vs S Q R)
    | false => bodyC T (wpCallA T k rn) f vs S Q R
abbrev wpCall (T : Tab) (rn : List Nat) (n : Nat) : CS := wpCallA T n rn
end Rp
/-! # How the store lies in the hand layer's heap -/
namespace Rp
open PySem PySem.Spec PyProof.Rows L2

/-- a nested def's words, the names that it captures -/
structure NW where
  name : Str
  qual : Str
  params : Arguments
  body : FuncBody
  scope : Scope
  fr : List Str
instance : Inhabited NW := ⟨⟨Str.empty, Str.empty, default, .stmts [], default, []⟩⟩
/-- .. as a function's data -/
abbrev NW.fd (F : NW) (cl : List (Str × Addr)) (c : Addr) (doc pm ctv : Value) : FuncData :=
  { name := F.name, qualname := F.qual, params := F.params, body := F.body, scope := F.scope, globals := mainGlobals, closure := cl, defaults := .none, kwdefaults := .none, doc := doc, pyModule := pm, annotations := none, code := .ref c, closureTuple := ctv, builtins := builtinsNs }
/-- the written part, where the defs and the classes of the table stand -/
structure Ad where
  K : PySem.W.Frag
  fa : Nat → Addr
  ca : Nat → Addr
  /-- the classes of errors -/
  xa : Nat → Addr
  /-- the nested defs -/
  nf : Nat → NW
  /-- the tables of code objects -/
  tabs : List NdefX.NTab
  /-- cells that the running functions captured: by their numbers -/
  held : List (Nat × Addr × Obj)
/-- the function at a, made of F -/
def FnC (a : Addr) (F : NW) (cl : List (Str × Addr)) (c : Addr) : HO := .ext fun h => ∃ (od : Option Addr) (sl : Array (Option Value)) (doc pm ctv : Value), h.get? a = some (⟨.type "function", od, .func (F.fd cl c doc pm ctv), sl⟩ : Obj)
/-- a captured cell: told as it is, or held -/
def CellA (D : Ad) (H : Hp) (k : Nat) (a : Addr) (o : Obj) : Prop := H a = some (.frz o (.own k)) ∨ (k, a, o) ∈ D.held
structure Cells (D : Ad) (H : Hp) (k : Nat) (cl : List (Str × Addr)) (fr : List Str) (xs : List V) : Prop where
  len : xs.length = fr.length
  all : ∀ p ∈ cl, ∃ o v, CellA D H k p.2 o ∧ o.data = .cell v
  inj : ∀ x y a, cl.lookup x = some a → cl.lookup y = some a → x = y
  has : ∀ (i : Nat) (y : Str), fr[i]? = some y → ∃ a o x u, cl.lookup y = some a ∧ CellA D H k a o ∧ xs[i]? = some x ∧ RelV x u ∧ o.data = .cell (some u)
theorem Cells.mv {D D' : Ad} {H H' : Hp} {k : Nat} {cl : List (Str × Addr)} {fr : List Str} {xs : List V} (c : Cells D H k cl fr xs) (m : ∀ a o, CellA D H k a o → CellA D' H' k a o) : Cells D' H' k cl fr xs := by
  refine ⟨c.len, fun p e => ?_, c.inj, fun i y e => ?_⟩
  · obtain ⟨o, v, h1, h2⟩ := c.all p e
    exact ⟨o, v, m _ o h1, h2⟩
  · obtain ⟨a, o, x, u, h1, h2, h3⟩ := c.has i y e
    exact ⟨a, o, x, u, h1, m a o h2, h3⟩

/-- a dict's key as the hand layer has it -/
def dkK : DK → L2.Key
  | .inl i => .inl i
  | .inr n => .inr (dN n)
theorem dkK_inj {a b : DK} (h : dkK a = dkK b) : a = b := by
  cases a <;> cases b <;> first
    | (injection h with h; rw [h]; done)
    | (injection h with h; rw [dN_inj h]; done)
    | cases h

/-- .. a locked dict's key -/
def dkP : Int ⊕ Nat → L2.Key
  | .inl i => .inl i
  | .inr n => .inr (dN n)
theorem dkP_S (k : DK) : dkP (dkS k) = dkK k := by cases k <;> rfl
/-- a list that never changes: locked, or of the written part -/
def SqF (K : PySem.W.Frag) (H : Hp) (a : Addr) (vs : List V) : Prop := (∃ o, H a = some (.frz o (.lst vs))) ∨ SqL K (fun _ => none) a vs
theorem SqF.list {K : PySem.W.Frag} {H : Hp} {a : Addr} {vs : List V} (h : SqF K H a vs) : SqL K H a vs := by
  rcases h with ⟨o, h⟩ | h | h
  · exact .inl (.inr ⟨o, h⟩)
  · rcases h with h | ⟨o, h⟩ <;> cases h
  · exact .inr h

mutual
def RV (D : Ad) (ι : List Addr) (H : Hp) : PV → V → Prop
  | .non, v => v = .non
  | .bl b, v => v = .bl b
  | .int i, v => v = .int i
  | .str s, v => v = .str s
  | .tup xs, v => ∃ a vs, v = .ref a ∧ SqT D.K H a vs ∧ RVs D ι H xs vs
  | .scr xs, v => ∃ a vs, v = .ref a ∧ SqF D.K H a vs ∧ RVs D ι H xs vs
  | .ls xs, v => ∃ a vs, v = .ref a ∧ (∃ o, H a = some (.frz o (.lst vs))) ∧ RVs D ι H xs vs
  | .ref i, v => ∃ a, ι[i]? = some a ∧ v = .ref a
  | .fn i, v => v = .ref (D.fa i)
  | .cls i, v => v = .ref (D.ca i)
  | .ty n, v => v = .ty n.nm
  | .obj c ks xs, v => ∃ a dx fs', v = .ref a ∧ a ∉ ι ∧ H a = some (.ins (D.ca c) dx fs') ∧ fs'.map (·.1) = ks.map dN ∧ RVs D ι H xs (fs'.map (·.2))
  | .dct ks xs, v => ∃ a kvs', v = .ref a ∧ (∃ o, H a = some (.frz o (.dK kvs'))) ∧ kvs'.map (·.1) = ks.map dkP ∧ RVs D ι H xs (kvs'.map (·.2))
  | .clo k caps, v => ∃ a cl c xs, v = .ref a ∧ a ∉ ι ∧ c ∉ ι ∧ H a = some (FnC a (D.nf k) cl c) ∧ H c = some (LamX.CodeO c (D.nf k).qual) ∧ Cells D H k cl (D.nf k).fr xs ∧ RVs D ι H caps xs
def RVs (D : Ad) (ι : List Addr) (H : Hp) : List PV → List V → Prop
  | [], vs => vs = []
  | x :: xs, vs => ∃ v r, vs = v :: r ∧ RV D ι H x v ∧ RVs D ι H xs r
end

/-- what never changes in an abstract heap -/
def Imm : HO → Prop
  | .tup _ => True
  | .frz _ _ => True
  | _ => False

/-- from one heap to a later one: the store's objects may change, all else that is tracked stays -/
structure Ext (ι : List Addr) (H : Hp) (ι' : List Addr) (H' : Hp) : Prop where
  pre : ∃ l, ι' = ι ++ l ∧ ∀ a ∈ l, H a = none
  out : ∀ b o, b ∉ ι → H b = some o → (∀ ps, o ≠ .tbl ps) → H' b = some o
  imm : ∀ b o, H b = some o → Imm o → H' b = some o
  trk : ∀ b o, H b = some o → ∃ o', H' b = some o'
theorem Ext.refl {ι : List Addr} {H : Hp} : Ext ι H ι H := ⟨⟨[], by simp, fun a h => absurd h (by simp)⟩, fun _ _ _ h _ => h, fun _ _ h _ => h, fun _ o h => ⟨o, h⟩⟩
theorem Ext.trans {ι ι1 ι2 : List Addr} {H H1 H2 : Hp} (a : Ext ι H ι1 H1) (b : Ext ι1 H1 ι2 H2) : Ext ι H ι2 H2 := by
  obtain ⟨l1, e1, n1⟩ := a.pre
  obtain ⟨l2, e2, n2⟩ := b.pre
  refine ⟨⟨l1 ++ l2, by rw [e2, e1, List.append_assoc], fun c hc => ?_⟩, fun c o hc h nt => ?_, fun c o h i => b.imm c o (a.imm c o h i) i, fun c o h => ?_⟩
  · rcases List.mem_append.mp hc with hc | hc
    · exact n1 c hc
    · cases q : H c with
      | none => rfl
      | some o =>
        obtain ⟨o', e⟩ := a.trk c o q
        rw [n2 c hc] at e
        cases e
  · refine b.out c o (fun z => ?_) (a.out c o hc h nt) nt
    rw [e1] at z
    rcases List.mem_append.mp z with z | z
    · exact hc z
    · rw [n1 c z] at h
      cases h
  · obtain ⟨o', e⟩ := a.trk c o h
    exact b.trk c o' e
theorem Ext.get {ι ι' : List Addr} {H H' : Hp} (e : Ext ι H ι' H') {i : Nat} {a : Addr} (h : ι[i]? = some a) : ι'[i]? = some a := by
  obtain ⟨l, rfl, _⟩ := e.pre
  have hi : i < ι.length := (List.getElem?_eq_some_iff.mp h).1
  rw [List.getElem?_append_left hi]
  exact h

/-- what a value's relation needs -/
structure Exi (ι : List Addr) (H : Hp) (ι' : List Addr) (H' : Hp) : Prop where
  get : ∀ (i : Nat) (a : Addr), ι[i]? = some a → ι'[i]? = some a
  imm : ∀ b o, H b = some o → Imm o → H' b = some o
  ins : ∀ b C dx fs, b ∉ ι → H b = some (.ins C dx fs) → b ∉ ι' ∧ H' b = some (.ins C dx fs)
  ext : ∀ b φ, b ∉ ι → H b = some (.ext φ) → b ∉ ι' ∧ H' b = some (.ext φ)
theorem Ext.exi {ι ι' : List Addr} {H H' : Hp} (e : Ext ι H ι' H') : Exi ι H ι' H' := by
  have nin : ∀ b o, b ∉ ι → H b = some o → b ∉ ι' := fun b o hb h => by
    obtain ⟨l, rfl, q⟩ := e.pre
    intro m
    rcases List.mem_append.mp m with m | m
    · exact hb m
    · rw [q b m] at h
      cases h
  exact ⟨fun _ _ h => e.get h, e.imm, fun b C dx fs hb h => ⟨nin b _ hb h, e.out b _ hb h fun _ z => nomatch z⟩, fun b φ hb h => ⟨nin b _ hb h, e.out b _ hb h fun _ z => nomatch z⟩⟩
theorem rd_ext {ι ι' : List Addr} {H H' : Hp} (e : Exi ι H ι' H') {a : Addr} {vs : List V} {K : PySem.W.Frag} (h : SqT K H a vs) : SqT K H' a vs := by
  rcases h with (h | ⟨o, h⟩) | h
  · exact .inl (.inl (e.imm a _ h trivial))
  · exact .inl (.inr ⟨o, e.imm a _ h trivial⟩)
  · exact .inr h
theorem rf_ext {ι ι' : List Addr} {H H' : Hp} (e : Exi ι H ι' H') {a : Addr} {vs : List V} {K : PySem.W.Frag} (h : SqF K H a vs) : SqF K H' a vs := by
  rcases h with ⟨o, h⟩ | h
  · exact .inl ⟨o, e.imm a _ h trivial⟩
  · exact .inr h

mutual
theorem RV.exi {D : Ad} {ι ι' : List Addr} {H H' : Hp} (e : Exi ι H ι' H') : ∀ {x : PV} {v : V}, RV D ι H x v → RV D ι' H' x v
  | .non, _, h => h
  | .bl _, _, h => h
  | .int _, _, h => h
  | .str _, _, h => h
  | .tup xs, v, h => by
    obtain ⟨a, vs, e1, h1, h2⟩ := h
    exact ⟨a, vs, e1, rd_ext e h1, RVs.exi e h2⟩
  | .scr xs, v, h => by
    obtain ⟨a, vs, e1, h1, h2⟩ := h
    exact ⟨a, vs, e1, rf_ext e h1, RVs.exi e h2⟩
  | .ls xs, v, h => by
    obtain ⟨a, vs, e1, ⟨o, h1⟩, h2⟩ := h
    exact ⟨a, vs, e1, ⟨o, e.imm a _ h1 trivial⟩, RVs.exi e h2⟩
  | .ref i, v, h => by
    obtain ⟨a, h1, h2⟩ := h
    exact ⟨a, e.get _ _ h1, h2⟩
  | .fn _, _, h => h
  | .cls _, _, h => h
  | .ty _, _, h => h
  | .obj c ks xs, v, h => by
    obtain ⟨a, dx, fs', e1, h0, h1, h2, h3⟩ := h
    obtain ⟨n1, n2⟩ := e.ins _ _ _ _ h0 h1
    exact ⟨a, dx, fs', e1, n1, n2, h2, RVs.exi e h3⟩
  | .dct ks xs, v, h => by
    obtain ⟨a, kvs', e1, ⟨o, h1⟩, h2, h3⟩ := h
    exact ⟨a, kvs', e1, ⟨o, e.imm a _ h1 trivial⟩, h2, RVs.exi e h3⟩
  | .clo k caps, v, h => by
    obtain ⟨a, cl, c, xs, e1, n1, n2, h1, h2, h3, h4⟩ := h
    obtain ⟨n1', h1'⟩ := e.ext _ _ n1 h1
    obtain ⟨n2', h2'⟩ := e.ext _ _ n2 h2
    exact ⟨a, cl, c, xs, e1, n1', n2', h1', h2', h3.mv fun b o q => q.elim (fun q => .inl (e.imm b _ q trivial)) .inr, RVs.exi e h4⟩
theorem RVs.exi {D : Ad} {ι ι' : List Addr} {H H' : Hp} (e : Exi ι H ι' H') : ∀ {xs : List PV} {vs : List V}, RVs D ι H xs vs → RVs D ι' H' xs vs
  | [], _, h => h
  | x :: xs, vs, h => by
    obtain ⟨v, r, e1, h1, h2⟩ := h
    exact ⟨v, r, e1, RV.exi e h1, RVs.exi e h2⟩
end
theorem RV.ext {D : Ad} {ι ι' : List Addr} {H H' : Hp} (e : Ext ι H ι' H') {x : PV} {v : V} (h : RV D ι H x v) : RV D ι' H' x v := h.exi e.exi
theorem RVs.ext {D : Ad} {ι ι' : List Addr} {H H' : Hp} (e : Ext ι H ι' H') {xs : List PV} {vs : List V} (h : RVs D ι H xs vs) : RVs D ι' H' xs vs := h.exi e.exi

section
variable {D : Ad} {ι : List Addr} {H : Hp}
theorem RVs.nil : RVs D ι H [] [] := by show ([] : List V) = []; rfl
theorem RVs.cons {x : PV} {v : V} {xs : List PV} {vs : List V} (h : RV D ι H x v) (t : RVs D ι H xs vs) : RVs D ι H (x :: xs) (v :: vs) := ⟨v, vs, rfl, h, t⟩
theorem RVs.len : ∀ {xs : List PV} {vs : List V}, RVs D ι H xs vs → vs.length = xs.length
  | [], _, h => by rw [show _ = [] from h]; rfl
  | _ :: xs, _, h => by
    obtain ⟨v, r, rfl, _, t⟩ := h
    rw [List.length_cons, List.length_cons, t.len]
theorem RVs.get : ∀ {xs : List PV} {vs : List V} {i : Nat} {x : PV}, RVs D ι H xs vs → xs[i]? = some x → ∃ v, vs[i]? = some v ∧ RV D ι H x v
  | [], _, _, _, _, h => by simp at h
  | _ :: xs, _, 0, x, h, e => by
    obtain ⟨v, r, rfl, a, t⟩ := h
    rw [List.getElem?_cons_zero] at e
    cases e
    exact ⟨v, by simp, a⟩
  | _ :: xs, _, i + 1, x, h, e => by
    obtain ⟨v, r, rfl, a, t⟩ := h
    rw [List.getElem?_cons_succ] at e
    obtain ⟨v', q, b⟩ := RVs.get t e
    exact ⟨v', by rw [List.getElem?_cons_succ]; exact q, b⟩
theorem RVs.app : ∀ {xs ys : List PV} {vs ws : List V}, RVs D ι H xs vs → RVs D ι H ys ws → RVs D ι H (xs ++ ys) (vs ++ ws)
  | [], _, _, _, h, t => by rw [show _ = [] from h]; exact t
  | _ :: xs, _, _, _, h, t => by
    obtain ⟨v, r, rfl, a, b⟩ := h
    exact .cons a (RVs.app b t)
theorem RVs.take : ∀ {xs : List PV} {vs : List V} (n : Nat), RVs D ι H xs vs → RVs D ι H (xs.take n) (vs.take n)
  | _, _, 0, _ => by rw [List.take_zero, List.take_zero]; exact .nil
  | [], _, n + 1, h => by rw [show _ = [] from h]; exact .nil
  | _ :: xs, _, n + 1, h => by
    obtain ⟨v, r, rfl, a, b⟩ := h
    exact .cons a (b.take n)
theorem RVs.drop : ∀ {xs : List PV} {vs : List V} (n : Nat), RVs D ι H xs vs → RVs D ι H (xs.drop n) (vs.drop n)
  | _, _, 0, h => h
  | [], _, n + 1, h => by rw [show _ = [] from h]; exact .nil
  | _ :: xs, _, n + 1, h => by
    obtain ⟨v, r, rfl, a, b⟩ := h
    exact b.drop n
theorem RVs.rev {xs : List PV} {vs : List V} (h : RVs D ι H xs vs) : RVs D ι H xs.reverse vs.reverse := by
  induction xs generalizing vs with
  | nil => rw [show vs = [] from h]; exact .nil
  | cons x xs ih =>
    obtain ⟨v, r, rfl, a, b⟩ := h
    rw [List.reverse_cons, List.reverse_cons]
    exact (ih b).app (.cons a .nil)
theorem RVs.set : ∀ {xs : List PV} {vs : List V} (i : Nat) {x : PV} {v : V}, RVs D ι H xs vs → RV D ι H x v → RVs D ι H (xs.set i x) (vs.set i v)
  | [], _, _, _, _, h, _ => by rw [show _ = [] from h]; exact .nil
  | _ :: xs, _, 0, _, _, h, t => by
    obtain ⟨v, r, rfl, a, b⟩ := h
    exact .cons t b
  | _ :: xs, _, i + 1, _, _, h, t => by
    obtain ⟨v, r, rfl, a, b⟩ := h
    exact .cons a (b.set i t)
theorem RVs.rep {xs : List PV} {vs : List V} (n : Nat) (h : RVs D ι H xs vs) : RVs D ι H (List.replicate n xs).flatten (List.replicate n vs).flatten := by
  induction n with
  | zero => exact .nil
  | succ n ih =>
    rw [List.replicate_succ, List.replicate_succ, List.flatten_cons, List.flatten_cons]
    exact h.app ih
theorem RVs.ints : ∀ {ns : List Int} {vs : List V}, RVs D ι H (ns.map .int) vs → vs = ns.map V.int
  | [], _, h => h
  | n :: ns, _, h => by
    obtain ⟨v, r, rfl, a, b⟩ := h
    have a' : v = .int n := a
    rw [a', RVs.ints b]
    rfl
theorem RVs.of_ints : ∀ (ns : List Int), RVs D ι H (ns.map .int) (ns.map V.int)
  | [] => .nil
  | n :: ns => .cons (show V.int n = .int n from rfl) (RVs.of_ints ns)
theorem RVs.snoc {xs : List PV} {y : PV} {vs : List V} (h : RVs D ι H (xs ++ [y]) vs) : ∃ ws w, vs = ws ++ [w] ∧ RVs D ι H xs ws ∧ RV D ι H y w := by
  induction xs generalizing vs with
  | nil =>
    obtain ⟨v, r, rfl, a, b⟩ := h
    rw [show r = [] from b]
    exact ⟨[], v, rfl, .nil, a⟩
  | cons x xs ih =>
    obtain ⟨v, r, rfl, a, b⟩ := h
    obtain ⟨ws, w, rfl, c, d⟩ := ih b
    exact ⟨v :: ws, w, rfl, .cons a c, d⟩
end

/-! ### objects of the store -/
def RO' (D : Ad) (ι : List Addr) (H : Hp) : SO → HO → Prop
  | .lst xs, o => ∃ vs, o = .lst vs ∧ RVs D ι H xs vs
  | .dic kvs, o => ∃ kvs' : List (L2.Key × V), o = .dK kvs' ∧ kvs'.map (·.1) = kvs.map (fun p => dkK p.1) ∧ RVs D ι H (kvs.map (·.2)) (kvs'.map (·.2))
  | .ins c fs, o => ∃ dx fs', o = .ins (D.ca c) dx fs' ∧ fs'.map (·.1) = fs.map (fun p => dN p.1) ∧ RVs D ι H (fs.map (·.2)) (fs'.map (·.2))
theorem RO'.exi {D : Ad} {ι ι' : List Addr} {H H' : Hp} (e : Exi ι H ι' H') {o : SO} {h : HO} (r : RO' D ι H o h) : RO' D ι' H' o h := by
  cases o with
  | lst xs =>
    obtain ⟨vs, e1, q⟩ := r
    exact ⟨vs, e1, q.exi e⟩
  | dic kvs =>
    obtain ⟨kvs', e1, e2, q⟩ := r
    exact ⟨kvs', e1, e2, q.exi e⟩
  | ins c fs =>
    obtain ⟨dx, fs', e1, e2, q⟩ := r
    exact ⟨dx, fs', e1, e2, q.exi e⟩
theorem RO'.ext {D : Ad} {ι ι' : List Addr} {H H' : Hp} (e : Ext ι H ι' H') {o : SO} {h : HO} (r : RO' D ι H o h) : RO' D ι' H' o h := r.exi e.exi
theorem RO'.not_tbl {D : Ad} {ι : List Addr} {H : Hp} {o : SO} {h : HO} (r : RO' D ι H o h) : ∀ ps, h ≠ .tbl ps := by
  cases o with
  | lst xs =>
    obtain ⟨vs, rfl, q⟩ := r
    exact fun _ z => nomatch z
  | dic kvs =>
    obtain ⟨kvs', rfl, e2, q⟩ := r
    exact fun _ z => nomatch z
  | ins c fs =>
    obtain ⟨dx, fs', rfl, e2, q⟩ := r
    exact fun _ z => nomatch z
theorem RO'.not_ext {D : Ad} {ι : List Addr} {H : Hp} {o : SO} {h : HO} (r : RO' D ι H o h) : ∀ φ, h ≠ .ext φ := by
  cases o with
  | lst xs =>
    obtain ⟨vs, rfl, q⟩ := r
    exact fun _ z => nomatch z
  | dic kvs =>
    obtain ⟨kvs', rfl, e2, q⟩ := r
    exact fun _ z => nomatch z
  | ins c fs =>
    obtain ⟨dx, fs', rfl, e2, q⟩ := r
    exact fun _ z => nomatch z
/-- tables stay where a thing of another kind is changed -/
theorem tabs_mv {T : List NdefX.NTab} {H H' : Hp} (t : NdefX.TabsN T H) (k1 : ∀ b ps, H b = some (.tbl ps) → H' b = some (.tbl ps)) (k2 : ∀ b φ, H b = some (.ext φ) → H' b = some (.ext φ)) : NdefX.TabsN T H' := fun p hp => by
  obtain ⟨ps, h1, h2, h3⟩ := t p hp
  refine ⟨ps, k1 _ _ h1, h2, fun pos cv hc => ?_⟩
  obtain ⟨c, e1, e2⟩ := h3 pos cv hc
  exact ⟨c, e1, k2 _ _ e2⟩
theorem tabs_all {T : List NdefX.NTab} {H H' : Hp} (t : NdefX.TabsN T H) (k : ∀ b u, H b = some u → H' b = some u) : NdefX.TabsN T H' := tabs_mv t (fun b ps h => k b _ h) fun b φ h => k b _ h
theorem tabs_upd {T : List NdefX.NTab} {H : Hp} {a : Addr} {u o : HO} (t : NdefX.TabsN T H) (h : H a = some u) (n1 : ∀ ps, u ≠ .tbl ps) (n2 : ∀ φ, u ≠ .ext φ) : NdefX.TabsN T (upd H a o) :=
  tabs_mv t (fun b ps q => by rw [upd_ne (fun z => by rw [z, h] at q; exact n1 _ (Option.some.inj q))]; exact q) fun b φ q => by rw [upd_ne (fun z => by rw [z, h] at q; exact n2 _ (Option.some.inj q))]; exact q
theorem RO'.not_imm {D : Ad} {ι : List Addr} {H : Hp} {o : SO} {h : HO} (r : RO' D ι H o h) : ¬ Imm h := by
  cases o with
  | lst xs =>
    obtain ⟨vs, rfl, q⟩ := r
    exact fun z => z
  | dic kvs =>
    obtain ⟨kvs', rfl, e2, q⟩ := r
    exact fun z => z
  | ins c fs =>
    obtain ⟨dx, fs', rfl, e2, q⟩ := r
    exact fun z => z

/-- the store S lies in the heap H, its objects at ι -/
structure Ly (D : Ad) (ι : List Addr) (H : Hp) (S : Store) : Prop where
  len : ι.length = S.length
  nd : ι.Nodup
  at_ : ∀ (i : Nat) (o : SO), S[i]? = some o → ∃ a h, ι[i]? = some a ∧ H a = some h ∧ RO' D ι H o h
  tb : NdefX.TabsN D.tabs H
section
variable {D : Ad} {ι : List Addr} {H : Hp} {S : Store}
theorem Ly.trk (L : Ly D ι H S) {a : Addr} (h : a ∈ ι) : ∃ o, H a = some o := by
  obtain ⟨i, hi, e⟩ := List.mem_iff_getElem.mp h
  have hs : i < S.length := by rw [← L.len]; exact hi
  obtain ⟨b, ho, e1, e2, _⟩ := L.at_ i S[i] (by simp [hs])
  rw [List.getElem?_eq_getElem hi, e] at e1
  cases e1
  exact ⟨ho, e2⟩
/-- a new object of its own at p, no object of the store -/
theorem ext_new {p : Addr} {o : HO} (L : Ly D ι H S) (hp : H p = none) : Ext ι H ι (upd H p o) := by
  refine ⟨⟨[], by simp, fun a h => absurd h (by simp)⟩, fun b u _ h _ => ?_, fun b u h _ => ?_, fun b u h => ?_⟩
  · rw [upd_ne (ne_of_none h hp)]; exact h
  · rw [upd_ne (ne_of_none h hp)]; exact h
  · exact ⟨u, by rw [upd_ne (ne_of_none h hp)]; exact h⟩
theorem ly_new {p : Addr} {o : HO} (L : Ly D ι H S) (hp : H p = none) : Ly D ι (upd H p o) S := by
  refine ⟨L.len, L.nd, fun i u e => ?_, tabs_all L.tb fun b u q => by rw [upd_ne (ne_of_none q hp)]; exact q⟩
  obtain ⟨a, h, e1, e2, e3⟩ := L.at_ i u e
  exact ⟨a, h, e1, by rw [upd_ne (ne_of_none e2 hp)]; exact e2, e3.ext (ext_new L hp)⟩
theorem not_mem_of_none {p : Addr} (L : Ly D ι H S) (hp : H p = none) : p ∉ ι := fun z => by
  obtain ⟨o, e⟩ := L.trk z
  rw [hp] at e
  cases e
/-- a new object of the store: its heap object stands at p in a heap that else grew only -/
theorem ext_push {p : Addr} {H' : Hp} (L : Ly D ι H S) (hp : H p = none) (k : ∀ b u, H b = some u → H' b = some u) : Ext ι H (ι ++ [p]) H' :=
  ⟨⟨[p], rfl, fun a h => by rw [List.mem_singleton.mp h]; exact hp⟩, fun b u _ h _ => k b u h, fun b u h _ => k b u h, fun b u h => ⟨u, k b u h⟩⟩
theorem ly_push {p : Addr} {H' : Hp} {o : SO} {ho : HO} (L : Ly D ι H S) (hp : H p = none) (k : ∀ b u, H b = some u → H' b = some u) (e : H' p = some ho) (r : RO' D (ι ++ [p]) H' o ho) : Ly D (ι ++ [p]) H' (S ++ [o]) := by
  refine ⟨by rw [List.length_append, List.length_append, L.len]; rfl, ?_, fun i u hu => ?_, tabs_all L.tb k⟩
  · refine List.nodup_append.mpr ⟨L.nd, by simp, fun a ha b hb => ?_⟩
    rw [List.mem_singleton.mp hb]
    rintro rfl
    exact not_mem_of_none L hp ha
  · by_cases hi : i < S.length
    · rw [List.getElem?_append_left hi] at hu
      obtain ⟨a, h, e1, e2, e3⟩ := L.at_ i u hu
      exact ⟨a, h, (ext_push L hp k).get e1, k a h e2, e3.ext (ext_push L hp k)⟩
    · have hi' : i = S.length := by
        have := (List.getElem?_eq_some_iff.mp hu).1
        rw [List.length_append, List.length_singleton] at this
        omega
      subst hi'
      rw [List.getElem?_append_right (Nat.le_refl _), Nat.sub_self] at hu
      cases hu
      refine ⟨p, ho, ?_, e, r⟩
      rw [← L.len, List.getElem?_append_right (Nat.le_refl _), Nat.sub_self]
      rfl
/-- an object of the store is changed -/
theorem ext_write {a : Addr} {i : Nat} {o : SO} {ho : HO} (L : Ly D ι H S) (hi : ι[i]? = some a) (hs : S[i]? = some o) : Ext ι H ι (upd H a ho) := by
  obtain ⟨a', h, e1, e2, e3⟩ := L.at_ i o hs
  rw [hi] at e1
  cases e1
  refine ⟨⟨[], by simp, fun a h => absurd h (by simp)⟩, fun b u hb h _ => ?_, fun b u h im => ?_, fun b u h => ?_⟩
  · rw [upd_ne (fun (z : b = a) => hb (by rw [z]; exact List.mem_of_getElem? hi))]; exact h
  · rw [upd_ne]
    · exact h
    · rintro rfl
      rw [e2] at h
      cases h
      exact e3.not_imm im
  · by_cases z : b = a
    · subst z; exact ⟨ho, upd_same⟩
    · exact ⟨u, by rw [upd_ne z]; exact h⟩
theorem ly_write {a : Addr} {i : Nat} {o o' : SO} {ho : HO} (L : Ly D ι H S) (hi : ι[i]? = some a) (hs : S[i]? = some o) (r : RO' D ι (upd H a ho) o' ho) : Ly D ι (upd H a ho) (S.set i o') := by
  refine ⟨by rw [List.length_set]; exact L.len, L.nd, fun j u hu => ?_, by
    obtain ⟨a', h, e1, e2, e3⟩ := L.at_ i o hs
    rw [hi] at e1
    cases e1
    exact tabs_upd L.tb e2 e3.not_tbl e3.not_ext⟩
  by_cases hj : i = j
  · subst hj
    have hl : i < S.length := (List.getElem?_eq_some_iff.mp hs).1
    rw [List.getElem?_set_self hl] at hu
    cases hu
    exact ⟨a, ho, hi, upd_same, r⟩
  · rw [List.getElem?_set_ne hj] at hu
    obtain ⟨b, h, e1, e2, e3⟩ := L.at_ j u hu
    refine ⟨b, h, e1, ?_, e3.ext (ext_write L hi hs)⟩
    rw [upd_ne]
    · exact e2
    · rintro rfl
      exact hj (by
        have h1 := (List.getElem?_eq_some_iff.mp hi)
        have h2 := (List.getElem?_eq_some_iff.mp e1)
        obtain ⟨l1, q1⟩ := h1
        obtain ⟨l2, q2⟩ := h2
        exact (List.getElem_inj L.nd).mp (q1.trans q2.symm))
/-- a list that is no object of the store (one that a comprehension fills) is changed -/
theorem exi_out {p : Addr} {vs : List V} {u : HO} (hp : H p = some (.lst vs)) : Exi ι H ι (upd H p u) := by
  have ne : ∀ b o, H b = some o → (∀ vs, o ≠ .lst vs) → upd H p u b = some o := fun b o h n => by
    rw [upd_ne]
    · exact h
    · rintro rfl
      rw [hp] at h
      exact n _ (Option.some.inj h).symm
  exact ⟨fun _ _ h => h, fun b o h im => ne b o h (fun vs z => by rw [z] at im; exact im), fun b C dx fs hb h => ⟨hb, ne b _ h fun _ z => nomatch z⟩, fun b φ hb h => ⟨hb, ne b _ h fun _ z => nomatch z⟩⟩
theorem ly_out {p : Addr} {vs : List V} {u : HO} (L : Ly D ι H S) (np : p ∉ ι) (hp : H p = some (.lst vs)) : Ly D ι (upd H p u) S := by
  refine ⟨L.len, L.nd, fun i u e => ?_, tabs_upd L.tb hp (fun _ z => nomatch z) fun _ z => nomatch z⟩
  obtain ⟨a, h, e1, e2, e3⟩ := L.at_ i u e
  exact ⟨a, h, e1, by rw [upd_ne (fun z => np (by rw [← z]; exact List.mem_of_getElem? e1))]; exact e2, e3.exi (exi_out hp)⟩
theorem ext_out {p : Addr} {o : HO} {ι0 : List Addr} {H0 : Hp} (e : Ext ι0 H0 ι H) (hp : H0 p = none) (nf : ∀ u, H p = some u → ¬ Imm u) : Ext ι0 H0 ι (upd H p o) := by
  have ne : ∀ b u, H0 b = some u → b ≠ p := fun b u h z => by
    subst z
    rw [hp] at h
    cases h
  refine ⟨e.pre, fun b u hb h nt => ?_, fun b u h im => ?_, fun b u h => ?_⟩
  · rw [upd_ne (ne b u h)]; exact e.out b u hb h nt
  · rw [upd_ne (ne b u h)]; exact e.imm b u h im
  · obtain ⟨u', h'⟩ := e.trk b u h
    exact ⟨u', by rw [upd_ne (ne b u h)]; exact h'⟩
/-- it becomes one -/
theorem exi_adopt {p : Addr} {ho : HO} (e : H p = some ho) (ni : ∀ C dx fs, ho ≠ .ins C dx fs) (ne : ∀ φ, ho ≠ .ext φ := by first | (intro φ z; cases z; done) | assumption) : Exi ι H (ι ++ [p]) H := by
  refine ⟨fun i a h => by rw [List.getElem?_append_left (List.getElem?_eq_some_iff.mp h).1]; exact h, fun _ _ h _ => h, fun b C dx fs hb h => ⟨fun m => ?_, h⟩, fun b φ hb h => ⟨fun m => ?_, h⟩⟩
  · rcases List.mem_append.mp m with m | m
    · exact hb m
    · rw [List.mem_singleton.mp m, e] at h
      exact ni _ _ _ (Option.some.inj h)
  · rcases List.mem_append.mp m with m | m
    · exact hb m
    · rw [List.mem_singleton.mp m, e] at h
      exact ne _ (Option.some.inj h)
theorem ly_adopt {p : Addr} {o : SO} {ho : HO} (L : Ly D ι H S) (np : p ∉ ι) (e : H p = some ho) (ni : ∀ C dx fs, ho ≠ .ins C dx fs) (r : RO' D (ι ++ [p]) H o ho) : Ly D (ι ++ [p]) H (S ++ [o]) := by
  have xi : Exi ι H (ι ++ [p]) H := exi_adopt e ni r.not_ext
  refine ⟨by rw [List.length_append, List.length_append, L.len]; rfl, ?_, fun i u hu => ?_, L.tb⟩
  · refine List.nodup_append.mpr ⟨L.nd, by simp, fun a ha b hb => ?_⟩
    rw [List.mem_singleton.mp hb]
    rintro rfl
    exact np ha
  · by_cases hi : i < S.length
    · rw [List.getElem?_append_left hi] at hu
      obtain ⟨a, h, e1, e2, e3⟩ := L.at_ i u hu
      exact ⟨a, h, xi.get _ _ e1, e2, e3.exi xi⟩
    · have hi' : i = S.length := by
        have := (List.getElem?_eq_some_iff.mp hu).1
        rw [List.length_append, List.length_singleton] at this
        omega
      subst hi'
      rw [List.getElem?_append_right (Nat.le_refl _), Nat.sub_self] at hu
      cases hu
      refine ⟨p, ho, ?_, e, r⟩
      rw [← L.len, List.getElem?_append_right (Nat.le_refl _), Nat.sub_self]
      rfl
theorem ext_adopt {p : Addr} {ι0 : List Addr} {H0 : Hp} (e : Ext ι0 H0 ι H) (hp : H0 p = none) : Ext ι0 H0 (ι ++ [p]) H := by
  obtain ⟨l, e1, n1⟩ := e.pre
  refine ⟨⟨l ++ [p], by rw [e1, List.append_assoc], fun a ha => ?_⟩, e.out, e.imm, e.trk⟩
  rcases List.mem_append.mp ha with ha | ha
  · exact n1 a ha
  · rw [List.mem_singleton.mp ha]; exact hp
/-- a list of the store -/
theorem Ly.lst (L : Ly D ι H S) {i : Nat} {xs : List PV} (h : S[i]? = some (.lst xs)) : ∃ a vs, ι[i]? = some a ∧ H a = some (.lst vs) ∧ RVs D ι H xs vs := by
  obtain ⟨a, ho, e1, e2, vs, rfl, q⟩ := L.at_ i _ h
  exact ⟨a, vs, e1, e2, q⟩
theorem Ly.dic (L : Ly D ι H S) {i : Nat} {kvs : List (DK × PV)} (h : S[i]? = some (.dic kvs)) :
    ∃ a kvs', ι[i]? = some a ∧ H a = some (.dK kvs') ∧ kvs'.map (·.1) = kvs.map (fun p => dkK p.1) ∧ RVs D ι H (kvs.map (·.2)) (kvs'.map (·.2)) := by
  obtain ⟨a, ho, e1, e2, kvs', rfl, q, r⟩ := L.at_ i _ h
  exact ⟨a, kvs', e1, e2, q, r⟩
theorem Ly.ins (L : Ly D ι H S) {i c : Nat} {fs : List (Nat × PV)} (h : S[i]? = some (.ins c fs)) :
    ∃ a dx fs', ι[i]? = some a ∧ H a = some (.ins (D.ca c) dx fs') ∧ fs'.map (·.1) = fs.map (fun p => dN p.1) ∧ RVs D ι H (fs.map (·.2)) (fs'.map (·.2)) := by
  obtain ⟨a, ho, e1, e2, dx, fs', rfl, q, r⟩ := L.at_ i _ h
  exact ⟨a, dx, fs', e1, e2, q, r⟩
end

/-! ### readings -/
/-- the wish behind a value -/
def Cnt (D : Ad) (ι : List Addr) (H : Hp) (Qa : QV) (Q : VK) : Prop := ∀ ι' S' H' v x, Ext ι H ι' H' → Ly D ι' H' S' → RV D ι' H' v x → Qa v S' → Q x H'
theorem Cnt.ext {D : Ad} {ι ι' : List Addr} {H H' : Hp} {Qa : QV} {Q : VK} (c : Cnt D ι H Qa Q) (e : Ext ι H ι' H') : Cnt D ι' H' Qa Q := fun ι2 S2 H2 v x e2 l r q => c ι2 S2 H2 v x (e.trans e2) l r q
/-- an error as it lies in the heap -/
def RX (D : Ad) (ι : List Addr) (H : Hp) (x : Ex) (cls : Value) (d : Option Addr) : Prop := cls = .ref (D.xa x.cls) ∧
  ((x.fs = [] ∧ d = none) ∨ ∃ dd fs', d = some dd ∧ H dd = some (.xd fs') ∧ fs'.map (·.1) = x.fs.map (fun p => dN p.1) ∧ RVs D ι H (x.fs.map (·.2)) (fs'.map (·.2)))
def CnX (D : Ad) (ι : List Addr) (H : Hp) (Ra : QX) (σc : L2.St) (W : WX) : Prop := ∀ ι' S' H' x cls d, Ext ι H ι' H' → Ly D ι' H' S' → RX D ι' H' x cls d → Ra x S' → W cls d σc H'
theorem CnX.ext {D : Ad} {ι ι' : List Addr} {H H' : Hp} {Ra : QX} {σc : L2.St} {W : WX} (c : CnX D ι H Ra σc W) (e : Ext ι H ι' H') : CnX D ι' H' Ra σc W := fun ι2 S2 H2 x cls d e2 l r q => c ι2 S2 H2 x cls d (e.trans e2) l r q
/-- the slots -/
structure RG (D : Ad) (ι : List Addr) (H : Hp) (σ : Sg) (σc : L2.St) : Prop where
  len : σ.length = σc.length
  at_ : ∀ (i : Nat) (v : PV), σ[i]? = some (some v) → ∃ x, σc[i]? = some (some x) ∧ RV D ι H v x
theorem RG.ext {D : Ad} {ι ι' : List Addr} {H H' : Hp} {σ : Sg} {σc : L2.St} (g : RG D ι H σ σc) (e : Ext ι H ι' H') : RG D ι' H' σ σc :=
  ⟨g.len, fun i v h => by obtain ⟨x, a, b⟩ := g.at_ i v h; exact ⟨x, a, b.ext e⟩⟩
theorem RG.set {D : Ad} {ι : List Addr} {H : Hp} {σ : Sg} {σc : L2.St} (g : RG D ι H σ σc) (i : Nat) {v : PV} {x : V} (r : RV D ι H v x) : RG D ι H (σ.set i (some v)) (σc.set i (some x)) := by
  refine ⟨by rw [List.length_set, List.length_set]; exact g.len, fun j u h => ?_⟩
  by_cases hj : i = j
  · subst hj
    by_cases hi : i < σ.length
    · rw [List.getElem?_set_self hi] at h
      cases h
      exact ⟨x, by rw [List.getElem?_set_self (by rw [← g.len]; exact hi)], r⟩
    · rw [List.getElem?_eq_none (by rw [List.length_set]; omega)] at h
      cases h
  · rw [List.getElem?_set_ne hj] at h
    obtain ⟨y, a, b⟩ := g.at_ j u h
    exact ⟨y, by rw [List.getElem?_set_ne hj]; exact a, b⟩
theorem RG.wipe {D : Ad} {ι : List Addr} {H : Hp} {σ : Sg} {σc : L2.St} (g : RG D ι H σ σc) : ∀ l : List Nat, RG D ι H (wipeG σ l) (L2.wipe σc l)
  | [] => g
  | v :: vs => by
    have ih := g.wipe vs
    refine ⟨?_, fun j u h => ?_⟩
    · show ((wipeG σ vs).set v none).length = ((L2.wipe σc vs).set v none).length
      rw [List.length_set, List.length_set]
      exact ih.len
    · have h : ((wipeG σ vs).set v none)[j]? = some (some u) := h
      show ∃ x, ((L2.wipe σc vs).set v none)[j]? = some (some x) ∧ _
      by_cases hj : v = j
      · subst hj
        by_cases hi : v < (wipeG σ vs).length
        · rw [List.getElem?_set_self hi] at h
          cases h
        · rw [List.getElem?_eq_none (by rw [List.length_set]; omega)] at h
          cases h
      · rw [List.getElem?_set_ne hj] at h ⊢
        exact ih.at_ j u h

/-- a reading implied by another -/
theorem PE.imp {X : Cx} {e : Expr} {t t' : TE} (h : PE X e t) (i : ∀ σ H Q, t' σ H Q → t σ H Q) : PE X e t' := ⟨fun pins s σ H Q I hw => h.run pins s σ H Q I (i σ H Q hw)⟩
theorem PT.imp {X : Cx} {e : Expr} {t t' : TT} (h : PT X e t) (i : ∀ σ H Q, t' σ H Q → t σ H Q) : PT X e t' := ⟨fun pins s σ H Q I hw => h.run pins s σ H Q I (i σ H Q hw)⟩
theorem PA.imp {X : Cx} {es : List Expr} {t t' : TA} (h : PA X es t) (i : ∀ σ H Q, t' σ H Q → t σ H Q) : PA X es t' := ⟨fun pos pins s σ H Q I hw => h.run pos pins s σ H Q I (i σ H Q hw)⟩
theorem PS.imp {X : Cx} {st : Stmt} {t t' : TS} (h : PS X st t) (i : ∀ D σ H, t' D σ H → t D σ H) : PS X st t' := ⟨fun pins s σ H D I hw => h.run pins s σ H D I (i D σ H hw)⟩
theorem PSs.imp {X : Cx} {st : List Stmt} {t t' : TS} (h : PSs X st t) (i : ∀ D σ H, t' D σ H → t D σ H) : PSs X st t' := ⟨fun pins s σ H D I hw => h.run pins s σ H D I (i D σ H hw)⟩
theorem PG.imp {X : Cx} {e : Expr} {t t' : TG} (h : PG X e t) (i : ∀ v σ H Q, t' v σ H Q → t v σ H Q) : PG X e t' := ⟨fun pins s σ H v u Q I r hw => h.run pins s σ H v u Q I r (i v σ H Q hw)⟩

/-- an operation of values: what it brings in the store -/
def rdV1 (D : Ad) (P : PV → Store → QV → Prop) : V → Hp → VK → Prop := fun x H Q => ∃ ι S v Qa, Ly D ι H S ∧ RV D ι H v x ∧ P v S Qa ∧ Cnt D ι H Qa Q
def rdV2 (D : Ad) (P : PV → PV → Store → QV → Prop) : R2 := fun x y H Q => ∃ ι S v w Qa, Ly D ι H S ∧ RV D ι H v x ∧ RV D ι H w y ∧ P v w S Qa ∧ Cnt D ι H Qa Q
def rdVs (D : Ad) (P : List PV → Store → QV → Prop) : List V → Hp → VK → Prop := fun xs H Q => ∃ ι S vs Qa, Ly D ι H S ∧ RVs D ι H vs xs ∧ P vs S Qa ∧ Cnt D ι H Qa Q
section
variable {D : Ad} {ι : List Addr} {H : Hp} {S : Store} {Qa : QV} {Q : VK}
theorem Cnt.here (c : Cnt D ι H Qa Q) (L : Ly D ι H S) {v : PV} {x : V} (r : RV D ι H v x) (q : Qa v S) : Q x H := c ι S H v x Ext.refl L r q
/-- a new tuple -/
theorem Cnt.tup (c : Cnt D ι H Qa Q) (L : Ly D ι H S) {p : Addr} (hp : H p = none) {xs : List PV} {vs : List V} (r : RVs D ι H xs vs) (q : Qa (.tup xs) S) : Q (.ref p) (upd H p (.tup vs)) :=
  c ι S _ (.tup xs) (.ref p) (ext_new L hp) (ly_new L hp) ⟨p, vs, rfl, .inl (.inl upd_same), r.ext (ext_new L hp)⟩ q
/-- a new list -/
theorem upd_keep {p : Addr} {o : HO} (hp : H p = none) : ∀ b u, H b = some u → upd H p o b = some u := fun b u h => by rw [upd_ne (ne_of_none h hp)]; exact h
theorem Cnt.lst (c : Cnt D ι H Qa Q) (L : Ly D ι H S) {p : Addr} (hp : H p = none) {xs : List PV} {vs : List V} (r : RVs D ι H xs vs) (q : Qa (.ref S.length) (S ++ [.lst xs])) : Q (.ref p) (upd H p (.lst vs)) := by
  have e := ext_push (H' := upd H p (.lst vs)) L hp (upd_keep hp)
  refine c (ι ++ [p]) (S ++ [.lst xs]) _ (.ref S.length) (.ref p) e (ly_push (o := .lst xs) (ho := .lst vs) L hp (upd_keep hp) upd_same ⟨vs, rfl, r.ext e⟩) ⟨p, ?_, rfl⟩ q
  rw [← L.len, List.getElem?_append_right (Nat.le_refl _), Nat.sub_self]
  rfl
/-- a list of the store changed -/
theorem Ly.setLst (L : Ly D ι H S) {i : Nat} {a : Addr} {o : SO} (hi : ι[i]? = some a) (hs : S[i]? = some o) {xs : List PV} {vs : List V} (r : RVs D ι H xs vs) : Ext ι H ι (upd H a (.lst vs)) ∧ Ly D ι (upd H a (.lst vs)) (S.set i (.lst xs)) :=
  ⟨ext_write L hi hs, ly_write (o' := .lst xs) (ho := .lst vs) L hi hs ⟨vs, rfl, r.ext (ext_write L hi hs)⟩⟩
/-- behind a new list that is locked -/
def lockK (Q : VK) : VK := fun x H1 => ∃ a u, x = .ref a ∧ H1 a = some u ∧ Mut (some u) ∧ ∀ od, Q x (upd H1 a (.frz od u))
def lockB (m : Bool) (Q : VK) : VK := match m with
  | true => Q
  | false => lockK Q
theorem pe_fz {X : Cx} {e : Expr} {t : TE} (h : PE X e t) : PE X e (fun σ H Q => t σ H (lockK Q)) := ⟨fun pins s σ H Q I hw => thn (h.run pins s σ H _ I hw) fun v s1 ⟨x, H1, I1, r1, q1⟩ => by
  obtain ⟨a, u, rfl, hu, mu, q⟩ := q1
  obtain ⟨od, I2⟩ := I1.lock hu mu
  exact ⟨_, _, I2, r1, q od⟩⟩
theorem pe_fzB {X : Cx} {e : Expr} {t : TE} (m : Bool) (h : PE X e t) : PE X e (fun σ H Q => t σ H (lockB m Q)) := by
  cases m with
  | true => exact h
  | false => exact pe_fz h
/-- a new list that is locked: a value -/
theorem Cnt.frz (c : Cnt D ι H Qa Q) (L : Ly D ι H S) {p : Addr} (hp : H p = none) {xs : List PV} {vs : List V} (r : RVs D ι H xs vs) (q : Qa (.ls xs) S) : lockK Q (.ref p) (upd H p (.lst vs)) := by
  refine ⟨p, .lst vs, rfl, upd_same, trivial, fun od => ?_⟩
  rw [upd_upd]
  exact c ι S _ (.ls xs) (.ref p) (ext_new L hp) (ly_new L hp) ⟨p, vs, rfl, ⟨od, upd_same⟩, r.ext (ext_new L hp)⟩ q
theorem Cnt.dct (c : Cnt D ι H Qa Q) (L : Ly D ι H S) {p : Addr} (hp : H p = none) {ks : List (Int ⊕ Nat)} {xs : List PV} {kvs' : List (L2.Key × V)} (hk : kvs'.map (·.1) = ks.map dkP) (r : RVs D ι H xs (kvs'.map (·.2))) (q : Qa (.dct ks xs) S) : lockK Q (.ref p) (upd H p (.dK kvs')) := by
  refine ⟨p, .dK kvs', rfl, upd_same, trivial, fun od => ?_⟩
  rw [upd_upd]
  exact c ι S _ (.dct ks xs) (.ref p) (ext_new L hp) (ly_new L hp) ⟨p, kvs', rfl, ⟨od, upd_same⟩, hk, r.ext (ext_new L hp)⟩ q
theorem Cnt.new (c : Cnt D ι H Qa Q) (L : Ly D ι H S) {m : Bool} {p : Addr} (hp : H p = none) {xs : List PV} {vs : List V} (r : RVs D ι H xs vs) (q : newL m xs S Qa) : lockB m Q (.ref p) (upd H p (.lst vs)) := by
  cases m with
  | true => exact c.lst L hp r q
  | false => exact c.frz L hp r q
/-- an instance as it lies -/
theorem ins_at (L : Ly D ι H S) {v : PV} {x : V} {k : Nat} {fs : List (Nat × PV)} (h : insOf S v = some (k, fs)) (r : RV D ι H v x) :
    ∃ a dx fs', x = .ref a ∧ H a = some (.ins (D.ca k) dx fs') ∧ fs'.map (·.1) = fs.map (fun p => dN p.1) ∧ RVs D ι H (fs.map (·.2)) (fs'.map (·.2)) := by
  cases v with
  | obj c ks vs =>
    cases h
    obtain ⟨a, dx, fs', e1, _, h1, h2, h3⟩ := r
    have l1 := congrArg List.length h2
    have l2 := h3.len
    simp only [List.length_map] at l1 l2
    have hl : ks.length = vs.length := by omega
    refine ⟨a, dx, fs', e1, h1, ?_, ?_⟩
    · rw [h2, show (fun p : Nat × PV => dN p.1) = dN ∘ Prod.fst from rfl, ← List.map_map, List.map_fst_zip (by omega)]
    · rw [List.map_snd_zip (by omega)]
      exact h3
  | ref i =>
    simp only [insOf] at h
    split at h
    · rename_i c fs2 e
      cases h
      obtain ⟨a, hi, e1⟩ := r
      obtain ⟨a', dx, fs', hi', hp, n1, n2⟩ := L.ins e
      rw [hi] at hi'; cases hi'
      exact ⟨a, dx, fs', e1, hp, n1, n2⟩
    · cases h
  | _ => cases h
theorem lstOf_cases {v : PV} {xs : List PV} (h : lstOf S v = some xs) : v = .scr xs ∨ v = .ls xs ∨ ∃ i, v = .ref i ∧ S[i]? = some (.lst xs) := by
  cases v with
  | scr ys => cases h; exact .inl rfl
  | ls ys => cases h; exact .inr (.inl rfl)
  | ref i =>
    refine .inr (.inr ⟨i, rfl, ?_⟩)
    simp only [lstOf] at h
    split at h
    · rename_i e
      cases h
      exact e
    · cases h
  | _ => cases h
theorem lsOf_cases {v : PV} {xs : List PV} (h : lsOf S v = some xs) : v = .ls xs ∨ ∃ i, v = .ref i ∧ S[i]? = some (.lst xs) := by
  cases v with
  | ls ys => cases h; exact .inl rfl
  | ref i =>
    refine .inr ⟨i, rfl, ?_⟩
    simp only [lsOf] at h
    split at h
    · rename_i e
      cases h
      exact e
    · cases h
  | _ => cases h
theorem itemsOf_cases {v : PV} {xs : List PV} (h : itemsOf S v = some xs) : v = .tup xs ∨ lstOf S v = some xs := by
  cases v with
  | tup ys => cases h; exact .inl rfl
  | scr ys => exact .inr h
  | ls ys => exact .inr h
  | ref i => exact .inr h
  | _ => cases h
/-- a list as it lies -/
theorem ls_at (L : Ly D ι H S) {v : PV} {xs : List PV} {x : V} (h : lsOf S v = some xs) (r : RV D ι H v x) : ∃ a vs, x = .ref a ∧ Rd H a (.lst vs) ∧ RVs D ι H xs vs := by
  rcases lsOf_cases h with rfl | ⟨i, rfl, hs⟩
  · obtain ⟨a, vs, e, ⟨o, q⟩, t⟩ := r
    exact ⟨a, vs, e, .inr ⟨o, q⟩, t⟩
  · obtain ⟨a, hi, e⟩ := r
    obtain ⟨b, vs, hi', hb, t⟩ := L.lst hs
    rw [hi] at hi'
    cases hi'
    exact ⟨a, vs, e, .inl hb, t⟩
theorem lst_at (L : Ly D ι H S) {v : PV} {xs : List PV} {x : V} (h : lstOf S v = some xs) (r : RV D ι H v x) : ∃ a vs, x = .ref a ∧ SqL D.K H a vs ∧ RVs D ι H xs vs := by
  rcases lstOf_cases h with rfl | rfl | ⟨i, rfl, hs⟩
  · obtain ⟨a, vs, e, q, t⟩ := r
    exact ⟨a, vs, e, q.list, t⟩
  · obtain ⟨a, vs, e, ⟨o, q⟩, t⟩ := r
    exact ⟨a, vs, e, .inl (.inr ⟨o, q⟩), t⟩
  · obtain ⟨a, hi, e⟩ := r
    obtain ⟨b, vs, hi', hb, t⟩ := L.lst hs
    rw [hi] at hi'
    cases hi'
    exact ⟨a, vs, e, SqL.of hb, t⟩
theorem seq_at (L : Ly D ι H S) {v : PV} {xs : List PV} {x : V} (h : itemsOf S v = some xs) (r : RV D ι H v x) : ∃ a vs, x = .ref a ∧ (SqL D.K H a vs ∨ SqT D.K H a vs) ∧ RVs D ι H xs vs := by
  rcases itemsOf_cases h with rfl | h
  · obtain ⟨a, vs, e, q, t⟩ := r
    exact ⟨a, vs, e, .inr q, t⟩
  · obtain ⟨a, vs, e, q, t⟩ := lst_at L h r
    exact ⟨a, vs, e, .inl q, t⟩
end

/-! ### what stands within -/
section
variable {D : Ad} {ι : List Addr} {H : Hp}
mutual
theorem RV.inr {n : Nat} (hn : ι.length = n) : ∀ {x : PV} {v : V}, RV D ι H x v → x.inR n = true
  | .non, _, _ => rfl
  | .bl _, _, _ => rfl
  | .int _, _, _ => rfl
  | .str _, _, _ => rfl
  | .tup xs, _, h => by obtain ⟨_, _, _, _, h2⟩ := h; exact RVs.inr hn h2
  | .scr xs, _, h => by obtain ⟨_, _, _, _, h2⟩ := h; exact RVs.inr hn h2
  | .ls xs, _, h => by obtain ⟨_, _, _, _, h2⟩ := h; exact RVs.inr hn h2
  | .ref i, _, h => by
    obtain ⟨a, h1, _⟩ := h
    have := (List.getElem?_eq_some_iff.mp h1).1
    exact decide_eq_true (by omega)
  | .fn _, _, _ => rfl
  | .cls _, _, _ => rfl
  | .ty _, _, _ => rfl
  | .obj _ _ xs, _, h => by obtain ⟨_, _, _, _, _, _, _, h2⟩ := h; exact RVs.inr hn h2
  | .dct _ xs, _, h => by obtain ⟨_, _, _, _, _, h2⟩ := h; exact RVs.inr hn h2
  | .clo _ xs, _, h => by obtain ⟨_, _, _, _, _, _, _, _, _, _, h2⟩ := h; exact RVs.inr hn h2
theorem RVs.inr {n : Nat} (hn : ι.length = n) : ∀ {xs : List PV} {vs : List V}, RVs D ι H xs vs → PV.inRs n xs = true
  | [], _, _ => rfl
  | x :: xs, vs, h => by
    obtain ⟨v, r, rfl, a, b⟩ := h
    show (PV.inR n x && PV.inRs n xs) = true
    rw [RV.inr hn a, RVs.inr hn b] <;> rfl
end
mutual
/-- what leads to none of the new things stands without them -/
theorem RV.cut {l : List Addr} {n : Nat} (hn : ι.length = n) : ∀ {x : PV} {v : V}, RV D (ι ++ l) H x v → x.inR n = true → RV D ι H x v
  | .non, _, h, _ => h
  | .bl _, _, h, _ => h
  | .int _, _, h, _ => h
  | .str _, _, h, _ => h
  | .tup xs, _, h, i => by obtain ⟨a, vs, e, q, h2⟩ := h; exact ⟨a, vs, e, q, RVs.cut hn h2 i⟩
  | .scr xs, _, h, i => by obtain ⟨a, vs, e, q, h2⟩ := h; exact ⟨a, vs, e, q, RVs.cut hn h2 i⟩
  | .ls xs, _, h, i => by obtain ⟨a, vs, e, q, h2⟩ := h; exact ⟨a, vs, e, q, RVs.cut hn h2 i⟩
  | .ref j, _, h, i => by
    obtain ⟨a, h1, h2⟩ := h
    have hj : j < n := of_decide_eq_true i
    exact ⟨a, by rw [List.getElem?_append_left (by omega)] at h1; exact h1, h2⟩
  | .fn _, _, h, _ => h
  | .cls _, _, h, _ => h
  | .ty _, _, h, _ => h
  | .obj c ks xs, _, h, i => by
    obtain ⟨a, dx, fs', e, n1, h1, h2, h3⟩ := h
    exact ⟨a, dx, fs', e, fun z => n1 (List.mem_append_left _ z), h1, h2, RVs.cut hn h3 i⟩
  | .dct ks xs, _, h, i => by obtain ⟨a, kvs', e, q, h2, h3⟩ := h; exact ⟨a, kvs', e, q, h2, RVs.cut hn h3 i⟩
  | .clo k xs, _, h, i => by
    obtain ⟨a, cl, c, vs, e, n1, n2, h1, h2, h3, h4⟩ := h
    exact ⟨a, cl, c, vs, e, fun z => n1 (List.mem_append_left _ z), fun z => n2 (List.mem_append_left _ z), h1, h2, h3, RVs.cut hn h4 i⟩
theorem RVs.cut {l : List Addr} {n : Nat} (hn : ι.length = n) : ∀ {xs : List PV} {vs : List V}, RVs D (ι ++ l) H xs vs → PV.inRs n xs = true → RVs D ι H xs vs
  | [], _, h, _ => h
  | x :: xs, vs, h, i => by
    obtain ⟨v, r, rfl, a, b⟩ := h
    have i : (PV.inR n x && PV.inRs n xs) = true := i
    rw [Bool.and_eq_true] at i
    exact ⟨v, r, rfl, RV.cut hn a i.1, RVs.cut hn b i.2⟩
end
theorem RO'.inr {n : Nat} (hn : ι.length = n) {o : SO} {h : HO} (r : RO' D ι H o h) : o.inR n = true := by
  cases o with
  | lst xs => obtain ⟨_, _, q⟩ := r; exact q.inr hn
  | dic kvs => obtain ⟨_, _, _, q⟩ := r; exact q.inr hn
  | ins c fs => obtain ⟨_, _, _, _, q⟩ := r; exact q.inr hn
theorem RO'.cut {l : List Addr} {n : Nat} (hn : ι.length = n) {o : SO} {h : HO} (r : RO' D (ι ++ l) H o h) (i : o.inR n = true) : RO' D ι H o h := by
  cases o with
  | lst xs => obtain ⟨vs, e, q⟩ := r; exact ⟨vs, e, q.cut hn i⟩
  | dic kvs => obtain ⟨kvs', e1, e2, q⟩ := r; exact ⟨kvs', e1, e2, q.cut hn i⟩
  | ins c fs => obtain ⟨dx, fs', e1, e2, q⟩ := r; exact ⟨dx, fs', e1, e2, q.cut hn i⟩
/-- the new things are forgotten -/
theorem ext_cut {ι' : List Addr} {H' : Hp} (e : Ext ι H ι' H') : Ext ι H ι H' := ⟨⟨[], by simp, fun a h => absurd h (by simp)⟩, e.out, e.imm, e.trk⟩
theorem ly_cut {ι' : List Addr} {H' : Hp} {S S' S0 : Store} (L : Ly D ι H S) (e : Ext ι H ι' H') (L' : Ly D ι' H' S') (c : Cut S S' S0) : Ly D ι H' S0 := by
  obtain ⟨l, rfl, n1⟩ := e.pre
  refine ⟨by rw [L.len, c.len], L.nd, fun i o hi => ?_, L'.tb⟩
  obtain ⟨J, rfl⟩ := c.pre
  have hl : i < S0.length := (List.getElem?_eq_some_iff.mp hi).1
  obtain ⟨a, h, e1, e2, e3⟩ := L'.at_ i o (by rw [List.getElem?_append_left hl]; exact hi)
  have hi2 : i < ι.length := by rw [L.len, ← c.len]; exact hl
  refine ⟨a, h, by rw [List.getElem?_append_left hi2] at e1; exact e1, e2, ?_⟩
  rcases c.at_ i o hi with q | q
  · obtain ⟨_, _, _, _, r⟩ := L.at_ i o q
    exact e3.cut L.len (r.inr L.len)
  · exact e3.cut L.len q
end
end Rp
/-! # Own classes of errors over any built-in one -/
namespace Rp
open PySem PySem.Spec PyProof.Rows L2
/-- what is known of a built-in class of errors: its name, its new and init, the line of its classes -/
structure BsOk (B nw it : String) (tl : List Value) : Prop where
  F : ExcBaseFacts B nw it tl
  st : StoreFacts B tl "object.__setattr__" "object"
  ty : typeOf (.type B) = pure (.type "type")
  bv : bootBuiltins (Str.ofString B) = some (.type B)
  sb : Manifest.isStub B = false
  hi : PySem.W.handedIn (.builtin it) = true
  n1 : Str.ofString B ≠ "__name__"
  n2 : (Str.ofString B == ("__debug__" : Str)) = false
theorem bs_value : BsOk "ValueError" "ValueError.__new__" "ValueError.__init__" [.type "ValueError", .type "Exception", .type "BaseException", .type "object"] := ⟨F.excBase_ValueError, F.store_ValueError, by kernel_rfl, PyProof.Rows.Boot.«ValueError», by decide +kernel, by decide +kernel, by decide, by decide⟩
theorem bs_exc : BsOk "Exception" "Exception.__new__" "Exception.__init__" [.type "Exception", .type "BaseException", .type "object"] := ⟨F.excBase_Exception, F.store_Exception, by kernel_rfl, PyProof.Rows.Boot.«Exception», by decide +kernel, by decide +kernel, by decide, by decide⟩
theorem bs_arith : BsOk "ArithmeticError" "ArithmeticError.__new__" "ArithmeticError.__init__" [.type "ArithmeticError", .type "Exception", .type "BaseException", .type "object"] := ⟨F.excBase_ArithmeticError, F.store_ArithmeticError, by kernel_rfl, PyProof.Rows.Boot.«ArithmeticError», by decide +kernel, by decide +kernel, by decide, by decide⟩
/-- such a class, as the written part has it -/
structure OexB (nw : String) (tl : List Value) (K : PySem.W.Frag) (C : Addr) : Prop where
  ii : PySem.W.excInitIn K C tl nw = true
  ov : PySem.W.excOver K C tl = true
  hd : (PySem.W.clsIn K C).any (·.hasDict) = true
  sa : PySem.W.findIn K (.ref C) "__setattr__" = some (some (.builtin "object.__setattr__"))
  exC : PySem.W.subIn K (.ref C) (.type "BaseException") = some true
  tyC : PySem.W.typeIn K (.ref C) = some (.type "type")
  kC : PySem.W.keepIn K (.ref C) = true
section
open Builtin Builtin.ObjectAttr
variable {X : Cx} {pins : List (Addr × Obj)} {σ : L2.St} {H : Hp} {s : Shared} {a C dx : Addr} {f : Str} {y : V} {u : Value} {fs : List (Str × V)} {Q : Unit → Shared → Prop} {E : Value → Shared → Prop} {A : Around} {B nw it : String} {tl : List Value}
theorem taker_none {K : PySem.W.Frag} (h : PySem.W.findIn K (.ref C) f = some none) : PySem.W.takerIn K C f = some none := by
  unfold PySem.W.takerIn
  rw [h]
  rfl
/-- e.f = y, the first one -/
theorem bst_new (S : BsOk B nw it tl) (T : OexB nw tl X.K C) (I : Inv X pins σ H s) (e : H a = some (exo a C none)) (hno : PySem.W.findIn X.K (.ref C) f = some none) (ry : RelV y u)
    (h : ∀ dx s', H dx = none → dx ≠ a → Inv X pins σ (upd (upd H dx (exd dx [(f, y)])) a (exo a C (some dx))) s' → Q () s') : wpAny (model X.prog X.w) A (setAttr (.ref a) f u) Q E s := by
  obtain ⟨t1, ho⟩ := exo_at I.hok e
  obtain ⟨hp, g, d, t, os⟩ := s
  have IA : PySem.W.InstAt hp a { cls := .ref C, dict := none, data := .fields #[.ref t1, .none, .none, .none, .bool false, .none] } C none := ⟨ho, rfl, rfl, trivial⟩
  refine PySem.W.set_plain I.kIn IA T.sa ?_
  refine PySem.W.osa_openX S.st I.kIn IA T.ov (taker_none hno) fun b => ?_
  obtain ⟨cd, hc, hh⟩ := PySem.W.any_some T.hd
  have hcls : PySem.W.Looks (model X.prog X.w) hp (classData C) cd := PySem.W.looks_clsIn I.kIn hc
  have key : ∀ h' tk' dx, (∀ b o, b ≠ a → hp.get? b = some o → h'.get? b = some o) → hp.objs.size ≤ dx → dx ≠ a → h'.get? a = some { cls := .ref C, dict := some dx, data := .fields #[.ref t1, .none, .none, .none, .bool false, .none] } → h'.Ns1 dx (fun y => if y = f then some u else none) → Q () ⟨h', g, d, tk', os⟩ := by
    intro h' tk' dx k dn dne hx hn
    have hnd : H dx = none := I.hok.fresh dn
    have nd : ∀ {b : Addr} {o : Obj}, hp.get? b = some o → b ≠ dx := fun {b o} q => Nat.ne_of_lt (Nat.lt_of_lt_of_le (Heap.lt_size q) dn)
    have na : ∀ {b : Addr}, H b = none → b ≠ a := fun {b} n z => by
      rw [z, e] at n
      cases n
    have U : Un X.fs [] H (upd (upd H dx (exd dx [(f, y)])) a (exo a C (some dx))) hp h' := {
      keep := fun b o q n _ _ => k b o (na n) q
      slot := fun b o q n _ _ => ⟨o.slots, k b o (na n) q⟩
      free := fun b o q n _ => by rw [upd_ne (na n), upd_ne (nd q)]; exact n
      there := fun b o q _ => by
        by_cases hb : b = a
        · exact ⟨_, by rw [hb]; exact hx⟩
        · exact ⟨o, k b o hb q⟩
      tups := fun b xs q => by rw [upd_ne (at_ne e q exo_tup), upd_ne (ne_of_none q hnd)]; exact q
      frzs := fun b o v q => by rw [upd_ne (at_ne e q exo_frz), upd_ne (ne_of_none q hnd)]; exact q
      tbls := fun b ps q => ⟨#[], by rw [upd_ne (at_ne e q exo_tbl), upd_ne (ne_of_none q hnd), q]; simp⟩ }
    refine h dx _ hnd dne (I.un (t' := tk') U fun b o q => ?_)
    by_cases hb : b = a
    · subst hb
      rw [upd_same] at q
      cases q
      exact exo_ok hx
    · rw [upd_ne hb] at q
      by_cases hd : b = dx
      · subst hd
        rw [upd_same] at q
        cases q
        exact exd_ok hn (relO_put (fs := []) ry fun g => True.intro)
      · rw [upd_ne hd] at q
        refine (I.hok b o q).stay (fun c v hc z => k c v ?_ z) (fun c hc => by rw [upd_ne (at_ne e hc exo_own), upd_ne (ne_of_none hc hnd)]; exact hc) (fun c xs hc => by rw [upd_ne (at_ne e hc exo_tup), upd_ne (ne_of_none hc hnd)]; exact hc)
        rcases hc with hc | hc
        · rw [hc]
          exact hb
        · exact at_ne e hc exo_own
  have hxs : a ≠ hp.objs.size := Nat.ne_of_lt (Heap.lt_size ho)
  show wpAny _ _ (storeInOwnDict (.ref a) (.ref C) _ f u b) _ _ _
  obtain ⟨nm, bs, mro, ns, qn, hd, sn, sb, ab, col, del⟩ := cd
  dsimp only at hh
  subst hh
  unfold storeInOwnDict ownDictForStores
  repeat (first | with_reducible refine PySem.HandSPX.store_in_new ?_ ?_ | with_reducible refine wpAny_loadPart_at ho ?_ | with_reducible refine hcls.at ?_ | wp_step)
  · exact ⟨_, #[], _, (Heap.get?_update_ne _ _ _ _ hxs.symm).trans (Heap.get?_push_at rfl rfl), rfl, fun e he => absurd he (by simp), fun _ => rfl⟩
  · intro h' tk' hn' hs
    refine key h' tk' hp.objs.size (fun b o hb q => ?_) (Nat.le_refl _) hxs.symm ?_ hn'
    · exact (hs.2 b (Nat.ne_of_lt (Heap.lt_size q))).trans ((Heap.get?_update_ne _ _ _ _ hb).trans (Heap.get?_push_of_some _ q))
    · exact (hs.2 a hxs).trans (Heap.get?_update_self _ (Heap.get?_push_of_some _ ho) rfl)
/-- e.f = y, a further one -/
theorem bst_old (S : BsOk B nw it tl) (T : OexB nw tl X.K C) (I : Inv X pins σ H s) (e : H a = some (exo a C (some dx))) (ed : H dx = some (exd dx fs)) (hl : fs.length ≤ 900) (hno : PySem.W.findIn X.K (.ref C) f = some none) (ry : RelV y u)
    (h : ∀ s', Inv X pins σ (upd H dx (exd dx ((f, y) :: fs))) s' → Q () s') : wpAny (model X.prog X.w) A (setAttr (.ref a) f u) Q E s := by
  obtain ⟨t1, ho⟩ := exo_at I.hok e
  obtain ⟨mA, hns, rel⟩ := exd_at I.hok ed
  have hw := within_of rel
  obtain ⟨hp, g, d, t, os⟩ := s
  obtain ⟨oD, _, _, hoD, _, _⟩ := hns.count hw
  have IA : PySem.W.InstAt hp a { cls := .ref C, dict := some dx, data := .fields #[.ref t1, .none, .none, .none, .bool false, .none] } C (some oD) := ⟨ho, rfl, rfl, hoD⟩
  refine PySem.W.set_plain I.kIn IA T.sa ?_
  refine PySem.W.osa_openX S.st I.kIn IA T.ov (taker_none hno) fun b => ?_
  obtain ⟨cd, hc, hh⟩ := PySem.W.any_some T.hd
  have hcls : PySem.W.Looks (model X.prog X.w) hp (classData C) cd := PySem.W.looks_clsIn I.kIn hc
  show wpAny _ _ (storeInOwnDict (.ref a) (.ref C) _ f u b) _ _ _
  obtain ⟨nm, bs, mro, ns, qn, hd, sn, sb, ab, col, del⟩ := cd
  dsimp only at hh
  subst hh
  unfold storeInOwnDict ownDictForStores
  repeat (first | with_reducible refine PySem.OEX.store_in_old hns hw (by rw [List.length_map]; omega) ?_ | with_reducible refine wpAny_loadPart_at ho ?_ | with_reducible refine hcls.at ?_ | wp_step)
  intro h' tk' hn' hs
  have hd : ∃ o, h'.get? dx = some o := by
    obtain ⟨o, _, _, e', _⟩ := hn'
    exact ⟨o, e'⟩
  exact h _ (I.write (t' := tk') (x := dx) (e := dx) (o := exd dx ((f, y) :: fs)) (by rw [ed]; exact True.intro) (.inl rfl) (fun b o hb q => (hs.2 b hb).trans q) hd (exd_ok hn' (relO_put ry rel)))
/-- B.__init__(self, ..): nothing of it is told -/
theorem binit_ok {us : List Value} {Q : Value → Shared → Prop} (S : BsOk B nw it tl) (T : OexB nw tl X.K C) (I : Inv X pins σ H s) (e : H a = some (exo a C none)) (hl : us.length ≤ sizeLine) (h : ∀ s', Inv X pins σ H s' → Q .none s') :
    wpAny (model X.prog X.w) A (call (.builtin it) (.ref a :: us)) Q E s := by
  obtain ⟨nm, N, qn, bs, bm, hdct, sn, sub, ab, col, dd, k0, k1, k2, k3, k5, hC, hT⟩ := PySem.W.excInit_of I.kIn T.ii
  obtain ⟨t1, ho⟩ := exo_at I.hok e
  obtain ⟨hp, g, d, t, os⟩ := s
  refine wpAny_call (PySem.HandSPX.init_base S.F hT hC ho hl fun h' t2 k hx => ?_)
  have J := I.write (t' := t) (x := a) (e := a) (o := exo a C none) (by rw [e]; exact True.intro) (.inl rfl) k ⟨_, hx⟩ (exo_ok hx)
  have eu : upd H a (exo a C none) = H := by
    funext b
    by_cases hb : b = a
    · rw [hb, upd_same, e]
    · rw [upd_ne hb]
  rw [eu] at J
  exact h _ J
end
/-- B.__init__(self, ..) -/
def tBinit (nw : String) (tl : List Value) (K : PySem.W.Frag) (ta : TA) : TE := fun σ H Q => ta σ H fun vs H1 => ∃ (a C : Addr) (ws : List V), vs = .ref a :: ws ∧ ws.length ≤ 1000 ∧ OexB nw tl K C ∧ H1 a = some (exo a C none) ∧ Q .non H1
/-- self.f = e -/
def tBst (nw : String) (tl : List Value) (K : PySem.W.Frag) (f : Str) (to te : TE) : TS := fun D σ H => te σ H fun y H1 => to σ H1 fun x H2 => ∃ a C : Addr, x = .ref a ∧ OexB nw tl K C ∧ PySem.W.findIn K (.ref C) f = some none ∧
  ((H2 a = some (exo a C none) ∧ ∀ dx, H2 dx = none → dx ≠ a → D.nx σ (upd (upd H2 dx (exd dx [(f, y)])) a (exo a C (some dx)))) ∨
    ∃ (dx : Addr) (fs : List (Str × V)), H2 a = some (exo a C (some dx)) ∧ H2 dx = some (exd dx fs) ∧ fs.length ≤ 900 ∧ D.nx σ (upd H2 dx (exd dx ((f, y) :: fs))))
section
variable {X : Cx} {o e : Expr} {es : List Expr} {to te : TE} {ta : TA} {f : Str} {p p' p1 p2 pos : Pos} {B nw it : String} {tl : List Value}
theorem pe_binit {pl : Sem Bool} (S : BsOk B nw it tl) (hg : Gl X (Str.ofString B)) (hm : X.mg (Str.ofString B) = none) (vV : PySem.W.findCls X.K (.type B) (.type "type") "__init__" = some (.val (.builtin it))) (ha : PA X (e :: es) ta)
    (hc : eval (.Call (.Attribute (.Name (Str.ofString B) p1) "__init__" p2) (e :: es) [] pos) X.env = (do
      let ov ← eval (.Name (Str.ofString B) p1) X.env
      standAt p2.atName
      let (f, first) ← holding [ov] (getMethod ov "__init__" pl)
      callWith pos f first (backTo pos (starEach (e :: es) X.env)) (backToKw pos (keywordEach [] X.env))) := by rfl)
    (he : starEach (e :: es) X.env = (false, eval e X.env) :: starEach es X.env := by rfl) (hpl : (backTo pos (starEach es X.env)).any (·.1) = false := by rfl) :
    PE X (.Call (.Attribute (.Name (Str.ofString B) p1) "__init__" p2) (e :: es) [] pos) (tBinit nw tl X.K ta) := by
  refine ⟨fun pins s σ H Q I h => ?_⟩
  refine PySem.W.methodCall_KW (ld_blt I hg hm S.bv ?_ S.n1 S.n2) hc
  obtain ⟨m, fr⟩ := I.fr
  refine PySem.W.method_type fr I.ok.mod.kin S.ty S.sb vV S.hi ?_
  show wpAny _ _ (callWith pos (Value.builtin it) [] (backTo pos (starEach (e :: es) X.env)) []) _ _ _
  refine PyProof.Rows.callWith_method1 (thn (ha.run pos pins _ σ H _ (I.tok _) h) fun us s1 ⟨vs, H1, I1, r1, a, C, ws, ev, hl, T, ea, q⟩ => ?_) he hpl
  subst ev
  cases r1 with
  | @cons _ u0 _ ur ra rw' =>
    obtain rfl : u0 = Value.ref a := ra
    have hlen : ur.length ≤ sizeLine := by
      rw [← Paired.length rw', sizeLine_eq]
      omega
    exact binit_ok S T I1 ea hlen fun s' J => ⟨.non, H1, J, rfl, q⟩
theorem ps_bst (S : BsOk B nw it tl) (ho : PE X o to) (he : PE X e te) (hs : swapsWith e (some (.Attribute o f p')) pos.line X.env = pure false := by rfl) : PS X (.Assign [.Attribute o f p'] e pos) (tBst nw tl X.K f to te) := by
  refine ⟨fun pins s σ H D I h => ?_⟩
  refine plainObj_wpAny_Assign_Attribute (thn (he.run pins s σ H _ I h) fun v s1 ⟨y, H1, I1, r1, q1⟩ => thn (ho.run pins s1 σ H1 _ I1 q1) fun u s2 ⟨x, H2, I2, r2, a, C, ex, T, hno, q⟩ => ?_) hs
  subst ex
  obtain rfl : u = Value.ref a := r2
  rcases q with ⟨ea, q⟩ | ⟨dx, fs, ea, ed, hl, q⟩
  · exact bst_new S T I2 ea hno r1 fun dx s' n ne J => ⟨σ, _, J, q dx n ne⟩
  · exact bst_old S T I2 ea ed hl hno r1 fun s' J => ⟨σ, _, J, q⟩
/-- C(e, ..), an own class of errors with fields, its __init__ a def -/
theorem pmk_oeb {CX : CXT} {x : Str} {C fI : Addr} {k : Nat} {fd : FuncData} {ps : List Str} {sp : Sp} {ds : List Value} {dvs : List V} (S : BsOk B nw it tl) (T : OexB nw tl X.K C) (iC : PySem.W.findIn X.K (.ref C) "__init__" = some (some (.ref fI))) (tI : PySem.W.typeIn X.K (.ref fI) = some (.type "function"))
    (F1 : FnOk X.prog X.w X.K X.mg X.base CX k fI fd ps sp) (hr : Room (k + 1) X.A) (hb : Binds X.K fd ps ds) (hd : Vals dvs ds) (hx : Passes CX X (fun _ _ _ => False)) (hg : Gl X x) (hm : X.mg x = some (.ref C)) (ha : PA X (e :: es) ta)
    (hdb : (x == ("__debug__" : Str)) = false := by decide) (he : starEach (e :: es) X.env = (false, eval e X.env) :: starEach es X.env := by rfl) (hpl : (backTo pos (starEach es X.env)).any (·.1) = false := by rfl) :
    PMk X (.Call (.Name x p) (e :: es) [] pos) (tMkO C sp dvs ta) := by
  intro pins s σ H Q I h
  refine wpAny_Call_Name_kw (ld_glob I hg hm ?_ hdb)
  refine PySem.W.callWith_K (h₀ := X.base) I.ok.mod.kin T.kC (thn (ha.run pos pins s σ H _ (I.tok _) h) fun us s1 ⟨vs, H1, I1, r1, hz, q1⟩ => ⟨I1.kIn, ?_⟩) he hpl
  show wpAny _ _ (call (.ref C) us) _ _ _
  obtain ⟨nm, N, qn, bs, bm, hdct, sn, sub, ab, col, dd, k0, k1, k2, k3, k5, hC, hT⟩ := PySem.W.excInit_of I1.kIn T.ii
  obtain ⟨hp, g, dr, tk, os⟩ := s1
  have hsz : hp.objs.size ≤ hp.objs.size + 1 := Nat.le_succ _
  have hq := q1 (hp.objs.size + 1) (I1.hok.fresh hsz)
  have kk : ∀ b o, hp.get? b = some o → ((hp.push (PySem.W.kdv_tup us)).push (PySem.HandSPX.excO C hp.objs.size)).get? b = some o := fun b o e => Heap.get?_push_of_some _ (Heap.get?_push_of_some _ e)
  have hget : ((hp.push (PySem.W.kdv_tup us)).push (PySem.HandSPX.excO C hp.objs.size)).get? (hp.objs.size + 1) = some (PySem.HandSPX.excO C hp.objs.size) := by heap_get
  have I2 := I1.laid (t' := tk) (a := hp.objs.size + 1) (o := exo (hp.objs.size + 1) C none) (h' := (hp.push (PySem.W.kdv_tup us)).push (PySem.HandSPX.excO C hp.objs.size)) kk hsz (exo_ok hget)
  have r2 : Vals (V.ref (hp.objs.size + 1) :: (vs ++ dvs)) (Value.ref (hp.objs.size + 1) :: (us ++ ds)) := .cons rfl (r1.append hd)
  have hl : (Value.ref (hp.objs.size + 1) :: us ++ ds).length = ps.length := by
    have e := r2.length
    rw [F1.len _ _ _ _ hq] at e
    exact e.symm
  have hus : us.length ≤ sizeLine := by
    rw [← Paired.length r1, sizeLine_eq]
    omega
  refine wpAny_call (PySem.HandSPX.call_own S.F hT hC (PySem.W.looks_findIn I1.kIn iC) (fun self => PySem.W.bind_fn I1.kIn self tI) hus
    (codeAny_mono (F1.run _ X.stack _ _ ⟨Value.ref (hp.objs.size + 1) :: us, []⟩ (Value.ref (hp.objs.size + 1) :: (us ++ ds)) _ _ (fun _ _ _ => False) (hr.make C us []) (I2.env0.make C us []) (hb _ (Value.ref (hp.objs.size + 1) :: us) I2.kIn hl) r2 hq) fun r s' hq' => ?_))
  match r, hq' with
  | .error er, hq' => exact hx pins σ _ _ er s' I2 hq'
  | .ok (.ret u), hq' =>
    obtain ⟨v, H2, os2, bare2, un2, hok2, rv, ev, d, fs, ea, ed, hd1, q2⟩ := hq'
    subst ev
    obtain ⟨h2, g2, d2, t2, os'⟩ := s'
    exact ⟨rv, mk_end (raises_own T.exC T.tyC) I1 hsz kk un2 hok2 os2 bare2 ea ed hd1 q2⟩
  | .ok .next, hq' => exact False.elim hq'
  | .ok .brk, hq' => exact False.elim hq'
  | .ok .cont, hq' => exact False.elim hq'
end
end Rp
/-! # Own exceptions made: an __init__ that stores its arguments -/
namespace Rp
open PySem PySem.Spec PyProof.Rows L2
/-- what the __init__ of such a class does -/
def spI (C : Addr) (fs : List Str) : Sp := fun xs H Q _ => ∃ (a : Addr) (vs : List V), xs = V.ref a :: vs ∧ vs.length = fs.length ∧ H a = some (exo a C none) ∧
  ∀ d, H d = none → d ≠ a → Q .non (upd (upd H d (exd d (fs.zip vs).reverse)) a (exo a C (some d)))
theorem vcall_eq {e : Expr} {name : Str} {apos pos : Pos} {as : List Expr} {env : Env} (hbase : attributeBase e name env (eval e env) = eval e env) (hline : (apos.endLine == pos.line) = true)
    (hform : methodCallForm as.length (backTo pos (starEach as env)) (backToKw pos (keywordEach [] env)) = true) :
    eval (.Call (.Attribute e name apos) as [] pos) env = (do
      let ov ← eval e env
      standAt apos.atName
      let (f, first) ← holding [ov] (getMethod ov name (do return (← importBound e env).getD true))
      callWith pos f first (backTo pos (starEach as env)) (backToKw pos (keywordEach [] env))) := by
  rw [arm_eval_Call, hbase]
  have hpos : methodCallPos true e env apos pos = pure pos := by
    unfold methodCallPos
    simp [hline]
  unfold methodCall
  rw [show as.length + ([] : List Keyword).length = as.length from rfl, hform]
  simp only [hpos, if_true]
  rfl
section
variable {X : Cx} {K : PySem.W.Frag}
theorem init1 {C : Addr} {a : Addr} {v1 : V} {f1 x1 m : Str} {j : Nat} {p1 p2 p3 p4 p5 p6 q1 q2 q3 q4 : Pos} {H : Hp} {Q : VK}
    (hN : X.N = [("self" : Str), x1]) {B nw it : String} {tl : List Value} (S : BsOk B nw it tl) (hg : Gl X (Str.ofString B)) (hm : X.mg (Str.ofString B) = none) (vV : PySem.W.findCls X.K (.type B) (.type "type") "__init__" = some (.val (.builtin it)))
    (v0 : Vis X.env.scope "self") (w1 : Vis X.env.scope x1) (d1 : (x1 == ("__debug__" : Str)) = false) (c1 : (x1 == ("__classdict__" : Str)) = false) (T : OexB nw tl X.K C) (n1 : PySem.W.findIn X.K (.ref C) f1 = some none)
    (hline : (p2.endLine == p5.line) = true)
    (e : H a = some (exo a C none)) (q : ∀ d, H d = none → d ≠ a → Q .non (upd (upd H d (exd d [(f1, v1)])) a (exo a C (some d)))) :
    ∃ t, PSs X [.Expr (.Call (.Attribute (.Name (Str.ofString B) p1) "__init__" p2) [.Name "self" p3, .Constant (.str m) j p4] [] p5) p6, .Assign [.Attribute (.Name "self" q1) f1 q2] (.Name x1 q3) q4] t ∧
      t { nx := fun _ H' => Q .non H', rt := Q } [some (.ref a), some v1] H := by
  have s0 : X.N[0]? = some ("self" : Str) := by rw [hN] <;> rfl
  have s1 : X.N[1]? = some x1 := by rw [hN] <;> rfl
  refine ⟨_, pss_cons (ps_expr (pe_binit S (pl := do return (← importBound (.Name (Str.ofString B) p1) X.env).getD true) hg hm vV (pa_cons (pe_var s0 v0) (pa_cons pe_str pa_nil)) (hc := vcall_eq rfl hline rfl))) (pss_one (ps_bst S (pe_var s0 v0) (pe_var s1 w1 d1 c1))), ?_⟩
  refine ⟨_, rfl, a, C, [.str m], rfl, by show 1 ≤ 1000; decide, T, e, ?_⟩
  refine ⟨_, rfl, _, rfl, a, C, rfl, T, n1, .inl ⟨e, fun d hd hne => q d hd hne⟩⟩
theorem init2 {C : Addr} {a : Addr} {v1 v2 : V} {f1 f2 x1 x2 m : Str} {j : Nat} {p1 p2 p3 p4 p5 p6 q1 q2 q3 q4 r1 r2 r3 r4 : Pos} {H : Hp} {Q : VK}
    (hN : X.N = [("self" : Str), x1, x2]) {B nw it : String} {tl : List Value} (S : BsOk B nw it tl) (hg : Gl X (Str.ofString B)) (hm : X.mg (Str.ofString B) = none) (vV : PySem.W.findCls X.K (.type B) (.type "type") "__init__" = some (.val (.builtin it)))
    (v0 : Vis X.env.scope "self") (w1 : Vis X.env.scope x1) (d1 : (x1 == ("__debug__" : Str)) = false) (c1 : (x1 == ("__classdict__" : Str)) = false) (w2 : Vis X.env.scope x2) (d2 : (x2 == ("__debug__" : Str)) = false) (c2 : (x2 == ("__classdict__" : Str)) = false)
    (T : OexB nw tl X.K C) (n1 : PySem.W.findIn X.K (.ref C) f1 = some none) (n2 : PySem.W.findIn X.K (.ref C) f2 = some none) (hline : (p2.endLine == p5.line) = true)
    (e : H a = some (exo a C none)) (q : ∀ d, H d = none → d ≠ a → Q .non (upd (upd H d (exd d [(f2, v2), (f1, v1)])) a (exo a C (some d)))) :
    ∃ t, PSs X [.Expr (.Call (.Attribute (.Name (Str.ofString B) p1) "__init__" p2) [.Name "self" p3, .Constant (.str m) j p4] [] p5) p6, .Assign [.Attribute (.Name "self" q1) f1 q2] (.Name x1 q3) q4, .Assign [.Attribute (.Name "self" r1) f2 r2] (.Name x2 r3) r4] t ∧
      t { nx := fun _ H' => Q .non H', rt := Q } [some (.ref a), some v1, some v2] H := by
  have s0 : X.N[0]? = some ("self" : Str) := by rw [hN] <;> rfl
  have s1 : X.N[1]? = some x1 := by rw [hN] <;> rfl
  have s2 : X.N[2]? = some x2 := by rw [hN] <;> rfl
  refine ⟨_, pss_cons (ps_expr (pe_binit S (pl := do return (← importBound (.Name (Str.ofString B) p1) X.env).getD true) hg hm vV (pa_cons (pe_var s0 v0) (pa_cons pe_str pa_nil)) (hc := vcall_eq rfl hline rfl))) (pss_cons (ps_bst S (pe_var s0 v0) (pe_var s1 w1 d1 c1)) (pss_one (ps_bst S (pe_var s0 v0) (pe_var s2 w2 d2 c2)))), ?_⟩
  refine ⟨_, rfl, a, C, [.str m], rfl, by show 1 ≤ 1000; decide, T, e, ?_⟩
  refine ⟨_, rfl, _, rfl, a, C, rfl, T, n1, .inl ⟨e, fun d hd hne => ?_⟩⟩
  have e1 : upd (upd H d (exd d [(f1, v1)])) a (exo a C (some d)) a = some (exo a C (some d)) := upd_same
  have e2 : upd (upd H d (exd d [(f1, v1)])) a (exo a C (some d)) d = some (exd d [(f1, v1)]) := by rw [upd_ne hne, upd_same]
  refine ⟨_, rfl, _, rfl, a, C, rfl, T, n2, .inr ⟨d, [(f1, v1)], e1, e2, by show 1 ≤ 900; decide, ?_⟩⟩
  have e3 : upd (upd (upd H d (exd d [(f1, v1)])) a (exo a C (some d))) d (exd d [(f2, v2), (f1, v1)]) = upd (upd H d (exd d [(f2, v2), (f1, v1)])) a (exo a C (some d)) := by
    funext b
    by_cases hb : b = d
    · subst hb
      rw [upd_same, upd_ne hne, upd_same]
    · by_cases hc : b = a
      · subst hc
        rw [upd_ne hb, upd_same, upd_same]
      · rw [upd_ne hb, upd_ne hc, upd_ne hb, upd_ne hc, upd_ne hb]
  show Q .non _
  rw [e3]
  exact q d hd hne
end
/-- what is known of a class of errors -/
structure XcF (P : Program) (w : World) (D : Ad) (mg : Str → Option Value) (base : Heap) (T : Tab) (c : Nat) (d : EDef) : Prop where
  xf : XfC D.K (D.xa c)
  cl : (PySem.W.clsIn D.K (D.xa c)).isSome = true
  ca : PySem.W.findIn D.K (.ref (D.xa c)) "__class__" = some (some (.builtin "object.__class__"))
  hn : PySem.W.specialIn D.K (.builtin "object.__class__") "__get__" = some (some (.builtin "getset_descriptor.__get__"))
  ht : PySem.W.takesIn D.K (.builtin "object.__class__") = some true
  hm : PySem.W.mroIn D.K (D.xa c) (.type "object") = some true
  nf : ∀ f ∈ d.fs, PySem.W.findIn D.K (.ref (D.xa c)) (dN f) = some none
  ii : ∀ e, e < T.exs.length → PySem.W.kitOne D.K (.ref (D.xa c)) (.ref (D.xa e)) = some (d.up.contains e) ∧ PySem.W.exmOne D.K (.ref (D.xa c)) (.ref (D.xa e)) = some (d.up.contains e)
  ib : ∀ s ∈ bxs, PySem.W.kitOne D.K (.ref (D.xa c)) (.type s) = some (d.bt.contains s)
  mkd : d.made = true → ∃ (B nw it : String) (tl : List Value), BsOk B nw it tl ∧ OexB nw tl D.K (D.xa c) ∧ d.fs ≠ [] ∧ d.fs.length ≤ 900 ∧ ∃ (fI : Addr) (fd : FuncData) (ps : List Str), PySem.W.findIn D.K (.ref (D.xa c)) "__init__" = some (some (.ref fI)) ∧ PySem.W.typeIn D.K (.ref fI) = some (.type "function") ∧
    FnOk P w D.K mg base (L2.CX P w) 1 fI fd ps (spI (D.xa c) (d.fs.map dN)) ∧ Binds D.K fd ps []
end Rp
/-! # list + list, list * n of locked lists too; tuple * any n -/
namespace Rp
open PySem PySem.Spec PyProof.Rows L2
section
variable {X : Cx} {pins : List (Addr × Obj)} {σ : L2.St} {H : Hp} {s : Shared}
theorem inv_rdL {l : Addr} {xs : List V} (I : Inv X pins σ H s) (hH : Rd H l (.lst xs)) : xs.length ≤ sizeLine ∧ ∃ (its : List Value) (n : Nat), Vals xs its ∧ xs.length = its.length ∧ s.heap.get? l = some { cls := .type "list", data := .seq its.toArray n } := by
  obtain ⟨z, its, n, r, e⟩ := hH.ok I.hok
  exact ⟨z, its, n, r, r.length, e⟩
def rCatR : R2 := fun x y H Q => ∃ l b xs zs, x = .ref l ∧ y = .ref b ∧ Rd H l (.lst xs) ∧ Rd H b (.lst zs) ∧ xs.length + zs.length ≤ sizeLine ∧ ∀ p, H p = none → Q (.ref p) (upd H p (.lst (xs ++ zs)))
theorem op_catR : OpR X (binaryOp .Add) rCatR := by
  intro pins s σ H x y v u Q I rx ry h
  obtain ⟨l, b, xs, zs, rfl, rfl, hH, hB, hz, q⟩ := h
  cases rx
  cases ry
  obtain ⟨z, its, n, r, hl, e⟩ := inv_rdL I hH
  obtain ⟨z2, its2, n2, r2, hl2, e2⟩ := inv_rdL I hB
  refine PySem.P.add_list e e2 ?_ (by rw [List.size_toArray, List.size_toArray]; omega)
  have ea : its.toArray ++ its2.toArray = (its ++ its2).toArray := by simp
  rw [ea]
  exact ⟨.ref _, _, I.lnew (t' := s.toks) (r.append r2) (by rw [List.length_append]; omega), rfl, q _ I.fresh⟩
def rRepR : R2 := fun x y H Q => ∃ l k xs, x = .ref l ∧ y = .int k ∧ Rd H l (.lst xs) ∧ -(2 ^ 63) ≤ k ∧ k < 2 ^ 63 ∧ xs.length * k.toNat ≤ sizeLine ∧
  ∀ p, H p = none → Q (.ref p) (upd H p (.lst (List.replicate k.toNat xs).flatten))
theorem op_repR : OpR X (binaryOp .Mult) rRepR := by
  intro pins s σ H x y v u Q I rx ry h
  obtain ⟨l, k, xs, rfl, rfl, hH, h1, h2, hz, q⟩ := h
  cases rx
  obtain ⟨t, rfl⟩ := ry
  obtain ⟨z, its, n, r, hl, e⟩ := inv_rdL I hH
  have hlen : its.toArray.size * k.toNat ≤ sizeLine := by rw [List.size_toArray, ← hl]; exact hz
  have hcap : ¬ its.toArray.size * k.toNat > (2 ^ 63 - 1) / 8 := by
    have : (sizeLine : Nat) ≤ (2 ^ 63 - 1) / 8 := by decide
    omega
  have hfit : ¬ (!Builtin.List.listFitsIndex k) = true := by
    rw [fitsIndex_both h1 h2]
    exact Bool.false_ne_true
  have hlong : ¬ Builtin.List.listTooLong (its.toArray.size * k.toNat) = true := by
    rw [notLongL hlen]
    exact Bool.false_ne_true
  have hnew : List.foldl (fun x1 x2 => x1 ++ x2) #[] (List.replicate (if its.toArray.isEmpty = true then 0 else k.toNat) its.toArray) = (List.replicate k.toNat its).flatten.toArray := by
    have f0 : ∀ m : Nat, List.foldl (fun x1 x2 => x1 ++ x2) #[] (List.replicate m its.toArray) = (List.replicate m its).flatten.toArray := fun m => by
      have := foldl_rep its m []
      rw [List.nil_append] at this
      exact this
    rw [f0]
    cases its with
    | nil => simp
    | cons a r' => rw [if_neg (by simp)]
  refine wpAny_binaryOp_repeat_ref (T := "list") (U := "int") (by decide) ⟨_, e, rfl⟩ (fun s' => typeIs_int s' k t) noFill_list_mul F.fills_int_mul F.slot_int_rmul repeat_list F.slot_int_index.lookup
    (call_meets F.slot_int_rmul (typeIs_int s k t) F.entry_int_rmul (F.args_int_rmul_2 _ _) (int___rmul___int_list k t l its.toArray n)
      ⟨e, rfl, ⟨_, e, rfl⟩, call_meets F.slot_list_mul ⟨_, e, rfl⟩ F.entry_list_mul (F.args_list_mul_2 _ _) (AutoListH.list___mul___list_int_3 l its.toArray n k t hfit hcap hlong) ⟨e, ?_⟩⟩)
  rw [hnew]
  exact ⟨.ref _, _, I.lnew (t' := s.toks) (r.rep k.toNat) (by rw [PyProof.Rows.lm_len_rep_flat, Nat.mul_comm]; exact hz), rfl, q _ I.fresh⟩
theorem tuple_mul1 (l : Addr) (items : Array Value) (n : Nat) (dd : Option Addr) (sl : Array (Option Value)) (x : Int) (u : Tok) (c0 : (decide (x < -(2 ^ 63)) || decide (x ≥ 2 ^ 63)) = false) (c1 : (items.isEmpty || x == 1) = true) :
    Meets (Builtin.«tuple.__mul__» ⟨[.ref l, .int x u], []⟩) (fun _ R s => s.heap.get? l = some { cls := .type "tuple", dict := dd, data := .seq items n, slots := sl } ∧ R (.ok (.ret (Value.ref l))) s) :=
  .of_wp fun prog w A R s h => by
    obtain ⟨hp, g, d, tk, os⟩ := s
    obtain ⟨hl, h⟩ := h
    have f1 := AutoSeq1.idx_int
    wp_walk using wpAny_loadPart' hl
    repeat (first
      | (refine wpAny_ite_false (decide_eq_false (by rw [c0]; exact Bool.false_ne_true)) ?_; wp_walk using wpAny_loadPart' hl)
      | (refine wpAny_ite_true (decide_eq_true c1) ?_; wp_walk using wpAny_loadPart' hl))
    exact ⟨_, rfl, h⟩
theorem tuple_mul0 (l : Addr) (items : Array Value) (n : Nat) (dd : Option Addr) (sl : Array (Option Value)) (x : Int) (u : Tok) (c0 : (decide (x < -(2 ^ 63)) || decide (x ≥ 2 ^ 63)) = false) (c1 : (items.isEmpty || x == 1) = false) (c2 : (decide (x ≤ 0) || items.isEmpty) = true) :
    Meets (Builtin.«tuple.__mul__» ⟨[.ref l, .int x u], []⟩) (fun _ R s => s.heap.get? l = some { cls := .type "tuple", dict := dd, data := .seq items n, slots := sl } ∧
      R (.ok (.ret (Value.ref s.heap.objs.size))) { s with heap := s.heap.push { cls := Value.type "tuple", data := Data.seq #[] }, toks := s.toks }) :=
  .of_wp fun prog w A R s h => by
    obtain ⟨hp, g, d, tk, os⟩ := s
    obtain ⟨hl, h⟩ := h
    have f1 := AutoSeq1.idx_int
    wp_walk using wpAny_loadPart' hl
    repeat (first
      | (refine wpAny_ite_false (decide_eq_false (by rw [c0]; exact Bool.false_ne_true)) ?_; wp_walk using wpAny_loadPart' hl)
      | (refine wpAny_ite_false (decide_eq_false (by rw [c1]; exact Bool.false_ne_true)) ?_; wp_walk using wpAny_loadPart' hl)
      | (refine wpAny_ite_true (decide_eq_true c2) ?_; wp_walk using wpAny_loadPart' hl))
    exact ⟨_, rfl, h⟩
def rRepTA (K : PySem.W.Frag) : R2 := fun x y H Q => ∃ l k xs, x = .ref l ∧ y = .int k ∧ SqT K H l xs ∧ -1000000 ≤ k ∧ k ≤ 1000 ∧ xs.length ≤ 1000 ∧ (k = 1 ∨ xs = [] → Q (.ref l) H) ∧
  (k ≤ 0 → xs ≠ [] → ∀ p, H p = none → Q (.ref p) (upd H p (.tup []))) ∧ (2 ≤ k → xs ≠ [] → ∀ p, H p = none → Q (.ref p) (upd H p (.tup (List.replicate k.toNat xs).flatten)))
theorem op_repTA : OpR X (binaryOp .Mult) (rRepTA X.K) := by
  intro pins s σ H x y v u Q I rx ry h
  obtain ⟨l, k, xs, rfl, rfl, hT, h1, h2, hz, q1, q2, q3⟩ := h
  by_cases hk : 2 ≤ k ∧ xs ≠ []
  · exact op_repT pins s σ H _ _ v u Q I rx ry ⟨l, k, xs, rfl, rfl, hT, hk.2, hk.1, h2, hz, q3 hk.1 hk.2⟩
  cases rx
  obtain ⟨t, rfl⟩ := ry
  obtain ⟨its, r, ⟨⟨cls, dd, data, sl⟩, ho, hc, n, hd⟩, hs⟩ := I.tuple hT
  simp only at hc hd
  subst hc hd
  have hle : its.length = xs.length := r.length.symm
  have c0 : (decide (k < -(2 ^ 63)) || decide (k ≥ 2 ^ 63)) = false := by
    rw [decide_eq_false (by omega), decide_eq_false (by omega)] <;> rfl
  by_cases h1' : k = 1 ∨ xs = []
  · have c1 : (its.toArray.isEmpty || k == 1) = true := by
      rcases h1' with e | e
      · rw [e]; simp
      · rw [e] at hle
        rw [List.eq_nil_of_length_eq_zero hle] <;> rfl
    refine wpAny_binaryOp_repeat_ref (T := "tuple") (U := "int") (by decide) ⟨_, ho, rfl⟩ (fun s' => typeIs_int s' k t) noFill_tuple_mul F.fills_int_mul F.slot_int_rmul repeat_tuple F.slot_int_index.lookup
      (call_meets F.slot_int_rmul (typeIs_int s k t) F.entry_int_rmul (F.args_int_rmul_2 _ _) (int_rmul_tuple k t l its.toArray n dd sl)
        ⟨ho, rfl, ⟨_, ho, rfl⟩, call_meets F.slot_tuple_mul ⟨_, ho, rfl⟩ F.entry_tuple_mul (F.args_tuple_mul_2 _ _) (tuple_mul1 l its.toArray n dd sl k t c0 c1) ⟨ho, ?_⟩⟩)
    exact ⟨.ref l, H, I, rfl, q1 h1'⟩
  · have hne : xs ≠ [] := fun e => h1' (.inr e)
    have hk0 : k ≤ 0 := by
      by_cases z : 2 ≤ k
      · exact absurd ⟨z, hne⟩ hk
      · have : k ≠ 1 := fun e => h1' (.inl e)
        omega
    have c1 : (its.toArray.isEmpty || k == 1) = false := by
      cases its with
      | nil => exact absurd (List.eq_nil_of_length_eq_zero hle.symm) hne
      | cons a b =>
        show (false || k == 1) = false
        rw [Bool.false_or]
        exact beq_eq_false_iff_ne.mpr (by omega)
    have c2 : (decide (k ≤ 0) || its.toArray.isEmpty) = true := by
      rw [decide_eq_true hk0] <;> rfl
    refine wpAny_binaryOp_repeat_ref (T := "tuple") (U := "int") (by decide) ⟨_, ho, rfl⟩ (fun s' => typeIs_int s' k t) noFill_tuple_mul F.fills_int_mul F.slot_int_rmul repeat_tuple F.slot_int_index.lookup
      (call_meets F.slot_int_rmul (typeIs_int s k t) F.entry_int_rmul (F.args_int_rmul_2 _ _) (int_rmul_tuple k t l its.toArray n dd sl)
        ⟨ho, rfl, ⟨_, ho, rfl⟩, call_meets F.slot_tuple_mul ⟨_, ho, rfl⟩ F.entry_tuple_mul (F.args_tuple_mul_2 _ _) (tuple_mul0 l its.toArray n dd sl k t c0 c1 c2) ⟨ho, ?_⟩⟩)
    refine ⟨.ref s.heap.objs.size, _, I.laid (t' := s.toks) (o := .tup []) (fun b ob q => Heap.get?_push_of_some _ q) (Nat.le_refl _) ?_, rfl, q2 hk0 hne _ (I.hok.fresh (Nat.le_refl _))⟩
    exact ⟨Nat.zero_le _, [], .nil, IsTup.new _ _⟩
end
end Rp
/-! # sum, max, min of a tuple of whole numbers -/
namespace Rp
open PySem PySem.Spec PyProof.Rows L2
section
variable {prog : Program} {w : World} {A : Around} {E : Value → Shared → Prop} {s : Shared} {l : Addr} {its : List Value} {ns : List Int} {Q : Value → Shared → Prop}
theorem sum_tup (hh : A.handled = none) (hl : s.heap.IsTuple l its.toArray) (hi : IntsAre its ns)
    (h : ∀ h' tk t', (∀ b o, s.heap.get? b = some o → h'.get? b = some o) → Q (.int ns.sum t') { s with heap := h', toks := tk }) : wpAny (model prog w) A (call (.builtin "sum") [.ref l]) Q E s := by
  obtain ⟨xs, e⟩ := hi.allInts.items
  have hn : numsOf (intItems xs).toList = ns := by rw [← e]; exact hi.numsOf
  rw [nums_intItems] at hn
  rw [e] at hl
  refine PySem.W.ktm_sumG hh hl fun h' tk t' hk => ?_
  have := h h' tk t' hk
  rw [preSum_eq, List.take_of_length_le (by simp), hn]; exact this
theorem max_tup (hh : A.handled = none) (hl : s.heap.IsTuple l its.toArray) (hi : IntsAre its ns) (hne : 0 < ns.length)
    (h : ∀ h' tk M t', (∀ b o, s.heap.get? b = some o → h'.get? b = some o) → M ∈ ns → (∀ a, a ∈ ns → a ≤ M) → Q (.int M t') { s with heap := h', toks := tk }) : wpAny (model prog w) A (call (.builtin "max") [.ref l]) Q E s := by
  obtain ⟨xs, e⟩ := hi.allInts.items
  have hn : numsOf (intItems xs).toList = ns := by rw [← e]; exact hi.numsOf
  rw [nums_intItems] at hn
  subst hn
  rw [e] at hl
  have hsz : 0 < xs.size := by simpa using hne
  obtain ⟨o, ho, hc, n, hd⟩ := id hl
  have hne : l ≠ s.heap.objs.size := Nat.ne_of_lt (Heap.lt_size ho)
  refine call_max_walk (wpAny_pyIter_tuple hl ?_)
  refine ⟨_, _, _, _, _, _, _, rfl, Walks.tuple (A := A.in1) hh s.heap.objs.size l hne (intItems xs), ⟨⟨_, Heap.get?_push_size _ rfl, rfl, rfl⟩, hl.at fun o e => Heap.get?_push_of_some _ e⟩, fun b hb => ?_, by simpa [intItems] using hsz, CmpOf.ints_gt (numAt xs) (fun _ _ => intItems_at), fun v h' tk hv hk => ?_⟩
  · rcases List.mem_cons.mp hb with rfl | hb
    · exact Heap.lt_size (Heap.get?_push_size _ rfl)
    · obtain rfl := List.mem_singleton.mp hb
      exact Heap.lt_size (Heap.get?_push_of_some _ ho)
  · have hv : (intItems xs)[argBest (fun i j => decide (numAt xs i > numAt xs j)) (xs.size - 1)]? = some v := by simpa [intItems] using hv
    obtain ⟨t, rfl⟩ := intItems_at hv
    obtain ⟨h1, h2⟩ := argBest_gt (numAt xs) (xs.size - 1)
    refine h h' tk _ t (fun b o e => hk b o (fun hb => absurd (Heap.lt_size e) ((List.mem_singleton.mp hb) ▸ Nat.lt_irrefl _)) (Heap.get?_push_of_some _ e)) ?_ fun a ha => ?_
    · rw [numAt_eq]; exact PySem.getD_mem (by rw [List.length_map, Array.length_toList]; omega)
    · obtain ⟨j, hj, rfl⟩ := mem_getD ha
      rw [List.length_map, Array.length_toList] at hj
      rw [← numAt_eq]; exact h2 j (by omega)
theorem min_tup (hh : A.handled = none) (hl : s.heap.IsTuple l its.toArray) (hi : IntsAre its ns) (hne : 0 < ns.length)
    (h : ∀ h' tk M t', (∀ b o, s.heap.get? b = some o → h'.get? b = some o) → M ∈ ns → (∀ a, a ∈ ns → M ≤ a) → Q (.int M t') { s with heap := h', toks := tk }) : wpAny (model prog w) A (call (.builtin "min") [.ref l]) Q E s := by
  obtain ⟨xs, e⟩ := hi.allInts.items
  have hn : numsOf (intItems xs).toList = ns := by rw [← e]; exact hi.numsOf
  rw [nums_intItems] at hn
  subst hn
  rw [e] at hl
  have hsz : 0 < xs.size := by simpa using hne
  obtain ⟨o, ho, hc, n, hd⟩ := id hl
  have hne : l ≠ s.heap.objs.size := Nat.ne_of_lt (Heap.lt_size ho)
  refine call_min_walk (wpAny_pyIter_tuple hl ?_)
  refine ⟨_, _, _, _, _, _, _, rfl, Walks.tuple (A := A.in1) hh s.heap.objs.size l hne (intItems xs), ⟨⟨_, Heap.get?_push_size _ rfl, rfl, rfl⟩, hl.at fun o e => Heap.get?_push_of_some _ e⟩, fun b hb => ?_, by simpa [intItems] using hsz, CmpOf.ints_lt (numAt xs) (fun _ _ => intItems_at), fun v h' tk hv hk => ?_⟩
  · rcases List.mem_cons.mp hb with rfl | hb
    · exact Heap.lt_size (Heap.get?_push_size _ rfl)
    · obtain rfl := List.mem_singleton.mp hb
      exact Heap.lt_size (Heap.get?_push_of_some _ ho)
  · have hv : (intItems xs)[argBest (fun i j => decide (numAt xs i < numAt xs j)) (xs.size - 1)]? = some v := by simpa [intItems] using hv
    obtain ⟨t, rfl⟩ := intItems_at hv
    obtain ⟨h1, h2⟩ := argBest_lt (numAt xs) (xs.size - 1)
    refine h h' tk _ t (fun b o e => hk b o (fun hb => absurd (Heap.lt_size e) ((List.mem_singleton.mp hb) ▸ Nat.lt_irrefl _)) (Heap.get?_push_of_some _ e)) ?_ fun a ha => ?_
    · rw [numAt_eq]; exact PySem.getD_mem (by rw [List.length_map, Array.length_toList]; omega)
    · obtain ⟨j, hj, rfl⟩ := mem_getD ha
      rw [List.length_map, Array.length_toList] at hj
      rw [← numAt_eq]; exact h2 j (by omega)
end
section
variable {X : Cx}
theorem isTuple_of {h : Heap} {a : Addr} {its : Array Value} (p : IsTup h a its) : h.IsTuple a its := p
theorem cr_sumA (hc : X.calm = true) : CallR X (.builtin "sum") (fun vs H Q => ∃ (a : Addr) (ns : List Int), vs = [V.ref a] ∧ (SqL X.K H a (ns.map V.int) ∨ SqT X.K H a (ns.map V.int)) ∧ Q (.int ns.sum) H) := by
  intro pins s σ H vs us Q I r h
  obtain ⟨a, ns, rfl, hs | hs, q⟩ := h
  · exact cr_sum hc pins s σ H _ us Q I r ⟨a, ns, rfl, hs, q⟩
  · obtain ⟨its, rv, hl, _⟩ := I.tuple hs
    rw [Vals.ref1 r]
    exact sum_tup (I.ok.hd hc) (isTuple_of hl) rv.ints fun h' tk t' hk => ⟨.int _, H, I.kept hk, ⟨_, rfl⟩, q⟩
theorem cr_maxA (hc : X.calm = true) : CallR X (.builtin "max") (fun vs H Q => ∃ (a : Addr) (ns : List Int), vs = [V.ref a] ∧ (SqL X.K H a (ns.map V.int) ∨ SqT X.K H a (ns.map V.int)) ∧ 0 < ns.length ∧ ∀ m, m ∈ ns → (∀ y, y ∈ ns → y ≤ m) → Q (.int m) H) := by
  intro pins s σ H vs us Q I r h
  obtain ⟨a, ns, rfl, hs | hs, hne, q⟩ := h
  · exact cr_max hc pins s σ H _ us Q I r ⟨a, ns, rfl, hs, hne, q⟩
  · obtain ⟨its, rv, hl, _⟩ := I.tuple hs
    rw [Vals.ref1 r]
    exact max_tup (I.ok.hd hc) (isTuple_of hl) rv.ints hne fun h' tk m t' hk h1 h2 => ⟨.int _, H, I.kept hk, ⟨_, rfl⟩, q m h1 h2⟩
theorem cr_minA (hc : X.calm = true) : CallR X (.builtin "min") (fun vs H Q => ∃ (a : Addr) (ns : List Int), vs = [V.ref a] ∧ (SqL X.K H a (ns.map V.int) ∨ SqT X.K H a (ns.map V.int)) ∧ 0 < ns.length ∧ ∀ m, m ∈ ns → (∀ y, y ∈ ns → m ≤ y) → Q (.int m) H) := by
  intro pins s σ H vs us Q I r h
  obtain ⟨a, ns, rfl, hs | hs, hne, q⟩ := h
  · exact cr_min hc pins s σ H _ us Q I r ⟨a, ns, rfl, hs, hne, q⟩
  · obtain ⟨its, rv, hl, _⟩ := I.tuple hs
    rw [Vals.ref1 r]
    exact min_tup (I.ok.hd hc) (isTuple_of hl) rv.ints hne fun h' tk m t' hk h1 h2 => ⟨.int _, H, I.kept hk, ⟨_, rfl⟩, q m h1 h2⟩
end
end Rp
/-! # The operations on values, over the store -/
namespace Rp
open PySem PySem.Spec PyProof.Rows L2
section
variable {X : Cx} {D : Ad}

theorem lim_eq : (sizeLine : Nat) = lim := sizeLine_eq

/-- where no product is too large -/
theorem mul_fits {a b : Int} (h : mulOk a b) : IntMulOk a b := by
  rcases h with h | h | h
  · exact (CMul.ok (.inl h))
  · exact (CMul.ok (.inr h))
  · have b1 : ∀ x : Int, Builtin.Int.intBits x ≤ x.natAbs.log2 + 1 := fun x => by
      unfold Builtin.Int.intBits
      split <;> omega
    have h1 := b1 a
    have h2 := b1 b
    have e : bitsLine = 134217728 := by decide
    unfold IntMulOk
    intro z
    have z2 := (Bool.and_eq_true_iff.mp z).2
    unfold Builtin.Int.intTooBig at z2
    have z3 := of_decide_eq_true z2
    rw [e] at z3
    omega

theorem rv_int {ι : List Addr} {H : Hp} {i : Int} {x : V} (r : RV D ι H (.int i) x) : x = .int i := r
theorem rv_bl {ι : List Addr} {H : Hp} {i : Bool} {x : V} (r : RV D ι H (.bl i) x) : x = .bl i := r
theorem rv_str {ι : List Addr} {H : Hp} {i : Str} {x : V} (r : RV D ι H (.str i) x) : x = .str i := r
theorem rv_non {ι : List Addr} {H : Hp} {x : V} (r : RV D ι H .non x) : x = .non := r
theorem rv_tup {ι : List Addr} {H : Hp} {xs : List PV} {x : V} (r : RV D ι H (.tup xs) x) : ∃ a vs, x = .ref a ∧ SqT D.K H a vs ∧ RVs D ι H xs vs := r
theorem rv_scr {ι : List Addr} {H : Hp} {xs : List PV} {x : V} (r : RV D ι H (.scr xs) x) : ∃ a vs, x = .ref a ∧ SqF D.K H a vs ∧ RVs D ι H xs vs := r
theorem rv_ref {ι : List Addr} {H : Hp} {i : Nat} {x : V} (r : RV D ι H (.ref i) x) : ∃ a, ι[i]? = some a ∧ x = .ref a := r
theorem rv_ls {ι : List Addr} {H : Hp} {xs : List PV} {x : V} (r : RV D ι H (.ls xs) x) : ∃ a vs, x = .ref a ∧ (∃ o, H a = some (.frz o (.lst vs))) ∧ RVs D ι H xs vs := r
theorem rv_obj {ι : List Addr} {H : Hp} {c : Nat} {ks : List Nat} {xs : List PV} {x : V} (r : RV D ι H (.obj c ks xs) x) : ∃ a dx fs', x = .ref a ∧ a ∉ ι ∧ H a = some (.ins (D.ca c) dx fs') ∧ fs'.map (·.1) = ks.map dN ∧ RVs D ι H xs (fs'.map (·.2)) := r
/-- behind a new list, locked -/
theorem ep_lock {pins : List (Addr × Obj)} {σ : L2.St} {Q : VK} {u : Value} {s : Shared} (h : EP X pins σ (lockK Q) u s) : EP X pins σ Q u s := by
  obtain ⟨x, H1, I1, r1, a, w, rfl, hu, mu, q⟩ := h
  obtain ⟨od, I2⟩ := I1.lock hu mu
  exact ⟨_, _, I2, r1, q od⟩
theorem any_lock {A : Around} {m : Sem Value} {pins : List (Addr × Obj)} {σ : L2.St} {Q : VK} {E : Value → Shared → Prop} {s : Shared} (h : wpAny (model X.prog X.w) A m (EP X pins σ (lockK Q)) E s) : wpAny (model X.prog X.w) A m (EP X pins σ Q) E s :=
  wpAny_mono h (fun _ _ z => ep_lock z) fun _ _ z => z
theorem RVs.isNil {ι : List Addr} {H : Hp} {xs : List PV} {vs : List V} (h : RVs D ι H xs vs) : vs = [] ↔ xs = [] := by
  have := h.len
  constructor
  · rintro rfl
    exact List.eq_nil_of_length_eq_zero this.symm
  · rintro rfl
    exact List.eq_nil_of_length_eq_zero this

theorem op_binG (hK : X.K = D.K) {op : Operator} : OpR X (binaryOp op) (rdV2 D (wpBin op)) := by
  intro pins s σ H x y v u Q I rx ry h
  obtain ⟨ι, S, a, b, Qa, L, ra, rb, hw, c⟩ := h
  cases op with
  | Add =>
    have lists : (onS (lsOf S a) fun xs => onS (lsOf S b) fun ys => onT (decide (xs.length + ys.length ≤ lim)) (Qa (.ls (xs ++ ys)) S)) → wpAny (model X.prog X.w) X.A (binaryOp .Add v u) (EP X pins σ Q) X.xe s := fun hw => by
      obtain ⟨xs, e1, hw⟩ := onS_ex hw
      obtain ⟨ys, e2, hw⟩ := onS_ex hw
      obtain ⟨hz, hw⟩ := onT_ex hw
      have hz := of_decide_eq_true hz
      obtain ⟨a1, vs, rfl, h1, t1⟩ := ls_at L e1 ra
      obtain ⟨b1, ws, rfl, h2, t2⟩ := ls_at L e2 rb
      exact any_lock (op_catR pins s σ H _ _ v u _ I rx ry ⟨a1, b1, vs, ws, rfl, rfl, h1, h2, by rw [lim_eq, t1.len, t2.len]; exact hz, fun p hp => c.frz L hp (t1.app t2) hw⟩)
    cases a with
    | int i =>
      cases b with
      | int j =>
        have hw : Qa (.int (i + j)) S := hw
        cases rv_int ra; cases rv_int rb
        exact op_add pins s σ H _ _ v u Q I rx ry ⟨i, j, rfl, rfl, c.here L (show RV D ι H (.int (i + j)) (.int (i + j)) from rfl) hw⟩
      | _ => exact (show False from hw).elim
    | str i =>
      cases b with
      | str j =>
        obtain ⟨hz, hw⟩ := onT_ex (show onT (decide (i.length + j.length ≤ lim)) (Qa (.str (i ++ j)) S) from hw)
        have hz := of_decide_eq_true hz
        cases rv_str ra; cases rv_str rb
        exact op_add_str pins s σ H _ _ v u Q I rx ry ⟨i, j, rfl, rfl, by rw [lim_eq]; exact hz, c.here L (show RV D ι H (.str (i ++ j)) (.str (i ++ j)) from rfl) hw⟩
      | _ => exact (show False from hw).elim
    | tup xs =>
      cases b with
      | tup ys =>
        obtain ⟨hz, hw⟩ := onT_ex (show onT (decide (xs.length + ys.length ≤ lim)) (Qa (.tup (xs ++ ys)) S) from hw)
        have hz := of_decide_eq_true hz
        obtain ⟨a1, vs, rfl, h1, t1⟩ := rv_tup ra
        obtain ⟨b1, ws, rfl, h2, t2⟩ := rv_tup rb
        refine op_catA pins s σ H _ _ v u Q I rx ry ⟨a1, b1, vs, ws, rfl, rfl, by rw [hK]; exact h1, by rw [hK]; exact h2, by rw [lim_eq, t1.len, t2.len]; exact hz, fun e => ?_, fun e e' => ?_, fun e e' p hp => ?_⟩
        · have ex := t1.isNil.mp e
          subst ex
          exact c.here L (v := .tup ys) rb (by simpa using hw)
        · have ex := t2.isNil.mp e'
          subst ex
          exact c.here L (v := .tup xs) ra (by simpa using hw)
        · exact c.tup L hp (t1.app t2) hw
      | _ => exact (show False from hw).elim
    | ref i => exact lists hw
    | ls i => exact lists hw
    | _ => exact (show False from hw).elim
  | Sub =>
    cases a with
    | int i =>
      cases b with
      | int j =>
        have hw : Qa (.int (i - j)) S := hw
        cases rv_int ra; cases rv_int rb
        exact op_sub pins s σ H _ _ v u Q I rx ry ⟨i, j, rfl, rfl, c.here L (show RV D ι H (.int (i - j)) (.int (i - j)) from rfl) hw⟩
      | _ => exact (show False from hw).elim
    | _ => exact (show False from hw).elim
  | Mult =>
    have reps : ∀ n, b = .int n → (onS (lsOf S a) fun xs => onT (decide (-1000000 ≤ n ∧ n ≤ 1000000 ∧ xs.length * n.toNat ≤ lim)) (Qa (.ls (List.replicate n.toNat xs).flatten) S)) → wpAny (model X.prog X.w) X.A (binaryOp .Mult v u) (EP X pins σ Q) X.xe s := fun n eb hm => by
      subst eb
      obtain ⟨xs, e1, hm⟩ := onS_ex hm
      obtain ⟨hz, hm⟩ := onT_ex hm
      obtain ⟨h1, h2, hz⟩ := of_decide_eq_true hz
      cases rv_int rb
      obtain ⟨a1, vs, rfl, q1, t1⟩ := ls_at L e1 ra
      exact any_lock (op_repR pins s σ H _ _ v u _ I rx ry ⟨a1, n, vs, rfl, rfl, q1, by omega, by omega, by rw [lim_eq, t1.len]; exact hz, fun p hp => c.frz L hp (t1.rep n.toNat) hm⟩)
    cases a with
    | int i =>
      cases b with
      | int j =>
        obtain ⟨hz, hw⟩ := onT_ex (show onT (decide (mulOk i j)) (Qa (.int (i * j)) S) from hw)
        have hz := of_decide_eq_true hz
        cases rv_int ra; cases rv_int rb
        obtain ⟨t, rfl⟩ := rx
        obtain ⟨t', rfl⟩ := ry
        exact mul_int ⟨.int (i * j), H, I.tok _, ⟨_, rfl⟩, c.here L (show RV D ι H (.int (i * j)) (.int (i * j)) from rfl) hw⟩ (mul_fits hz)
      | _ => exact (show False from hw).elim
    | tup xs =>
      cases b with
      | int n =>
        obtain ⟨hz, hw⟩ := onT_ex (show onT (decide (-1000000 ≤ n ∧ n ≤ 1000 ∧ xs.length ≤ 1000)) (Qa (.tup (List.replicate n.toNat xs).flatten) S) from hw)
        obtain ⟨h1, h2, h3⟩ := of_decide_eq_true hz
        cases rv_int rb
        obtain ⟨a1, vs, rfl, q1, t1⟩ := rv_tup ra
        refine op_repTA pins s σ H _ _ v u Q I rx ry ⟨a1, n, vs, rfl, rfl, by rw [hK]; exact q1, h1, h2, by rw [t1.len]; exact h3, fun z => ?_, fun z1 z2 p hp => c.tup L hp .nil ?_, fun z1 z2 p hp => c.tup L hp (t1.rep n.toNat) hw⟩
        · have ew : (List.replicate n.toNat xs).flatten = xs := by
            rcases z with z | z
            · subst z
              simp
            · have := t1.isNil.mp z
              subst this
              simp
          rw [ew] at hw
          exact c.here L ra hw
        · have ew : (List.replicate n.toNat xs).flatten = [] := by
            have : n.toNat = 0 := by omega
            rw [this]
            simp
          rw [ew] at hw
          exact hw
      | _ => exact (show False from hw).elim
    | _ =>
      cases b with
      | int n =>
        exact reps n rfl hw
      | _ => exact (show False from hw).elim
  | FloorDiv =>
    cases a with
    | int i =>
      cases b with
      | int j =>
        obtain ⟨hz, hw⟩ := onT_ex (show onT (decide (divOk j)) (Qa (.int (i / j)) S) from hw)
        have hz := of_decide_eq_true hz
        cases rv_int ra; cases rv_int rb
        exact op_fdiv pins s σ H _ _ v u Q I rx ry ⟨i, j, rfl, rfl, hz, c.here L (show RV D ι H (.int (i / j)) (.int (i / j)) from rfl) hw⟩
      | _ => exact (show False from hw).elim
    | _ => exact (show False from hw).elim
  | Mod =>
    cases a with
    | int i =>
      cases b with
      | int j =>
        obtain ⟨hz, hw⟩ := onT_ex (show onT (decide (0 < j)) (Qa (.int (i % j)) S) from hw)
        have hz := of_decide_eq_true hz
        cases rv_int ra; cases rv_int rb
        exact op_mod pins s σ H _ _ v u Q I rx ry ⟨i, j, rfl, rfl, hz, c.here L (show RV D ι H (.int (i % j)) (.int (i % j)) from rfl) hw⟩
      | _ => exact (show False from hw).elim
    | _ => exact (show False from hw).elim
  | Pow =>
    cases a with
    | int i =>
      cases b with
      | int j =>
        obtain ⟨hz, hw⟩ := onT_ex (show onT (decide (0 ≤ j ∧ j ≤ 1000000 ∧ fit i)) (Qa (.int (i ^ j.toNat)) S) from hw)
        obtain ⟨h0, h1, h2, h3⟩ := of_decide_eq_true hz
        cases rv_int ra; cases rv_int rb
        exact op_pow pins s σ H _ _ v u Q I rx ry ⟨i, j, rfl, rfl, ⟨h0, h1, by omega⟩, c.here L (show RV D ι H (.int (i ^ j.toNat)) (.int (i ^ j.toNat)) from rfl) hw⟩
      | _ => exact (show False from hw).elim
    | _ => exact (show False from hw).elim
  | _ => exact (show False from hw).elim

/-! ### plain data -/
mutual
theorem dat_dp {ι : List Addr} {H : Hp} {S : Store} (L : Ly D ι H S) : ∀ {v : PV} {d : PyData} {x : V}, d.canLay0 = true → Dat S v d → RV D ι H v x → Dp D.K H x d
  | _, _, _, _, .non, r => by cases rv_non r; exact .non
  | _, _, _, _, .bl b, r => by cases rv_bl r; exact .bl b
  | _, _, _, _, .int i, r => by cases rv_int r; exact .int i
  | _, _, _, _, .str z, r => by cases rv_str r; exact .str z
  | _, _, _, c, .tup h, r => by
    obtain ⟨a, vs, rfl, q, t⟩ := rv_tup r
    exact .tup q (dats_dp L c h t)
  | _, _, _, c, .scr h, r => by
    obtain ⟨a, vs, rfl, q, t⟩ := rv_scr r
    exact .lst q.list (dats_dp L c h t)
  | _, _, _, c, .ls h, r => by
    obtain ⟨a, vs, rfl, ⟨o, q⟩, t⟩ := rv_ls r
    exact .lst (.inl (.inr ⟨o, q⟩)) (dats_dp L c h t)
  | _, _, _, c, .lst e h, r => by
    obtain ⟨a, hi, rfl⟩ := rv_ref r
    obtain ⟨a', vs, hi', q, t⟩ := L.lst e
    rw [hi] at hi'; cases hi'
    exact .lst (SqL.of q) (dats_dp L c h t)
  | _, _, _, c, .dct _, _ => by cases (show false = true from c)
theorem dats_dp {ι : List Addr} {H : Hp} {S : Store} (L : Ly D ι H S) : ∀ {vs : List PV} {ds : List PyData} {xs : List V}, PyData.canLayAll0 ds = true → Dats S vs ds → RVs D ι H vs xs → DpAll D.K H xs ds
  | _, _, _, _, .nil, r => by rw [show _ = [] from r]; exact .nil
  | _, d :: ds, _, c, .cons h t, r => by
    obtain ⟨v, r', rfl, a, b⟩ := r
    have c : (d.canLay0 && PyData.canLayAll0 ds) = true := c
    rw [Bool.and_eq_true] at c
    exact .cons (dat_dp L c.1 h a) (dats_dp L c.2 t b)
end
theorem can_of {d : PyData} (h : SeqAt.shaped d = true) : d.canLay0 = true := by
  unfold SeqAt.shaped at h
  simp only [Bool.and_eq_true] at h
  exact h.1

/-- a comparison's wish, as a value's -/
def cmpV (op : CmpOp) : PV → PV → Store → QV → Prop := fun x y S Q => wpCmp op x y S fun k => Q (.bl k) S

theorem eq_dat (hK : X.K = D.K) (hu : X.A.units + 64 < cLine) {ι : List Addr} {H : Hp} {S : Store} {a b : PV} {x y : V} {Q : VK} {R : Bool → Prop} (L : Ly D ι H S) (ra : RV D ι H a x) (rb : RV D ι H b y)
    (h : ∃ d e, Dat S a d ∧ Dat S b e ∧ SeqAt.shaped d = true ∧ SeqAt.shaped e = true ∧ R (PyData.eqv d e)) (hq : ∀ k, R k → Q (.bl k) H) : rEqD X.K x y H Q := by
  obtain ⟨d, e, h1, h2, s1, s2, q⟩ := h
  exact ⟨d, e, by rw [hK]; exact dat_dp L (can_of s1) h1 ra, by rw [hK]; exact dat_dp L (can_of s2) h2 rb, s1, s2, hq _ q⟩
theorem ne_dat (hK : X.K = D.K) (hu : X.A.units + 64 < cLine) {ι : List Addr} {H : Hp} {S : Store} {a b : PV} {x y : V} {Q : VK} {R : Bool → Prop} (L : Ly D ι H S) (ra : RV D ι H a x) (rb : RV D ι H b y)
    (h : ∃ d e, Dat S a d ∧ Dat S b e ∧ SeqAt.shaped d = true ∧ SeqAt.shaped e = true ∧ R (PyData.eqv d e)) (hq : ∀ k, R k → Q (.bl (!k)) H) : rNeD X.K x y H Q := by
  obtain ⟨d, e, h1, h2, s1, s2, q⟩ := h
  exact ⟨d, e, by rw [hK]; exact dat_dp L (can_of s1) h1 ra, by rw [hK]; exact dat_dp L (can_of s2) h2 rb, s1, s2, hq _ q⟩
/-- two values of one scalar kind, or two that are looked at as data -/
theorem eq_data {S : Store} {a b : PV} {R : Bool → Prop} (h : onS (datS S a) fun d => onS (datS S b) fun e => onT (SeqAt.shaped d) (onT (SeqAt.shaped e) (R (PyData.eqv d e)))) :
    ∃ d e, Dat S a d ∧ Dat S b e ∧ SeqAt.shaped d = true ∧ SeqAt.shaped e = true ∧ R (PyData.eqv d e) := by
  obtain ⟨d, h1, h⟩ := onS_ex h
  obtain ⟨e, h2, h⟩ := onS_ex h
  obtain ⟨h3, h⟩ := onT_ex h
  obtain ⟨h4, h⟩ := onT_ex h
  exact ⟨d, e, datS_of h1, datS_of h2, h3, h4, h⟩
theorem eq_cases {S : Store} {a b : PV} {R : Bool → Prop} (h : wpEq a b S R) : (∃ i j, a = .int i ∧ b = .int j ∧ R (decide (i = j))) ∨ (∃ i j, a = .bl i ∧ b = .bl j ∧ R (decide (i = j))) ∨ (∃ i j, a = .str i ∧ b = .str j ∧ R (decide (i = j))) ∨
    ∃ d e, Dat S a d ∧ Dat S b e ∧ SeqAt.shaped d = true ∧ SeqAt.shaped e = true ∧ R (PyData.eqv d e) := by
  cases a with
  | int i =>
    cases b with
    | int j => exact .inl ⟨i, j, rfl, rfl, h⟩
    | _ => exact .inr (.inr (.inr (eq_data h)))
  | bl i =>
    cases b with
    | bl j => exact .inr (.inl ⟨i, j, rfl, rfl, h⟩)
    | _ => exact .inr (.inr (.inr (eq_data h)))
  | str i =>
    cases b with
    | str j => exact .inr (.inr (.inl ⟨i, j, rfl, rfl, h⟩))
    | _ => exact .inr (.inr (.inr (eq_data h)))
  | _ => exact .inr (.inr (.inr (eq_data h)))

theorem dec_int' {i j : Int} : decide (V.int i = V.int j) = decide (i = j) := by
  by_cases h : i = j
  · subst h; simp
  · rw [decide_eq_false h, decide_eq_false (fun z => h (V.int.inj z))]
theorem dec_bl' {i j : Bool} : decide (V.bl i = V.bl j) = decide (i = j) := by
  by_cases h : i = j
  · subst h; simp
  · rw [decide_eq_false h, decide_eq_false (fun z => h (V.bl.inj z))]
theorem dec_str' {i j : Str} : decide (V.str i = V.str j) = decide (i = j) := by
  by_cases h : i = j
  · subst h; simp
  · rw [decide_eq_false h, decide_eq_false (fun z => h (V.str.inj z))]

/-- x is None, told at once -/
theorem is_cases {a b : PV} {R : Bool → Prop} (h : wpIs a b R) : (b = .non ∧ ((a = .non ∧ R true) ∨ (a ≠ .non ∧ (∀ n, a ≠ .ty n) ∧ R false))) ∨ (∃ i j, a = .bl i ∧ b = .bl j ∧ R (decide (i = j))) ∨ (∃ j, b = .bl j ∧ (∀ i, a ≠ .bl i) ∧ (∀ n, a ≠ .ty n) ∧ R false) := by
  cases b with
  | non =>
    refine .inl ⟨rfl, ?_⟩
    cases a <;> first
      | exact .inl ⟨rfl, h⟩
      | exact .inr ⟨(by intro z; cases z), (by intro n z; cases z), h⟩
      | exact (show False from h).elim
  | bl j =>
    refine .inr ?_
    cases a <;> first
      | exact .inl ⟨_, _, rfl, rfl, h⟩
      | exact .inr ⟨j, rfl, (by intro n z; cases z), (by intro n z; cases z), h⟩
      | exact (show False from h).elim
  | _ => exact (show False from h).elim

theorem rv_not_non {ι : List Addr} {H : Hp} {a : PV} {x : V} (r : RV D ι H a x) (h : a ≠ .non) (h2 : ∀ n, a ≠ .ty n) : x ≠ .non := by
  cases a with
  | non => exact absurd rfl h
  | bl b => cases rv_bl r; intro z; cases z
  | int b => cases rv_int r; intro z; cases z
  | str b => cases rv_str r; intro z; cases z
  | tup b => obtain ⟨a, vs, rfl, _⟩ := rv_tup r; intro z; cases z
  | scr b => obtain ⟨a, vs, rfl, _⟩ := rv_scr r; intro z; cases z
  | ls b => obtain ⟨a, vs, rfl, _⟩ := rv_ls r; intro z; cases z
  | ref b => obtain ⟨a, _, rfl⟩ := rv_ref r; intro z; cases z
  | obj c ks b => obtain ⟨a, _, _, rfl, _⟩ := rv_obj r; intro z; cases z
  | fn b => have e : x = .ref (D.fa b) := r; subst e; intro z; cases z
  | cls b => have e : x = .ref (D.ca b) := r; subst e; intro z; cases z
  | dct ks b => obtain ⟨a, _, rfl, _⟩ := r; intro z; cases z
  | clo k b => obtain ⟨a, _, _, _, rfl, _⟩ := r; intro z; cases z
  | ty n => exact absurd rfl (h2 n)
/-- no truth -/
theorem rv_not_bl {ι : List Addr} {H : Hp} {a : PV} {x : V} {v : Value} (r : RV D ι H a x) (rx : RelV x v) (h : ∀ i, a ≠ .bl i) (h2 : ∀ n, a ≠ .ty n) : (∀ b, v ≠ Value.bool b) ∧ ∀ b, plainIs v (.bool b) = true := by
  cases a with
  | non => cases rv_non r; cases (show v = Value.none from rx); exact ⟨fun b z => (by cases z), fun _ => rfl⟩
  | bl b => exact absurd rfl (h b)
  | int b => cases rv_int r; obtain ⟨t, rfl⟩ := rx; exact ⟨fun b z => (by cases z), fun _ => rfl⟩
  | str b => cases rv_str r; obtain ⟨t, rfl⟩ := rx; exact ⟨fun b z => (by cases z), fun _ => rfl⟩
  | tup b => obtain ⟨a, vs, rfl, _⟩ := rv_tup r; cases (show v = Value.ref a from rx); exact ⟨fun b z => (by cases z), fun _ => rfl⟩
  | scr b => obtain ⟨a, vs, rfl, _⟩ := rv_scr r; cases (show v = Value.ref a from rx); exact ⟨fun b z => (by cases z), fun _ => rfl⟩
  | ls b => obtain ⟨a, vs, rfl, _⟩ := rv_ls r; cases (show v = Value.ref a from rx); exact ⟨fun b z => (by cases z), fun _ => rfl⟩
  | ref b => obtain ⟨a, _, rfl⟩ := rv_ref r; cases (show v = Value.ref a from rx); exact ⟨fun b z => (by cases z), fun _ => rfl⟩
  | obj c ks b => obtain ⟨a, _, _, rfl, _⟩ := rv_obj r; cases (show v = Value.ref a from rx); exact ⟨fun b z => (by cases z), fun _ => rfl⟩
  | fn b => have e : x = .ref (D.fa b) := r; subst e; cases (show v = Value.ref _ from rx); exact ⟨fun b z => (by cases z), fun _ => rfl⟩
  | cls b => have e : x = .ref (D.ca b) := r; subst e; cases (show v = Value.ref _ from rx); exact ⟨fun b z => (by cases z), fun _ => rfl⟩
  | dct ks b => obtain ⟨a, _, rfl, _⟩ := r; cases (show v = Value.ref a from rx); exact ⟨fun b z => (by cases z), fun _ => rfl⟩
  | clo k b => obtain ⟨a, _, _, _, rfl, _⟩ := r; cases (show v = Value.ref a from rx); exact ⟨fun b z => (by cases z), fun _ => rfl⟩
  | ty n => exact absurd rfl (h2 n)

theorem inV_ints (i : Int) : ∀ ns : List Int, inV (.int i) (ns.map V.int) = decide (i ∈ ns)
  | [] => rfl
  | n :: ns => by
    show (eqV (.int n) (.int i) || inV (.int i) (ns.map V.int)) = _
    rw [inV_ints i ns]
    show ((n == i) || _) = _
    by_cases h : n = i
    · subst h
      simp
    · rw [beq_eq_false_iff_ne.mpr h]
      simp [Ne.symm h]
theorem ints_eq : ∀ {xs : List PV} {ns : List Int}, intsOf xs = some ns → xs = ns.map .int
  | [], ns, h => by cases h; rfl
  | x :: xs, ns, h => by
    cases x with
    | int i =>
      simp only [intsOf, Option.map_eq_some_iff] at h
      obtain ⟨ms, e, rfl⟩ := h
      rw [ints_eq e] <;> rfl
    | _ => cases h
theorem bls_eq : ∀ {xs : List PV} {ns : List Bool}, blsOf xs = some ns → xs = ns.map .bl
  | [], ns, h => by cases h; rfl
  | x :: xs, ns, h => by
    cases x with
    | bl i =>
      simp only [blsOf, Option.map_eq_some_iff] at h
      obtain ⟨ms, e, rfl⟩ := h
      rw [bls_eq e] <;> rfl
    | _ => cases h
theorem lst_dat {S : Store} {v : PV} {xs : List PV} {ds : List PyData} (h : lstOf S v = some xs) (e : PV.dats xs = some ds) : Dat S v (.list ds) := by
  rcases lstOf_cases h with rfl | rfl | ⟨i, rfl, hs⟩
  · exact .scr (dats_of e)
  · exact .ls (dats_of e)
  · exact .lst hs (dats_of e)
theorem in_cases {S : Store} {a b : PV} {R : Bool → Prop} (h : wpIn a b S R) : (∃ i, ∃ ns : List Int, a = .int i ∧ itemsOf S b = some (ns.map .int) ∧ R (decide (i ∈ ns))) ∨
    (∃ d ds, Dat S a d ∧ Dat S b (.list ds) ∧ SeqAt.shaped d = true ∧ SeqAt.shaped (.list ds) = true ∧ R (ds.any fun z => PyData.eqv z d)) ∨
    ∃ ys, b = .tup ys ∧ ys.all flatP = true ∧ (a = .non ∨ ∃ s, a = .str s) ∧ R (ys.any (eqI a)) := by
  have data : wpInD a b S R → ∃ d ds, Dat S a d ∧ Dat S b (.list ds) ∧ SeqAt.shaped d = true ∧ SeqAt.shaped (.list ds) = true ∧ R (ds.any fun z => PyData.eqv z d) := fun h => by
    obtain ⟨d, h1, h⟩ := onS_ex h
    obtain ⟨ys, h2, h⟩ := onS_ex h
    obtain ⟨ds, h3, h⟩ := onS_ex h
    obtain ⟨h4, h⟩ := onT_ex h
    obtain ⟨h5, h⟩ := onT_ex h
    exact ⟨d, ds, datS_of h1, lst_dat h2 h3, h4, h5, h⟩
  cases a with
  | int i =>
    obtain ⟨ys, h1, h⟩ := onS_ex (show onS (itemsOf S b) fun ys => onS (intsOf ys) fun ns => R (decide (i ∈ ns)) from h)
    obtain ⟨ns, h2, h⟩ := onS_ex h
    exact .inl ⟨i, ns, rfl, by rw [h1, ints_eq h2], h⟩
  | non =>
    cases b with
    | tup ys =>
      obtain ⟨h1, h⟩ := onT_ex h
      exact .inr (.inr ⟨ys, rfl, h1, .inl rfl, h⟩)
    | _ => exact .inr (.inl (data h))
  | str s =>
    cases b with
    | tup ys =>
      obtain ⟨h1, h⟩ := onT_ex h
      exact .inr (.inr ⟨ys, rfl, h1, .inr ⟨s, rfl⟩, h⟩)
    | _ => exact .inr (.inl (data h))
  | _ => exact .inr (.inl (data h))
theorem flat_rvs {D : Ad} {ι : List Addr} {H : Hp} : ∀ {ys : List PV} {vs : List V}, RVs D ι H ys vs → ys.all flatP = true → vs.all flatV = true ∧ inV .non vs = ys.any (eqI .non) ∧ ∀ s, inV (.str s) vs = ys.any (eqI (.str s))
  | [], vs, r, _ => by
    rw [show vs = [] from r]
    exact ⟨rfl, rfl, fun _ => rfl⟩
  | y :: ys, vs, r, h => by
    obtain ⟨v, r', rfl, rv, rt⟩ := r
    rw [List.all_cons, Bool.and_eq_true] at h
    obtain ⟨h1, h2, h3⟩ := flat_rvs rt h.2
    have key : flatV v = true ∧ eqV v .non = eqI .non y ∧ ∀ s, eqV v (.str s) = eqI (.str s) y := by
      cases y with
      | non => cases rv_non rv; exact ⟨rfl, rfl, fun _ => rfl⟩
      | bl b => cases rv_bl rv; exact ⟨rfl, rfl, fun _ => rfl⟩
      | int b => cases rv_int rv; exact ⟨rfl, rfl, fun _ => rfl⟩
      | str b => cases rv_str rv; exact ⟨rfl, rfl, fun _ => rfl⟩
      | _ => exact absurd h.1 Bool.false_ne_true
    refine ⟨?_, ?_, fun s => ?_⟩
    · rw [List.all_cons, key.1, h1]; rfl
    · show (eqV v .non || inV .non r') = (eqI .non y || ys.any (eqI .non))
      rw [key.2.1, h2]
    · show (eqV v (.str s) || inV (.str s) r') = (eqI (.str s) y || ys.any (eqI (.str s)))
      rw [key.2.2 s, h3 s]
theorem flat_ints : ∀ ns : List Int, (ns.map V.int).all flatV = true
  | [] => rfl
  | _ :: ns => flat_ints ns
theorem op_cmpG (hK : X.K = D.K) (hu80 : X.A.units + 80 < cLine) {op : CmpOp} : OpR X (compareOp op) (rdV2 D (cmpV op)) := by
  have hu : X.A.units + 64 < cLine := by omega
  intro pins s σ H x y v u Q I rx ry h
  obtain ⟨ι, S, a, b, Qa, L, ra, rb, hw, c⟩ := h
  have fin : ∀ k, Qa (.bl k) S → Q (.bl k) H := fun k q => c.here L (show RV D ι H (.bl k) (.bl k) from rfl) q
  cases op with
  | Eq =>
    rcases eq_cases (show wpEq a b S fun k => Qa (.bl k) S from hw) with ⟨i, j, rfl, rfl, q⟩ | ⟨i, j, rfl, rfl, q⟩ | ⟨i, j, rfl, rfl, q⟩ | q
    · cases rv_int ra; cases rv_int rb
      exact op_eq pins s σ H _ _ v u Q I rx ry ⟨rfl, by rw [dec_int']; exact fin _ q⟩
    · cases rv_bl ra; cases rv_bl rb
      exact op_eq pins s σ H _ _ v u Q I rx ry ⟨rfl, by rw [dec_bl']; exact fin _ q⟩
    · cases rv_str ra; cases rv_str rb
      exact op_eq pins s σ H _ _ v u Q I rx ry ⟨rfl, by rw [dec_str']; exact fin _ q⟩
    · exact op_eqD hu pins s σ H x y v u Q I rx ry (eq_dat hK hu L ra rb q fin)
  | NotEq =>
    rcases eq_cases (show wpEq a b S fun k => Qa (.bl (!k)) S from hw) with ⟨i, j, rfl, rfl, q⟩ | ⟨i, j, rfl, rfl, q⟩ | ⟨i, j, rfl, rfl, q⟩ | q
    · cases rv_int ra; cases rv_int rb
      exact op_ne pins s σ H _ _ v u Q I rx ry ⟨rfl, by rw [dec_int']; exact fin _ q⟩
    · cases rv_bl ra; cases rv_bl rb
      exact op_ne pins s σ H _ _ v u Q I rx ry ⟨rfl, by rw [dec_bl']; exact fin _ q⟩
    · cases rv_str ra; cases rv_str rb
      exact op_ne pins s σ H _ _ v u Q I rx ry ⟨rfl, by rw [dec_str']; exact fin _ q⟩
    · exact op_neD hu pins s σ H x y v u Q I rx ry (ne_dat hK hu L ra rb q fun k z => fin _ z)
  | Lt =>
    cases a with
    | int i =>
      cases b with
      | int j =>
        cases rv_int ra; cases rv_int rb
        exact op_lt pins s σ H _ _ v u Q I rx ry ⟨i, j, rfl, rfl, fin _ hw⟩
      | _ => exact (show False from hw).elim
    | _ => exact (show False from hw).elim
  | LtE =>
    cases a with
    | int i =>
      cases b with
      | int j =>
        cases rv_int ra; cases rv_int rb
        exact op_le pins s σ H _ _ v u Q I rx ry ⟨i, j, rfl, rfl, fin _ hw⟩
      | _ => exact (show False from hw).elim
    | _ => exact (show False from hw).elim
  | Gt =>
    cases a with
    | int i =>
      cases b with
      | int j =>
        cases rv_int ra; cases rv_int rb
        exact op_gt pins s σ H _ _ v u Q I rx ry ⟨i, j, rfl, rfl, fin _ hw⟩
      | _ => exact (show False from hw).elim
    | _ => exact (show False from hw).elim
  | GtE =>
    cases a with
    | int i =>
      cases b with
      | int j =>
        cases rv_int ra; cases rv_int rb
        exact op_ge pins s σ H _ _ v u Q I rx ry ⟨i, j, rfl, rfl, fin _ hw⟩
      | _ => exact (show False from hw).elim
    | _ => exact (show False from hw).elim
  | Is =>
    rcases is_cases (show wpIs a b fun k => Qa (.bl k) S from hw) with ⟨rfl, ⟨rfl, q⟩ | ⟨n1, n2, q⟩⟩ | ⟨i, j, rfl, rfl, q⟩ | ⟨j, rfl, nb, nt, q⟩
    · cases rv_non ra; cases rv_non rb
      exact op_isN pins s σ H _ _ v u Q I rx ry ⟨rfl, fin _ q⟩
    · cases rv_non rb
      exact op_isN pins s σ H _ _ v u Q I rx ry ⟨rfl, by rw [decide_eq_false (rv_not_non ra n1 n2)]; exact fin _ q⟩
    · cases rv_bl ra; cases rv_bl rb
      exact op_isBl pins s σ H _ _ v u Q I rx ry ⟨i, j, rfl, rfl, fin _ q⟩
    · cases rv_bl rb
      cases (show u = Value.bool j from ry)
      exact wpAny_is_other ((rv_not_bl ra rx nb nt).2 j) ((rv_not_bl ra rx nb nt).1 j) ⟨.bl false, H, I, rfl, fin _ q⟩
  | IsNot =>
    rcases is_cases (show wpIs a b fun k => Qa (.bl (!k)) S from hw) with ⟨rfl, ⟨rfl, q⟩ | ⟨n1, n2, q⟩⟩ | ⟨i, j, rfl, rfl, q⟩ | ⟨j, rfl, nb, nt, q⟩
    · cases rv_non ra; cases rv_non rb
      exact op_notN pins s σ H _ _ v u Q I rx ry ⟨rfl, fin _ q⟩
    · cases rv_non rb
      exact op_notN pins s σ H _ _ v u Q I rx ry ⟨rfl, by rw [decide_eq_false (rv_not_non ra n1 n2)]; exact fin _ q⟩
    · cases rv_bl ra; cases rv_bl rb
      exact op_notBl pins s σ H _ _ v u Q I rx ry ⟨i, j, rfl, rfl, fin _ q⟩
    · cases rv_bl rb
      cases (show u = Value.bool j from ry)
      exact wpAny_isNot_other ((rv_not_bl ra rx nb nt).2 j) ((rv_not_bl ra rx nb nt).1 j) ⟨.bl true, H, I, rfl, fin _ q⟩
  | In =>
    rcases in_cases (show wpIn a b S fun k => Qa (.bl k) S from hw) with ⟨i, ns, rfl, e, q⟩ | ⟨d, ds, h1, h2, s1, s2, q⟩ | ⟨ys, rfl, fl, ea, q⟩
    · cases rv_int ra
      obtain ⟨p, vs, rfl, hq, t⟩ := seq_at L e rb
      have ev := t.ints
      subst ev
      refine op_in_seq pins s σ H _ _ v u Q I rx ry ⟨p, ns.map V.int, rfl, by rw [hK]; exact hq, rfl, flat_ints ns, ?_⟩
      show Q (.bl (inV (.int i) (ns.map V.int))) H
      rw [inV_ints]
      exact fin _ q
    · exact op_inD (by omega) pins s σ H _ _ v u Q I rx ry ⟨d, ds, by rw [hK]; exact dat_dp L (can_of s1) h1 ra, by rw [hK]; exact dat_dp L (can_of s2) h2 rb, s1, s2, fin _ q⟩
    · obtain ⟨p, vs, rfl, hq, t⟩ := rv_tup rb
      obtain ⟨f1, f2, f3⟩ := flat_rvs t fl
      rcases ea with rfl | ⟨z, rfl⟩
      · cases rv_non ra
        refine op_in_seq pins s σ H _ _ v u Q I rx ry ⟨p, vs, rfl, .inr (by rw [hK]; exact hq), rfl, f1, ?_⟩
        show Q (.bl (inV .non vs)) H
        rw [f2]
        exact fin _ q
      · cases rv_str ra
        refine op_in_seq pins s σ H _ _ v u Q I rx ry ⟨p, vs, rfl, .inr (by rw [hK]; exact hq), rfl, f1, ?_⟩
        show Q (.bl (inV (.str z) vs)) H
        rw [f3]
        exact fin _ q
  | NotIn =>
    rcases in_cases (show wpIn a b S fun k => Qa (.bl (!k)) S from hw) with ⟨i, ns, rfl, e, q⟩ | ⟨d, ds, h1, h2, s1, s2, q⟩ | ⟨ys, rfl, fl, ea, q⟩
    · cases rv_int ra
      obtain ⟨p, vs, rfl, hq, t⟩ := seq_at L e rb
      have ev := t.ints
      subst ev
      refine op_notIn_seq pins s σ H _ _ v u Q I rx ry ⟨p, ns.map V.int, rfl, by rw [hK]; exact hq, rfl, flat_ints ns, ?_⟩
      show Q (.bl (!inV (.int i) (ns.map V.int))) H
      rw [inV_ints]
      exact fin _ q
    · exact op_notInD (by omega) pins s σ H _ _ v u Q I rx ry ⟨d, ds, by rw [hK]; exact dat_dp L (can_of s1) h1 ra, by rw [hK]; exact dat_dp L (can_of s2) h2 rb, s1, s2, fin _ q⟩
    · obtain ⟨p, vs, rfl, hq, t⟩ := rv_tup rb
      obtain ⟨f1, f2, f3⟩ := flat_rvs t fl
      rcases ea with rfl | ⟨z, rfl⟩
      · cases rv_non ra
        refine op_notIn_seq pins s σ H _ _ v u Q I rx ry ⟨p, vs, rfl, .inr (by rw [hK]; exact hq), rfl, f1, ?_⟩
        show Q (.bl (!inV .non vs)) H
        rw [f2]
        exact fin _ q
      · cases rv_str ra
        refine op_notIn_seq pins s σ H _ _ v u Q I rx ry ⟨p, vs, rfl, .inr (by rw [hK]; exact hq), rfl, f1, ?_⟩
        show Q (.bl (!inV (.str z) vs)) H
        rw [f3]
        exact fin _ q

/-! ### truth -/
theorem lenInt_ne {n : Nat} : (((n : Nat) : Int) != 0) = decide (n ≠ 0) := by
  by_cases h : n = 0
  · subst h; rfl
  · rw [decide_eq_true h]
    exact bne_iff_ne.mpr (by omega)
theorem isEmpty_rvs {ι : List Addr} {H : Hp} {xs : List PV} {vs : List V} (h : RVs D ι H xs vs) : vs.isEmpty = xs.isEmpty := by
  have := h.len
  cases xs with
  | nil => rw [show vs = [] from h]; rfl
  | cons x r => obtain ⟨v, s, rfl, _⟩ := h; rfl
/-- the truth of a value; texts may not be too long -/
theorem tru_at {ι : List Addr} {H : Hp} {S : Store} (L : Ly D ι H S) {a : PV} {x : V} {k : Bool} (r : RV D ι H a x) (h : tru S a = some k) : TruV D.K x H k := by
  cases a with
  | non => cases rv_non r; cases h; rfl
  | bl b => cases rv_bl r; cases h; rfl
  | int i =>
    cases rv_int r; cases h
    show decide (i ≠ 0) = (i != 0)
    by_cases z : i = 0
    · subst z; rfl
    · rw [decide_eq_true z]; exact (bne_iff_ne.mpr z).symm
  | str z =>
    cases rv_str r
    simp only [tru] at h
    by_cases hz : z.length ≤ lim
    · rw [if_pos hz] at h
      cases h
      exact ⟨by rw [lim_eq]; exact hz, lenInt_ne.symm⟩
    · rw [if_neg hz] at h
      cases h
  | tup xs =>
    obtain ⟨a, vs, rfl, q, t⟩ := rv_tup r
    cases h
    exact .inr (.inl ⟨vs, q, by rw [isEmpty_rvs t]⟩)
  | scr xs =>
    obtain ⟨a, vs, rfl, q, t⟩ := rv_scr r
    cases h
    exact .inl ⟨vs, q.list, by rw [isEmpty_rvs t]⟩
  | ls xs =>
    obtain ⟨a, vs, rfl, ⟨o, q⟩, t⟩ := rv_ls r
    cases h
    exact .inl ⟨vs, .inl (.inr ⟨o, q⟩), by rw [isEmpty_rvs t]⟩
  | ref i =>
    simp only [tru] at h
    cases e : S[i]? with
    | none => rw [e] at h; cases h
    | some o =>
      rw [e] at h
      obtain ⟨a, hi, rfl⟩ := rv_ref r
      cases o with
      | lst xs =>
        cases h
        obtain ⟨b, vs, hi', q, t⟩ := L.lst e
        rw [hi] at hi'; cases hi'
        exact .inl ⟨vs, SqL.of q, by rw [isEmpty_rvs t]⟩
      | dic kvs => cases h
      | ins c fs => cases h
  | _ => cases h
end
end Rp
/-! # What repr shows of data with dicts within -/
namespace Rp
open PySem PySem.Spec PyProof.Rows L2
section
variable {prog : Program} {w : World} {h : Heap}
/-- read, and shown by its parts -/
def Sh1 (prog : Program) (w : World) (h : Heap) (u : Value) (d : PyData) : Prop := ∃ as bs, Reads h u d as ∧ ReadAtMost h d.depth bs ∧ ReprK prog w bs h d.depth u d.shown
def ShA (prog : Program) (w : World) (h : Heap) (us : List Value) (ds : List PyData) : Prop := ∃ as bs, ReadsAll h us ds as ∧ ReadAtMost h (PyData.depthAll ds) bs ∧ ReprAllK prog w bs h (PyData.depthAll ds) us (PyData.shownAll ds)
theorem ShA.nil : ShA prog w h [] [] := ⟨[], [], .nil, (fun _ z => nomatch z), .nil⟩
theorem ShA.cons {u : Value} {us : List Value} {d : PyData} {ds : List PyData} (p : Sh1 prog w h u d) (q : ShA prog w h us ds) : ShA prog w h (u :: us) (d :: ds) := by
  obtain ⟨as, bs, r, m, k⟩ := p
  obtain ⟨as', bs', r', m', k'⟩ := q
  have l1 : d.depth ≤ PyData.depthAll (d :: ds) := by
    show d.depth ≤ max d.depth (PyData.depthAll ds)
    exact Nat.le_max_left _ _
  have l2 : PyData.depthAll ds ≤ PyData.depthAll (d :: ds) := by
    show PyData.depthAll ds ≤ max d.depth (PyData.depthAll ds)
    exact Nat.le_max_right _ _
  refine ⟨_, bs ++ bs', .cons r r', (m.mono l1).append (m'.mono l2), ?_⟩
  show ReprAllK prog w _ h _ (u :: us) (d.shown :: PyData.shownAll ds)
  exact .cons ((k.more fun b hb => List.mem_append_left bs' hb).level_le l1) (k'.more_le (fun b hb => List.mem_append_right bs hb) l2)
theorem sh_list {a : Addr} {o : Obj} {its : Array Value} {n : Nat} {ds : List PyData} (h1 : h.get? a = some o) (h2 : o.cls = .type "list") (h3 : o.data = .seq its n) (q : ShA prog w h its.toList ds) (hz : (PyData.list ds).shown.length ≤ sizeLine) :
    Sh1 prog w h (.ref a) (.list ds) ∧ ∃ T idr, ShowsBy prog w h a (.list ds) T idr := by
  obtain ⟨as, bs, r, m, k⟩ := q
  have hz2 : (listText (PyData.shownAll ds)).length ≤ sizeLine := hz
  have r0 : Reads h (.ref a) (.list ds) _ := .list h1 h2 h3 r
  have hd : PyData.depth (.list ds) = PyData.depthAll ds + 1 := rfl
  have hna : a ∉ bs := not_mem_of_deeper r0 (by rw [hd]; exact Nat.lt_succ_self _) m
  refine ⟨⟨_, a :: bs, r0, m.cons r0 (by rw [hd]; exact Nat.le_succ _), ?_⟩, "list", "list.__repr__", F.slot_list_repr.toG, F.slot_list_str, F.slot_list_format, fun s hk0 => ⟨o, hk0 _ _ h1, h2⟩, fun A E s Q hg hu hk0 hQ => ?_⟩
  · show ReprK prog w (a :: bs) h (PyData.depthAll ds + 1) (.ref a) (listText (PyData.shownAll ds))
    obtain ⟨l⟩ := its
    cases l with
    | nil =>
      have r' : ReadsAll h [] ds _ := r
      cases r'
      show ReprK prog w _ h _ _ (listText [])
      rw [listText_nil]
      exact ReprK.listEmpty h1 h2 h3
    | cons x l => exact ReprK.list h1 h2 h3 hna (by simpa using k.length_eq) fun i y e => k.item i y (by simpa using e)
  · rw [hd] at hu
    have hQ : ∀ h' u tk, (∀ b o, s.heap.get? b = some o → h'.get? b = some o) → Q (.str (listText (PyData.shownAll ds)) u) { s with heap := h', toks := tk } := hQ
    obtain ⟨l⟩ := its
    cases l with
    | nil =>
      have r' : ReadsAll h [] ds _ := r
      cases r'
      have hQ : ∀ h' u tk, (∀ b o, s.heap.get? b = some o → h'.get? b = some o) → Q (.str (listText []) u) { s with heap := h', toks := tk } := hQ
      rw [listText_nil] at hQ
      exact call_list_repr_empty ⟨o, hk0 _ _ h1, h2⟩ (hk0 _ _ h1) h3 (hQ s.heap _ _ fun _ _ e => e)
    | cons x l => exact call_list_reprK h1 h2 h3 hna (by simpa using k.length_eq) (fun i y e => k.item i y (by simpa using e)) hg (fun b _ => Clear.nil b) hu hk0 hQ hz2
theorem sh_tuple {a : Addr} {o : Obj} {its : Array Value} {n : Nat} {ds : List PyData} (h1 : h.get? a = some o) (h2 : o.cls = .type "tuple") (h3 : o.data = .seq its n) (q : ShA prog w h its.toList ds) (hz : (PyData.tuple ds).shown.length ≤ sizeLine) :
    Sh1 prog w h (.ref a) (.tuple ds) ∧ ∃ T idr, ShowsBy prog w h a (.tuple ds) T idr := by
  obtain ⟨as, bs, r, m, k⟩ := q
  have hz2 : (tupleText (PyData.shownAll ds)).length ≤ sizeLine := hz
  have r0 : Reads h (.ref a) (.tuple ds) _ := .tuple h1 h2 h3 r
  have hd : PyData.depth (.tuple ds) = PyData.depthAll ds + 1 := rfl
  have hna : a ∉ bs := not_mem_of_deeper r0 (by rw [hd]; exact Nat.lt_succ_self _) m
  refine ⟨⟨_, a :: bs, r0, m.cons r0 (by rw [hd]; exact Nat.le_succ _), ?_⟩, "tuple", "tuple.__repr__", F.slot_tuple_repr, F.slot_tuple_str, F.slot_tuple_format, fun s hk0 => ⟨o, hk0 _ _ h1, h2⟩, fun A E s Q hg hu hk0 hQ => ?_⟩
  · show ReprK prog w (a :: bs) h (PyData.depthAll ds + 1) (.ref a) (tupleText (PyData.shownAll ds))
    exact ReprK.tuple h1 h2 h3 hna k
  · rw [hd] at hu
    exact call_tuple_reprK h1 h2 h3 hna k hg (fun b _ => Clear.nil b) hu hk0 hQ hz2
theorem sh_dict {a : Addr} {o : Obj} {es : Array DictEntry} {n : Nat} {kvs : List (PyData × PyData)} (h1 : h.get? a = some o) (h2 : o.cls = .type "dict") (h3 : o.data = .dict es n) (hs : (a == sysModules) = false) (q : ShA prog w h (es.toList.map (·.key)) (kvs.map (·.1)))
    (q' : ShA prog w h (es.toList.map (·.val)) (kvs.map (·.2))) (hz : (PyData.dict kvs).shown.length ≤ sizeLine) : Sh1 prog w h (.ref a) (.dict kvs) ∧ ∃ T idr, ShowsBy prog w h a (.dict kvs) T idr := by
  obtain ⟨as, bs, r, m, k⟩ := q
  obtain ⟨as', bs', r', m', k'⟩ := q'
  have hz2 : (dictText (PyData.shownKv kvs)).length ≤ sizeLine := hz
  have r0 : Reads h (.ref a) (.dict kvs) _ := .dict h1 h2 h3 r r'
  have hd : PyData.depth (.dict kvs) = PyData.depthKv kvs + 1 := rfl
  have mm : ReadAtMost h (PyData.depthKv kvs) (bs ++ bs') := (m.mono (PyData.depthAll_keys_le kvs)).append (m'.mono (PyData.depthAll_vals_le kvs))
  have hna : a ∉ bs ++ bs' := not_mem_of_deeper r0 (by rw [hd]; exact Nat.lt_succ_self _) mm
  have en := ReprEntriesK.of_two es.toList _ _ (k.more_le (fun b hb => List.mem_append_left bs' hb) (PyData.depthAll_keys_le kvs)) (k'.more_le (fun b hb => List.mem_append_right bs hb) (PyData.depthAll_vals_le kvs))
  rw [← PyData.shownKv_eq] at en
  refine ⟨⟨_, a :: (bs ++ bs'), r0, mm.cons r0 (by rw [hd]; exact Nat.le_succ _), ?_⟩, "dict", "dict.__repr__", F.slot_dict_repr, F.slot_dict_str, F.slot_dict_format, fun s hk0 => ⟨o, hk0 _ _ h1, h2⟩, fun A E s Q hg hu hk0 hQ => ?_⟩
  · show ReprK prog w (a :: (bs ++ bs')) h (PyData.depthKv kvs + 1) (.ref a) (dictText (PyData.shownKv kvs))
    exact ReprK.dict h1 h2 h3 hs hna en
  · rw [hd] at hu
    exact call_dict_reprK h1 h2 h3 hs hna en hg (fun b _ => Clear.nil b) hu hk0 hQ hz2
theorem shA_of : ∀ {us : List Value} {ds : List PyData}, us.length = ds.length → (∀ p ∈ us.zip ds, Sh1 prog w h p.1 p.2) → ShA prog w h us ds
  | [], [], _, _ => .nil
  | [], _ :: _, e, _ => by cases e
  | _ :: _, [], e, _ => by cases e
  | u :: us, d :: ds, e, q => .cons (q (u, d) (by simp)) (shA_of (by simpa using e) fun p hp => q p (by rw [List.zip_cons_cons]; exact List.mem_cons_of_mem _ hp))
theorem sh_int {i : Int} {t : Tok} (e : decide (i.natAbs.log2 < 1920) = true) : Sh1 prog w h (.int i t) (.int i) := ⟨[], [], .int i t, (fun _ z => nomatch z), ReprK.of_is (ReprIs.int t (by simpa [PyData.showable] using e)) _ _ _⟩
theorem sh_str {x : Str} {t : Tok} (e : (PyData.str x).shown.length ≤ sizeLine) : Sh1 prog w h (.str x t) (.str x) := ⟨[], [], .str x t, (fun _ z => nomatch z), ReprK.of_is (ReprIs.str x t e) _ _ _⟩
end
section
variable {X : Cx} {pins : List (Addr × Obj)} {σ : L2.St} {s : Shared} {D : Ad} {ι : List Addr} {H : Hp} {S : Store}
/-- a locked dict's keys as they lie -/
theorem dct_keys {prog : Program} {w : World} {h : Heap} : ∀ {ks : List (Int ⊕ Nat)} {kvs' : List (L2.Key × V)} {vs : List (L2.Key × Value)} {es : List DictEntry}, kvs'.map (·.1) = ks.map dkP → KV kvs' vs → Pairs (mixKind prog w) es vs → PyData.showableAll (ks.map dkD) = true → (∀ t ∈ PyData.shownAll (ks.map dkD), t.length ≤ sizeLine) →
    ShA prog w h (es.map (·.key)) (ks.map dkD) ∧ es.map (·.val) = vs.map (·.2)
  | [], [], _, _, _, r, p, _, _ => by
    cases r
    cases p
    exact ⟨.nil, rfl⟩
  | [], _ :: _, _, _, e, _, _, _, _ => by cases e
  | _ :: _, [], _, _, e, _, _, _, _ => by cases e
  | k :: ks, kv :: kvs', _, _, e, r, p, hs, hz => by
    cases r with
    | cons r1 r2 =>
      cases p with
      | cons p1 p2 p3 =>
        rw [List.map_cons, List.map_cons] at e
        injection e with e1 e2
        have hs' : ((dkD k).showable && PyData.showableAll (ks.map dkD)) = true := hs
        rw [Bool.and_eq_true] at hs'
        have hz' : ∀ t ∈ (dkD k).shown :: PyData.shownAll (ks.map dkD), t.length ≤ sizeLine := hz
        obtain ⟨a, b⟩ := dct_keys e2 r2 p3 hs'.2 fun t ht => hz' t (List.mem_cons_of_mem _ ht)
        refine ⟨.cons ?_ a, by rw [List.map_cons, List.map_cons, b, p2]⟩
        have p1 : keyIs _ _ = true := p1
        rw [← r1.1, e1] at p1
        cases k with
        | inl i =>
          rcases keyIs_shape p1 with ⟨j, t, h1, h2⟩ | ⟨x, t, h1, h2⟩
          · cases h1
            show Sh1 prog w h (DictEntry.key _) _
            rw [h2]
            exact sh_int hs'.1
          · cases h1
        | inr n =>
          rcases keyIs_shape p1 with ⟨j, t, h1, h2⟩ | ⟨x, t, h1, h2⟩
          · cases h1
          · cases h1
            show Sh1 prog w h (DictEntry.key _) _
            rw [h2]
            exact sh_str (hz' _ (List.mem_cons_self ..))
theorem kv_vals : ∀ {kvs' : List (L2.Key × V)} {vs : List (L2.Key × Value)}, KV kvs' vs → Vals (kvs'.map (·.2)) (vs.map (·.2))
  | [], _, r => by cases r; exact .nil
  | kv :: kvs', _, r => by
    cases r with
    | cons r1 r2 => exact .cons r1.2 (kv_vals r2)
theorem dct_zip {ks : List (Int ⊕ Nat)} {ds : List PyData} (h : ks.length = ds.length) : ((ks.map dkD).zip ds).map (·.1) = ks.map dkD ∧ ((ks.map dkD).zip ds).map (·.2) = ds :=
  ⟨List.map_fst_zip (by rw [List.length_map]; omega), List.map_snd_zip (by rw [List.length_map]; omega)⟩
theorem dats_len {S : Store} : ∀ {vs : List PV} {ds : List PyData}, Dats S vs ds → vs.length = ds.length
  | _, _, .nil => rfl
  | _, _, .cons _ t => by rw [List.length_cons, List.length_cons, dats_len t]
/-- shown, and how it shows itself where it is an object -/
def ShT (prog : Program) (w : World) (h : Heap) (u : Value) (d : PyData) : Prop := Sh1 prog w h u d ∧ ∀ a, u = .ref a → ∃ T idr, ShowsBy prog w h a d T idr
mutual
theorem dat_sh (hK : X.K = D.K) (I : Inv X pins σ H s) (L : Ly D ι H S) : ∀ {v : PV} {d : PyData} {x : V} {u : Value}, Dat S v d → RV D ι H v x → RelV x u → d.showable = true → d.shown.length ≤ sizeLine → ShT X.prog X.w s.heap u d
  | _, _, _, _, .non, r, ru, _, _ => by
    cases rv_non r
    cases ru
    exact ⟨⟨[], [], .none, (fun _ z => nomatch z), ReprK.of_is ReprIs.none _ _ _⟩, fun a e => nomatch e⟩
  | _, _, _, _, .bl b, r, ru, _, _ => by
    cases rv_bl r
    cases ru
    exact ⟨⟨[], [], .bool b, (fun _ z => nomatch z), ReprK.of_is (ReprIs.bool b) _ _ _⟩, fun a e => nomatch e⟩
  | _, _, _, _, .int i, r, ru, hs, _ => by
    cases rv_int r
    obtain ⟨t, rfl⟩ := ru
    exact ⟨sh_int hs, fun a e => nomatch e⟩
  | _, _, _, _, .str z, r, ru, _, hz => by
    cases rv_str r
    obtain ⟨t, rfl⟩ := ru
    exact ⟨sh_str hz, fun a e => nomatch e⟩
  | _, .tuple ds, _, _, .tup h, r, ru, hs, hz => by
    obtain ⟨a, vs, rfl, q, t⟩ := rv_tup r
    cases ru
    obtain ⟨its, rv, ⟨o, ho, hc, n, hd⟩, _⟩ := I.tuple (by rw [hK]; exact q)
    obtain ⟨p1, p2⟩ := sh_tuple ho hc hd (dats_sh hK I L h t rv hs fun y hy => Nat.le_trans (tupleText_mem_le hy) hz) hz
    exact ⟨p1, fun b e => by cases e; exact p2⟩
  | _, .list ds, _, _, .scr h, r, ru, hs, hz => by
    obtain ⟨a, vs, rfl, q, t⟩ := rv_scr r
    cases ru
    obtain ⟨its, rv, ⟨o, n, ho, hc, _, hd⟩, _⟩ := I.list (by rw [hK]; exact q.list)
    obtain ⟨p1, p2⟩ := sh_list ho hc hd (dats_sh hK I L h t rv hs fun y hy => Nat.le_trans (listText_mem_le hy) hz) hz
    exact ⟨p1, fun b e => by cases e; exact p2⟩
  | _, .list ds, _, _, .ls h, r, ru, hs, hz => by
    obtain ⟨a, vs, rfl, ⟨od, q⟩, t⟩ := rv_ls r
    cases ru
    obtain ⟨its, rv, ⟨o, n, ho, hc, _, hd⟩, _⟩ := I.list (xs := vs) (.inl (.inr ⟨od, q⟩))
    obtain ⟨p1, p2⟩ := sh_list ho hc hd (dats_sh hK I L h t rv hs fun y hy => Nat.le_trans (listText_mem_le hy) hz) hz
    exact ⟨p1, fun b e => by cases e; exact p2⟩
  | _, .list ds, _, _, .lst e h, r, ru, hs, hz => by
    obtain ⟨a, hi, rfl⟩ := rv_ref r
    obtain ⟨a', vs, hi', q, t⟩ := L.lst e
    rw [hi] at hi'; cases hi'
    cases ru
    obtain ⟨its, rv, ⟨o, n, ho, hc, _, hd⟩, _⟩ := I.list (SqL.of q)
    obtain ⟨p1, p2⟩ := sh_list ho hc hd (dats_sh hK I L h t rv hs fun y hy => Nat.le_trans (listText_mem_le hy) hz) hz
    exact ⟨p1, fun b e => by cases e; exact p2⟩
  | .dct ks vs, _, _, _, .dct (ds := ds) h, r, ru, hs, hz => by
    obtain ⟨a, kvs', rfl, ⟨od, q⟩, hk, t⟩ := r
    cases ru
    obtain ⟨_, hm, vs', kv, o, es, ep, ho, ex, hd, _, ps, _⟩ := dk_rd (kvs := kvs') I.hok (.inr ⟨od, q⟩)
    have l1 : ks.length = ds.length := by
      have e1 := congrArg List.length hk
      have e2 := t.len
      have e3 := dats_len h
      simp only [List.length_map] at e1 e2
      omega
    obtain ⟨z1, z2⟩ := dct_zip l1
    obtain ⟨s1, s2⟩ := PyData.showableKv_split _ (show PyData.showableKv _ = true from hs)
    rw [z1] at s1
    rw [z2] at s2
    have hz2 : (dictText (PyData.shownKv ((ks.map dkD).zip ds))).length ≤ sizeLine := hz
    obtain ⟨k1, k2⟩ := dct_keys (h := s.heap) hk kv ps s1 fun y hy => by
      obtain ⟨p, hp, hl⟩ := PyData.shownKv_key_le ((ks.map dkD).zip ds) y (by rw [z1]; exact hy)
      exact Nat.le_trans hl (Nat.le_trans (dictText_mem_le hp) hz2)
    have k3 := dats_sh hK I L h t (kv_vals kv) s2 fun y hy => by
      obtain ⟨p, hp, hl⟩ := PyData.shownKv_val_le ((ks.map dkD).zip ds) y (by rw [z2]; exact hy)
      exact Nat.le_trans hl (Nat.le_trans (dictText_mem_le hp) hz2)
    obtain ⟨p1, p2⟩ := sh_dict ho ex.1 hd hm (by rw [z1]; exact k1) (by rw [z2, k2]; exact k3) hz
    exact ⟨p1, fun b e => by cases e; exact p2⟩
theorem dats_sh (hK : X.K = D.K) (I : Inv X pins σ H s) (L : Ly D ι H S) : ∀ {vs : List PV} {ds : List PyData} {xs : List V} {us : List Value}, Dats S vs ds → RVs D ι H vs xs → Vals xs us → PyData.showableAll ds = true → (∀ t ∈ PyData.shownAll ds, t.length ≤ sizeLine) → ShA X.prog X.w s.heap us ds
  | _, _, _, _, .nil, r, ru, _, _ => by
    rw [show _ = [] from r] at ru
    cases ru
    exact .nil
  | _, d :: ds, _, _, .cons h t, r, ru, hs, hz => by
    obtain ⟨v, r', rfl, a, b⟩ := r
    cases ru with
    | cons u1 u2 =>
      have hs' : (d.showable && PyData.showableAll ds) = true := hs
      rw [Bool.and_eq_true] at hs'
      have hz' : ∀ t ∈ d.shown :: PyData.shownAll ds, t.length ≤ sizeLine := hz
      exact .cons (dat_sh hK I L h a u1 hs'.1 (hz' _ (List.mem_cons_self ..))).1 (dats_sh hK I L t b u2 hs'.2 fun y hy => hz' y (List.mem_cons_of_mem _ hy))
end
end
end Rp
/-! # t[::-1] of a tuple -/
namespace Rp
namespace RT1
open PySem PySem.W PySem.Calls PyProof.Rows HT
section
variable {prog : Program} {w : World} {A : Around} {E : Value → Shared → Prop} {s : Shared}
theorem fm_congr {α β : Type} {f g : α → Option β} : ∀ {l : List α}, (∀ x ∈ l, f x = g x) → l.filterMap f = l.filterMap g
  | [], _ => rfl
  | x :: l, h => by
    rw [List.filterMap_cons, List.filterMap_cons, h x (List.mem_cons_self ..), fm_congr fun y hy => h y (List.mem_cons_of_mem _ hy)]
theorem fm_map {α β : Type} {g : α → β} : ∀ {l : List α}, l.filterMap (fun x => some (g x)) = l.map g
  | [] => rfl
  | x :: l => by
    rw [List.filterMap_cons, List.map_cons, fm_map]
theorem rev_pick (xs : Array Value) : ((List.range xs.size).filterMap fun (k : Nat) => xs[((xs.size : Int) - 1 + (k : Int) * (-1)).toNat]?) = xs.toList.reverse := by
  have h1 : ∀ k ∈ List.range xs.size, xs[((xs.size : Int) - 1 + (k : Int) * (-1)).toNat]? = some (xs.toList.reverse.getD k .none) := by
    intro k hk
    have hk := List.mem_range.mp hk
    have e : ((xs.size : Int) - 1 + (k : Int) * (-1)).toNat = xs.size - 1 - k := by omega
    rw [e, List.getD_eq_getElem?_getD, List.getElem?_reverse (by rw [Array.length_toList]; exact hk), Array.length_toList, Array.getElem?_toList, Array.getElem?_eq_getElem (by omega)]
    rfl
  rw [fm_congr h1, fm_map]
  refine List.ext_getElem (by simp) fun i h3 h4 => ?_
  rw [List.getElem_map, List.getElem_range, List.getD_eq_getElem?_getD, List.getElem?_eq_getElem h4]
  rfl
theorem applied_rev {sl : Addr} {vs : Value} {n : Nat} {Q : Int × Int × Nat → Shared → Prop} (hs : s.heap.IsSliceOf sl .none .none vs) (ps : IsPart vs (some (-1))) (h : Q ((n : Int) - 1, -1, n) s) :
    wpAny (model prog w) A (Builtin.Slice.sliceApplied (.ref sl) (pure (n : Int))) Q E s := by
  obtain ⟨os, hos, hcs, hds⟩ := id hs
  unfold Builtin.Slice.sliceApplied Builtin.Slice.sliceFields
  refine wpAny_bind (wpAny_bind (wpAny_field hos hds (x := .none) rfl (wpAny_bind (wpAny_field hos hds (x := .none) rfl (wpAny_bind (wpAny_field hos hds (x := vs) rfl (wpAny_pure ?_)))))))
  refine wpAny_bind (slicePart_ ps ?_)
  show wpAny _ _ (if ((-1 : Int) == 0) = true then _ else _) _ _ s
  rw [if_neg (by decide)]
  refine wpAny_bind (slicePart_none (wpAny_bind (slicePart_none (wpAny_bind (wpAny_pure ?_)))))
  show wpAny _ _ (pure ((n : Int) - 1, (-1 : Int), Builtin.Slice.slicePlaces ((n : Int) - 1) (-1) (-1))) _ _ s
  have e : Builtin.Slice.slicePlaces ((n : Int) - 1) (-1) (-1) = n := by
    unfold Builtin.Slice.slicePlaces
    rw [if_neg (by decide)]
    by_cases z : (n : Int) - 1 > -1
    · rw [if_pos z, show (-(-1) : Int) = 1 from rfl, Int.ediv_one]
      omega
    · rw [if_neg z]
      omega
  rw [e]
  exact wpAny_pure h
theorem getItem_tuple_rev {t sl : Addr} {items : Array Value} {vs : Value} {Q : Value → Shared → Prop} (ht : IsTup s.heap t items) (hs : s.heap.IsSliceOf sl .none .none vs) (ps : IsPart vs (some (-1)))
    (h : Q (.ref s.heap.objs.size) { s with heap := s.heap.push { cls := .type "tuple", data := .seq items.toList.reverse.toArray } }) (hsz : items.size ≤ sizeLine) : wpAny (model prog w) A (getItem (.ref t) (.ref sl)) Q E s := by
  have hok : sizeOk (.seq items.toList.reverse.toArray) := by
    show items.toList.reverse.toArray.size ≤ sizeLine
    rw [List.size_toArray, List.length_reverse, Array.length_toList]
    exact hsz
  obtain ⟨os, hos, hcs, hds⟩ := id hs
  have hTs : s.TypeIs (.ref sl) "slice" := ⟨os, hos, hcs⟩
  unfold getItem
  try with_reducible refine wpAny_holding ?_
  first | refine wpAny_bind (wpAny_pure ?_) | skip
  refine wpAny_bind (wpAny_sequenceKey ht.typeIs (by decide) ?_)
  refine wpAny_bind (wpAny_callSpecial?_slot (name := Str.ofString "__getitem__") ht.typeIs PyProof.Rows.slot_tuple_getitem
    (wpAny_call_entry PyProof.Rows.slot_tuple_getitem ht.typeIs entry_tuple_getitem ?_ (args_tuple_getitem _ _)))
  show wpAny _ _ (Builtin.Tuple.tupleItemsOf (.ref t) >>= _) _ _ s
  refine wpAny_bind (tupleItemsOf_ ht ?_)
  refine wpAny_bind (wpAny_typeOf hTs ?_)
  rw [if_pos (by decide)]
  refine wpAny_bind (applied_rev hs ps ?_)
  have hno : ¬ ((((items.size : Int) - 1) == 0 && (-1 : Int) == 1 && items.size == items.size) = true) := by
    intro q
    rw [Bool.and_eq_true, Bool.and_eq_true] at q
    exact absurd q.1.2 (by decide)
  show wpAny _ _ (if (((items.size : Int) - 1) == 0 && (-1 : Int) == 1 && items.size == items.size) = true then _ else _) _ _ s
  rw [if_neg hno, rev_pick]
  first
    | exact wpAny_bind (m := Builtin.Tuple.tupleExact _) (wpAny_newObj_type (wpAny_pure ⟨_, rfl, wpAny_pure h⟩) hok)
    | exact wpAny_bind (m := Builtin.Tuple.tupleExact _) (wpAny_newObj_type (wpAny_bind (wpAny_pure (wpAny_pure ⟨_, rfl, wpAny_pure h⟩))) hok)
    | exact wpAny_bind (wpAny_bind (m := Builtin.Tuple.tupleExact _) (wpAny_newObj_type (wpAny_pure (wpAny_pure ⟨_, rfl, wpAny_pure h⟩)) hok))
    | exact wpAny_bind (wpAny_bind (m := Builtin.Tuple.tupleExact _) (wpAny_newObj_type (wpAny_pure ⟨_, rfl, wpAny_pure h⟩) hok))
end
end RT1
open PySem PySem.Spec PyProof.Rows L2
section
variable {X : Cx}
/-- x[::-1], of a list or a tuple -/
def tRevA (K : PySem.W.Frag) (te : TE) : TE := fun σ H Q => te σ H fun x H1 => (∃ a xs, x = .ref a ∧ SqL K H1 a xs ∧ ∀ p, H1 p = none → Q (.ref p) (upd H1 p (.lst xs.reverse))) ∨ (∃ a xs, x = .ref a ∧ SqT K H1 a xs ∧ ∀ p, H1 p = none → Q (.ref p) (upd H1 p (.tup xs.reverse)))
theorem pe_revA {e : Expr} {te : TE} {k : Nat} {p1 p2 p3 pos : Pos} (he : PE X e te) : PE X (.Subscript e (.Slice none none (some (.UnaryOp .USub (.Constant (.int 1) k p1) p2)) p3) pos) (tRevA X.K te) := by
  refine ⟨fun pins s σ H Q I h => ?_⟩
  refine Subscript_ (thn (he.run pins s σ H _ I h) fun v s1 ⟨x, H1, I1, r1, q1⟩ => ?_)
  have hst : PO X (some (.UnaryOp .USub (.Constant (.int 1) k p1) p2)) (tPart (tUn (rU fun i => .int (-i)) (tC (.int 1)))) := po_some (pe_un un_neg pe_int)
  refine wpAny_Slice (thn (po_none.run pins s1 σ H1 (fun o H2 => o = none ∧ H2 = H1) I1 ⟨rfl, rfl⟩) fun vl s2 ⟨l, H2, I2, pl, el, e2⟩ => ?_)
  subst el e2
  refine thn (po_none.run pins s2 σ H2 (fun o H3 => o = none ∧ H3 = H2) I2 ⟨rfl, rfl⟩) fun vu s3 ⟨u, H3, I3, pu, eu, e3⟩ => ?_
  subst eu e3
  refine thn (hst.run pins s3 σ H3 (fun o H4 => o = some (-1) ∧ H4 = H3) I3 ⟨1, rfl, -1, rfl, rfl, rfl⟩) fun vs s4 ⟨o, H4, I4, ps, eo, e4⟩ => ?_
  subst eo e4
  have I5 : Inv X pins σ H4 { s4 with heap := s4.heap.push { cls := .type "slice", data := .fields #[vl, vu, vs] } } := I4.kept (t' := s4.toks) fun b ob q => Heap.get?_push_of_some _ q
  rcases q1 with ⟨a, xs, ex, hx, q⟩ | ⟨a, xs, ex, hx, q⟩
  · subst ex
    cases r1
    obtain ⟨its, r, ht, hz⟩ := I5.list hx
    have hlen := r.length
    show wpAny (model X.prog X.w) X.A (subscriptTail e (.Slice none none (some (.UnaryOp .USub (.Constant (.int 1) k p1) p2)) p3) (.ref a) (.ref s4.heap.objs.size)) (EP X pins σ Q) X.xe { s4 with heap := s4.heap.push { cls := .type "slice", data := .fields #[vl, vu, vs] } }
    refine tail_any (ops := [.ref a, .ref s4.heap.objs.size]) ht.isList.typeIs (PySem.slot_list_getitem.lookup) ?_ (by with_unfolding_all rfl)
    refine wpAny_getItem_list_slice ht.isList (Heap.IsSliceOf.new _ vl vu vs) pl pu ps (by decide) ?_ (by rw [List.size_toArray]; omega)
    rw [PySem.W.krv_pick]
    refine ⟨.ref _, _, I5.laid (t' := s4.toks) (o := .lst xs.reverse) (fun b ob q => Heap.get?_push_of_some _ q) (Nat.le_refl _) ?_, rfl, q _ (I5.hok.fresh (Nat.le_refl _))⟩
    exact ⟨by rw [List.length_reverse]; exact hz, _, 0, r.reverse, Heap.get?_push_size _ rfl⟩
  · subst ex
    cases r1
    cases pl
    cases pu
    obtain ⟨its, r, ht, hz⟩ := I5.tuple hx
    have hlen := r.length
    show wpAny (model X.prog X.w) X.A (subscriptTail e (.Slice none none (some (.UnaryOp .USub (.Constant (.int 1) k p1) p2)) p3) (.ref a) (.ref s4.heap.objs.size)) (EP X pins σ Q) X.xe { s4 with heap := s4.heap.push { cls := .type "slice", data := .fields #[.none, .none, vs] } }
    refine tail_any (ops := [.ref a, .ref s4.heap.objs.size]) ht.typeIs (PyProof.Rows.slot_tuple_getitem.lookup) ?_ (by with_unfolding_all rfl)
    refine RT1.getItem_tuple_rev ht (Heap.IsSliceOf.new _ .none .none vs) ps ?_ (by rw [List.size_toArray]; omega)
    refine ⟨.ref _, _, I5.laid (t' := s4.toks) (o := .tup xs.reverse) (fun b ob q => Heap.get?_push_of_some _ q) (Nat.le_refl _) ?_, rfl, q _ (I5.hok.fresh (Nat.le_refl _))⟩
    refine ⟨by rw [List.length_reverse]; exact hz, its.reverse, r.reverse, ⟨_, Heap.get?_push_size _ rfl, rfl, 0, ?_⟩⟩
    simp
theorem pe_lockR {e : Expr} {t : TE} (h : PE X e t) : PE X e (fun σ H Q => t σ H (fun x H1 => Q x H1 ∨ lockK Q x H1)) := ⟨fun pins s σ H Q I hw => thn (h.run pins s σ H _ I hw) fun v s1 ⟨x, H1, I1, r1, q1⟩ => by
  rcases q1 with q1 | ⟨a, u, rfl, hu, mu, q⟩
  · exact ⟨_, _, I1, r1, q1⟩
  · obtain ⟨od, I2⟩ := I1.lock hu mu
    exact ⟨_, _, I2, r1, q od⟩⟩
end
end Rp
/-! # Subscripts, slices, built-in calls, over the store -/
namespace Rp
open PySem PySem.Spec PyProof.Rows L2

theorem bnd_eq (n d : Nat) (o : Option Int) : bnd n d o = HT.sIx n d o := by
  cases o <;> rfl
theorem idx_ix {α : Type} {xs : List α} {k : Int} {v : α} (h : idx xs k = some v) : ∃ j, ixN xs.length k = some j ∧ xs[j]? = some v := by
  unfold idx at h
  by_cases h0 : 0 ≤ k
  · rw [if_pos h0] at h
    have hl := (List.getElem?_eq_some_iff.mp h).1
    exact ⟨k.toNat, by unfold ixN; rw [if_pos h0, if_pos (by omega)], h⟩
  · rw [if_neg h0] at h
    by_cases h1 : 0 ≤ (xs.length : Int) + k
    · rw [if_pos h1] at h
      refine ⟨((xs.length : Int) + k).toNat, ?_, h⟩
      unfold ixN
      rw [if_neg h0, if_pos (by omega)]
      congr 1
      omega
    · rw [if_neg h1] at h
      cases h
/-- what isinstance asks of the classes -/
structure IsF (D : Ad) (T : Tab) : Prop where
  cl : ∀ c cd, T.cls[c]? = some cd → Cls D.K (D.ca c)
  ha : ∀ c cd, T.cls[c]? = some cd → PySem.W.findIn D.K (.ref (D.ca c)) "__class__" = some (some (.builtin "object.__class__")) ∧ PySem.W.mroIn D.K (D.ca c) (.type "object") = some true
  hn : T.cls = [] ∨ (PySem.W.specialIn D.K (.builtin "object.__class__") "__get__" = some (some (.builtin "getset_descriptor.__get__")) ∧ PySem.W.takesIn D.K (.builtin "object.__class__") = some true)
  bi : ∀ c cd b, T.cls[c]? = some cd → b ≠ BT.non → PySem.W.kitOne D.K (.ref (D.ca c)) (.type b.nm) = some false
  ib : ∀ c b, (T.cls[c]?).isSome = true → PySem.W.kitOne D.K (.type (BT.nm b)) (.ref (D.ca c)) = some false
  ne : ∀ c cd, T.cls[c]? = some cd → (cd.ms.lookup nEq).isSome = true → PySem.W.findIn D.K (.ref (D.ca c)) "__ne__" = some (some (.builtin "object.__ne__"))
  fm : ∀ c cd, T.cls[c]? = some cd → (cd.ms.lookup nStr).isSome = true → PySem.W.findIn D.K (.ref (D.ca c)) "__format__" = some (some (.builtin "object.__format__"))
  su : ∀ c cd b, T.cls[c]? = some cd → PySem.W.subIn D.K (.ref (D.ca c)) (.type (BT.nm b)) = some false
  ii : ∀ c d cd, T.cls[c]? = some cd → (T.cls[d]?).isSome = true → PySem.W.kitOne D.K (.ref (D.ca c)) (.ref (D.ca d)) = some (cd.up.contains d)
section
variable {X : Cx} {D : Ad} {T : Tab}
theorem idx_at {ι : List Addr} {H : Hp} {xs : List PV} {vs : List V} {k : Int} {v : PV} (t : RVs D ι H xs vs) (h : idx xs k = some v) : ∃ w, atI vs k = some w ∧ RV D ι H v w := by
  obtain ⟨j, e1, e2⟩ := idx_ix h
  obtain ⟨w, e3, r⟩ := t.get e2
  exact ⟨w, by unfold atI; rw [t.len, e1]; exact e3, r⟩

/-! dicts of texts -/
theorem dic_look {ι : List Addr} {H : Hp} {f : DK} : ∀ {kvs : List (DK × PV)} {kvs' : List (L2.Key × V)} {v : PV}, kvs'.map (·.1) = kvs.map (fun p => dkK p.1) → RVs D ι H (kvs.map (·.2)) (kvs'.map (·.2)) → kvs.lookup f = some v → ∃ x, valV kvs' (dkK f) = some x ∧ RV D ι H v x
  | [], _, _, _, _, h => by cases h
  | (g, u) :: kvs, [], _, h1, _, _ => by cases h1
  | (g, u) :: kvs, (k, x) :: kvs', v, h1, h2, h => by
    injection h1 with e1 e2
    obtain ⟨x', r, e, a, b⟩ := h2
    injection e with e3 e4
    subst e3 e4
    rw [List.lookup_cons] at h
    by_cases q : f = g
    · subst q
      rw [beq_self_eq_true] at h
      cases h
      exact ⟨x, valV_pos e1, a⟩
    · rw [beq_eq_false_iff_ne.mpr q] at h
      obtain ⟨y, y1, y2⟩ := dic_look e2 b h
      refine ⟨y, ?_, y2⟩
      rw [valV_neg (p := (k, x)) (k := dkK f) (fun z => ?_)]
      · exact y1
      · rw [show k = dkK g from e1] at z
        exact q (dkK_inj z.symm)
theorem ix_dk (hu : X.A.units + 1 < cLine) : IxR X (fun x y H Q => ∃ a v, x = .ref a ∧ DGet H a y (some v) ∧ Q v H) := by
  intro value slice pins s σ H x y v u Q I rx ry h hs
  obtain ⟨a, z, rfl, g, q⟩ := h
  obtain rfl : v = Value.ref a := rx
  unfold subscriptTail
  refine wpAny_bind ?_
  have hT := dict_typeIs I g
  rw [getitemInPython_of_ne hT.not_modules]
  refine wpAny_bind (wpAny_specialOf hT PySem.F.slot_dict_getitem.lookup ?_)
  have fin : wpAny (model X.prog X.w) X.A (subscripted slice false (.ref a) u) (fun r s₃ => wpAny (model X.prog X.w) X.A (letTemporaryGo value (.ref a) r >>= fun _ => pure r) (EP X pins σ Q) X.xe s₃) X.xe s := by
    rw [hs]
    exact wpAny_operating (wpAny_mono (d_getItem hu I g ry (Q := EP X pins σ Q) fun w' s3 I3 rw' => ⟨z, H, I3, rw', q⟩) (fun r s₃ h₃ => wpAny_bind (wpAny_letTemporaryGo (wpAny_pure h₃))) fun _ _ x => x)
  first
    | exact wpAny_pure (wpAny_bind fin)
    | exact wpAny_bind (wpAny_pure (wpAny_bind fin))
    | exact wpAny_bind fin
theorem ix_G (hK : X.K = D.K) : IxR X (rdV2 D wpSub) := by
  intro value slice pins s σ H x y v u Q I rx ry h hs
  obtain ⟨ι, S, a, b, Qa, L, ra, rb, hw, c⟩ := h
  cases b with
  | int k =>
    obtain ⟨xs, e1, hw⟩ := onS_ex (show onS (itemsOf S a) fun xs => onS (idx xs k) fun v => Qa v S from hw)
    obtain ⟨z, e2, q⟩ := onS_ex hw
    cases rv_int rb
    obtain ⟨p, vs, rfl, hq, t⟩ := seq_at L e1 ra
    obtain ⟨w, e3, rw'⟩ := idx_at t e2
    rcases hq with hq | hq
    · exact ix_list value slice pins s σ H _ _ v u Q I rx ry ⟨p, vs, k, w, rfl, rfl, by rw [hK]; exact hq, e3, c.here L rw' q⟩ hs
    · exact ix_tup value slice pins s σ H _ _ v u Q I rx ry ⟨p, vs, k, w, rfl, rfl, by rw [hK]; exact hq, e3, c.here L rw' q⟩ hs
  | _ => exact (show False from hw).elim
/-- o['name'] -/
def rdSubK (D : Ad) (f : Nat) : R2 := fun x y H Q => ∃ ι S v Qa, Ly D ι H S ∧ RV D ι H v x ∧ y = .str (dN f) ∧ wpSubK v f S Qa ∧ Cnt D ι H Qa Q
theorem ix_K (hu : X.A.units + 1 < cLine) (f : Nat) : IxR X (rdSubK D f) := by
  intro value slice pins s σ H x y v u Q I rx ry h hs
  obtain ⟨ι, S, a, Qa, L, ra, rfl, hw, c⟩ := h
  cases a with
  | ref i =>
    obtain ⟨kvs, e1, hw⟩ := onS_ex (show onS (dicAt S i) fun kvs => onS (kvs.lookup (.inr f)) fun v => Qa v S from hw)
    obtain ⟨w, e2, q⟩ := onS_ex hw
    have e1 := dicAt_ex e1
    obtain ⟨p, hi, rfl⟩ := rv_ref ra
    obtain ⟨p', kvs', hi', hp, t1, t2⟩ := L.dic e1
    rw [hi] at hi'; cases hi'
    obtain ⟨x, hx, rx'⟩ := dic_look t1 t2 e2
    refine ix_dk hu value slice pins s σ H _ _ v u Q I rx ry ⟨p, x, rfl, ?_, c.here L rx' q⟩ hs
    rw [← hx]
    exact DGet.k (k := .inr (dN f)) hp
  | _ => exact (show False from hw).elim

theorem ix_I (hu : X.A.units + 1 < cLine) : IxR X (rdV2 D wpSubI) := by
  intro value slice pins s σ H x y v u Q I rx ry h hs
  obtain ⟨ι, S, a, b, Qa, L, ra, rb, hw, c⟩ := h
  match a, b, hw with
  | .ref i, .int n, hw =>
    obtain ⟨kvs, e1, hw⟩ := onS_ex (show onS (dicAt S i) fun kvs => onS (kvs.lookup (.inl n)) fun v => Qa v S from hw)
    obtain ⟨w, e2, q⟩ := onS_ex hw
    have e1 := dicAt_ex e1
    cases rv_int rb
    obtain ⟨p, hi, rfl⟩ := rv_ref ra
    obtain ⟨p', kvs', hi', hp, t1, t2⟩ := L.dic e1
    rw [hi] at hi'; cases hi'
    obtain ⟨x, hx, rx'⟩ := dic_look t1 t2 e2
    refine ix_dk hu value slice pins s σ H _ _ v u Q I rx ry ⟨p, x, rfl, ?_, c.here L rx' q⟩ hs
    rw [← hx]
    exact DGet.k (k := .inl n) hp

/-- a slice's reading -/
def rdSl (D : Ad) : V → Option Int → Option Int → Hp → VK → Prop := fun x lo hi H Q => ∃ ι S v Qa, Ly D ι H S ∧ RV D ι H v x ∧ wpSlice v lo hi S Qa ∧ Cnt D ι H Qa Q
theorem cut_rvs {ι : List Addr} {H : Hp} {xs : List PV} {vs : List V} (t : RVs D ι H xs vs) (lo hi : Option Int) : RVs D ι H (cutL xs lo hi) (cutV vs lo hi) := by
  unfold cutL cutV
  rw [t.len, bnd_eq, bnd_eq]
  exact (t.drop _).take _
theorem sl_G (hK : X.K = D.K) : SlR X (rdSl D) := by
  intro pins s σ H x v vl vu lo hi sl Q I rx hs pl pu h
  obtain ⟨ι, S, a, Qa, L, ra, hw, c⟩ := h
  have lists : (onS (lstOf S a) fun xs => Qa (.ls (cutL xs lo hi)) S) → ∃ T id, typeLookup (.type T) "__getitem__" = pure (some (.builtin id)) ∧ s.TypeIs v T ∧ wpAny (model X.prog X.w) X.A (getItem v (.ref sl)) (EP X pins σ Q) X.xe s := by
    intro hw
    obtain ⟨xs, e, q⟩ := onS_ex hw
    obtain ⟨p, vs, rfl, hq, t⟩ := lst_at L e ra
    obtain ⟨T, id, h1, h2, h3⟩ := sl_list pins s σ H _ v vl vu lo hi sl (lockK Q) I rx hs pl pu ⟨p, vs, rfl, by rw [hK]; exact hq, fun p' hp => c.frz L hp (cut_rvs t lo hi) q⟩
    exact ⟨T, id, h1, h2, any_lock h3⟩
  cases a with
  | tup xs =>
    have q : Qa (.tup (cutL xs lo hi)) S := hw
    obtain ⟨p, vs, rfl, hq, t⟩ := rv_tup ra
    refine sl_tupA pins s σ H _ v vl vu lo hi sl Q I rx hs pl pu ⟨p, vs, rfl, by rw [hK]; exact hq, fun e => ?_, fun _ p' hp => c.tup L hp (cut_rvs t lo hi) q⟩
    have ew : cutL xs lo hi = xs := by
      unfold cutL
      rw [bnd_eq, bnd_eq, ← t.len, e.1, e.2, List.drop_zero, t.len]
      exact List.take_length
    rw [ew] at q
    exact c.here L ra q
  | scr xs => exact lists hw
  | ls xs => exact lists hw
  | ref i => exact lists hw
  | _ => exact (show False from hw).elim

/-- x[i] = v -/
def rdSet (D : Ad) : TSet := fun o i v H Q => ∃ ι S a b c Qs, Ly D ι H S ∧ RV D ι H a o ∧ RV D ι H b i ∧ RV D ι H c v ∧ wpSet a b c S Qs ∧ ∀ ι' S' H', Ext ι H ι' H' → Ly D ι' H' S' → Qs S' → Q H'
theorem dic_any {f : DK} : ∀ {kvs : List (DK × PV)} {kvs' : List (L2.Key × V)}, kvs'.map (·.1) = kvs.map (fun p => dkK p.1) → (kvs'.any fun kv => decide (kv.1 = dkK f)) = kvs.any fun kv => decide (kv.1 = f)
  | [], [], _ => rfl
  | [], _ :: _, h => by cases h
  | _ :: _, [], h => by cases h
  | (g, u) :: kvs, (k, x) :: kvs', h => by
    injection h with e1 e2
    rw [List.any_cons, List.any_cons, dic_any e2]
    congr 1
    have e1 : k = dkK g := e1
    rw [decide_eq_decide]
    show k = dkK f ↔ g = f
    rw [e1]
    constructor
    · intro z
      exact dkK_inj z
    · intro z
      rw [z]
theorem dic_rep {ι : List Addr} {H : Hp} {f : DK} {v : PV} {x : V} (r : RV D ι H v x) : ∀ {kvs : List (DK × PV)} {kvs' : List (L2.Key × V)}, kvs'.map (·.1) = kvs.map (fun p => dkK p.1) → RVs D ι H (kvs.map (·.2)) (kvs'.map (·.2)) →
    (kvs'.map fun kv => if kv.1 = dkK f then (kv.1, x) else kv).map (·.1) = (kvs.map fun kv => if kv.1 = f then (kv.1, v) else kv).map (fun p => dkK p.1) ∧ RVs D ι H ((kvs.map fun kv => if kv.1 = f then (kv.1, v) else kv).map (·.2)) ((kvs'.map fun kv => if kv.1 = dkK f then (kv.1, x) else kv).map (·.2))
  | [], [], _, h => ⟨rfl, h⟩
  | [], _ :: _, h, _ => by cases h
  | _ :: _, [], h, _ => by cases h
  | (g, u) :: kvs, (k, y) :: kvs', h1, h2 => by
    injection h1 with e1 e2
    obtain ⟨x', r', e, a, b⟩ := h2
    injection e with e3 e4
    subst e3 e4
    obtain ⟨i1, i2⟩ := dic_rep (f := f) r e2 b
    have e1 : k = dkK g := e1
    subst e1
    by_cases q : g = f
    · subst q
      simp only [List.map_cons, if_true]
      exact ⟨by rw [i1], .cons r i2⟩
    · have q2 : ¬ (dkK g = dkK f) := fun z => q (dkK_inj z)
      simp only [List.map_cons, if_neg q, if_neg q2]
      exact ⟨by rw [i1], .cons a i2⟩
theorem dic_put {ι : List Addr} {H : Hp} {f : DK} {v : PV} {x : V} (r : RV D ι H v x) {kvs : List (DK × PV)} {kvs' : List (L2.Key × V)} (h1 : kvs'.map (·.1) = kvs.map (fun p => dkK p.1)) (h2 : RVs D ι H (kvs.map (·.2)) (kvs'.map (·.2))) :
    (putK kvs' (dkK f) x).map (·.1) = (putD f v kvs).map (fun p => dkK p.1) ∧ RVs D ι H ((putD f v kvs).map (·.2)) ((putK kvs' (dkK f) x).map (·.2)) := by
  unfold putK putD
  rw [dic_any h1]
  by_cases q : (kvs.any fun kv => decide (kv.1 = f)) = true
  · rw [if_pos q, if_pos q]
    exact dic_rep r h1 h2
  · rw [if_neg q, if_neg q]
    constructor
    · rw [List.map_append, List.map_append, h1]
      rfl
    · rw [List.map_append, List.map_append]
      exact h2.app (.cons r .nil)
theorem dic_merge {ι : List Addr} {H : Hp} : ∀ {more kvs : List (DK × PV)} {more' kvs' : List (L2.Key × V)}, more'.map (·.1) = more.map (fun p => dkK p.1) → RVs D ι H (more.map (·.2)) (more'.map (·.2)) → kvs'.map (·.1) = kvs.map (fun p => dkK p.1) → RVs D ι H (kvs.map (·.2)) (kvs'.map (·.2)) →
    (mergeK kvs' more').map (·.1) = (mergeD kvs more).map (fun p => dkK p.1) ∧ RVs D ι H ((mergeD kvs more).map (·.2)) ((mergeK kvs' more').map (·.2))
  | [], _, [], _, _, _, h1, h2 => ⟨h1, h2⟩
  | [], _, _ :: _, _, h, _, _, _ => by cases h
  | _ :: _, _, [], _, h, _, _, _ => by cases h
  | (g, u) :: more, kvs, (k, y) :: more', kvs', m1, m2, h1, h2 => by
    injection m1 with e1 e2
    obtain ⟨x', r', e, a, b⟩ := m2
    injection e with e3 e4
    subst e3 e4
    have e1 : k = dkK g := e1
    subst e1
    obtain ⟨p1, p2⟩ := dic_put (f := g) a h1 h2
    exact dic_merge (more := more) (kvs := putD g u kvs) (more' := more') (kvs' := putK kvs' (dkK g) y) e2 b p1 p2
theorem ixP_ixN {n : Nat} {k : Int} {j : Nat} (h : ixP n k = some j) : ixN n k = some j := by
  unfold ixP at h
  unfold ixN
  split at h
  · rename_i h0
    rw [if_pos h0]
    split at h
    · rename_i h1
      cases h
      rw [if_pos h1]
    · cases h
  · rename_i h0
    rw [if_neg h0]
    split at h
    · rename_i h1
      cases h
      rw [if_pos (by omega)]
      congr 1
      omega
    · cases h
theorem set_G : PSet X (rdSet D) := by
  intro pins s σ H o i v ov iv u Q I ro ri rv h
  obtain ⟨ι, S, a, b, d, Qs, L, ra, rb, rd, hw, c⟩ := h
  cases a with
  | ref n =>
    cases b with
    | int k =>
      obtain ⟨xs, e, hw⟩ := onS_ex (show onS (lstAt S n) fun xs => onS (ixP xs.length k) fun j => Qs (S.set n (.lst (xs.set j d))) from hw)
      obtain ⟨j, ej, q⟩ := onS_ex hw
      have e := lstAt_ex e
      obtain ⟨p, hi, rfl⟩ := rv_ref ra
      cases rv_int rb
      obtain ⟨p', vs, hi', hp, t⟩ := L.lst e
      rw [hi] at hi'; cases hi'
      refine set_list pins s σ H _ _ v ov iv u Q I ro ri rv ⟨p, vs, k, j, rfl, rfl, hp, ?_, ?_⟩
      · rw [t.len]
        exact ixP_ixN ej
      · obtain ⟨x1, l1⟩ := L.setLst hi e (t.set j rd)
        exact c ι _ _ x1 l1 q
    | _ => exact (show False from hw).elim
  | _ => exact (show False from hw).elim
def rdSetK (D : Ad) (f : Nat) : TSet := fun o i v H Q => ∃ ι S a c Qs, Ly D ι H S ∧ RV D ι H a o ∧ i = .str (dN f) ∧ RV D ι H c v ∧ wpSetK a f c S Qs ∧ ∀ ι' S' H', Ext ι H ι' H' → Ly D ι' H' S' → Qs S' → Q H'
theorem set_K (hu : X.A.units + 1 < cLine) (f : Nat) : PSet X (rdSetK D f) := by
  intro pins s σ H o i v ov iv u Q I ro ri rv h
  obtain ⟨ι, S, a, d, Qs, L, ra, rfl, rd, hw, c⟩ := h
  cases a with
  | ref n =>
    obtain ⟨kvs, e, hw⟩ := onS_ex (show onS (dicAt S n) fun kvs => onT (decide (kvs.length < 1000)) (Qs (S.set n (.dic (putD (.inr f) d kvs)))) from hw)
    obtain ⟨hl, q⟩ := onT_ex hw
    have hl := of_decide_eq_true hl
    have e := dicAt_ex e
    obtain ⟨p, hi, rfl⟩ := rv_ref ra
    obtain ⟨p', kvs', hi', hp, t1, t2⟩ := L.dic e
    rw [hi] at hi'; cases hi'
    obtain rfl : ov = Value.ref p := ro
    obtain ⟨u1, u2⟩ := dic_put (f := .inr f) rd t1 t2
    have hz : kvs'.length < sizeLine := by
      have := congrArg List.length t1
      rw [List.length_map, List.length_map] at this
      rw [this, sizeLine_eq]
      omega
    refine d_setItem hu I (DPut.k (k := .inr (dN f)) (v := v) hp hz) ri rv fun s' I' => ?_
    have x1 : Ext ι H ι (upd H p (.dK (putK kvs' (.inr (dN f)) v))) := ext_write L hi e
    exact ⟨_, I', c ι _ _ x1 (ly_write (o' := .dic (putD (.inr f) d kvs)) (ho := .dK (putK kvs' (.inr (dN f)) v)) L hi e ⟨_, rfl, u1, u2.ext x1⟩) q⟩
  | _ => exact (show False from hw).elim

/-! ### the built-in functions -/
theorem maxI_spec : ∀ (ns : List Int), ns ≠ [] → maxI ns ∈ ns ∧ ∀ y ∈ ns, y ≤ maxI ns
  | [], h => absurd rfl h
  | [a], _ => ⟨by simp [maxI], fun y hy => by simp at hy; subst hy; exact Int.le_refl _⟩
  | a :: b :: r, _ => by
    obtain ⟨h1, h2⟩ := maxI_spec (b :: r) (by simp)
    show (if a < maxI (b :: r) then maxI (b :: r) else a) ∈ _ ∧ ∀ y ∈ _, y ≤ (if a < maxI (b :: r) then maxI (b :: r) else a)
    by_cases h : a < maxI (b :: r)
    · rw [if_pos h]
      refine ⟨List.mem_cons_of_mem _ h1, fun y hy => ?_⟩
      rcases List.mem_cons.mp hy with rfl | hy
      · omega
      · exact h2 y hy
    · rw [if_neg h]
      refine ⟨List.mem_cons_self, fun y hy => ?_⟩
      rcases List.mem_cons.mp hy with rfl | hy
      · omega
      · have := h2 y hy
        omega
theorem minI_spec : ∀ (ns : List Int), ns ≠ [] → minI ns ∈ ns ∧ ∀ y ∈ ns, minI ns ≤ y
  | [], h => absurd rfl h
  | [a], _ => ⟨by simp [minI], fun y hy => by simp at hy; subst hy; exact Int.le_refl _⟩
  | a :: b :: r, _ => by
    obtain ⟨h1, h2⟩ := minI_spec (b :: r) (by simp)
    show (if minI (b :: r) < a then minI (b :: r) else a) ∈ _ ∧ ∀ y ∈ _, (if minI (b :: r) < a then minI (b :: r) else a) ≤ y
    by_cases h : minI (b :: r) < a
    · rw [if_pos h]
      refine ⟨List.mem_cons_of_mem _ h1, fun y hy => ?_⟩
      rcases List.mem_cons.mp hy with rfl | hy
      · omega
      · exact h2 y hy
    · rw [if_neg h]
      refine ⟨List.mem_cons_self, fun y hy => ?_⟩
      rcases List.mem_cons.mp hy with rfl | hy
      · omega
      · have := h2 y hy
        omega
theorem maxI_uniq {ns : List Int} {m : Int} (h : m ∈ ns) (hm : ∀ y ∈ ns, y ≤ m) : m = maxI ns := by
  have hne : ns ≠ [] := fun z => by subst z; cases h
  obtain ⟨a, b⟩ := maxI_spec ns hne
  have := hm _ a
  have := b _ h
  omega
theorem minI_uniq {ns : List Int} {m : Int} (h : m ∈ ns) (hm : ∀ y ∈ ns, m ≤ y) : m = minI ns := by
  have hne : ns ≠ [] := fun z => by subst z; cases h
  obtain ⟨a, b⟩ := minI_spec ns hne
  have := hm _ a
  have := b _ h
  omega

/-- the value under a built-in's name -/
def Blt.val : Blt → Value
  | .len => .builtin "len" | .sum => .builtin "sum" | .max => .builtin "max" | .min => .builtin "min" | .abs => .builtin "abs" | .int => .type "int" | .str => .type "str" | .repr => .builtin "repr" | .list => .type "list" | .tuple => .type "tuple"
  | .sorted => .builtin "sorted" | .isinstance => .builtin "isinstance" | .all => .builtin "all" | .any => .builtin "any" | .bool => .type "bool"

theorem rvs1 {ι : List Addr} {H : Hp} {a : PV} {xs : List V} (r : RVs D ι H [a] xs) : ∃ x, xs = [x] ∧ RV D ι H a x := by
  obtain ⟨x, r', rfl, h, t⟩ := r
  rw [show r' = [] from t]
  exact ⟨x, rfl, h⟩
theorem rvs2 {ι : List Addr} {H : Hp} {a b : PV} {xs : List V} (r : RVs D ι H [a, b] xs) : ∃ x y, xs = [x, y] ∧ RV D ι H a x ∧ RV D ι H b y := by
  obtain ⟨x, r', rfl, h, t⟩ := r
  obtain ⟨y, rfl, h'⟩ := rvs1 t
  exact ⟨x, y, rfl, h, h'⟩
/-- a row of numbers as it lies, in a list or a tuple -/
theorem ints_seq {ι : List Addr} {H : Hp} {S : Store} (L : Ly D ι H S) {v : PV} {xs : List PV} {ns : List Int} {x : V} (h : itemsOf S v = some xs) (e : intsOf xs = some ns) (r : RV D ι H v x) : ∃ a, x = .ref a ∧ (SqL D.K H a (ns.map V.int) ∨ SqT D.K H a (ns.map V.int)) := by
  obtain ⟨a, vs, ex, q, t⟩ := seq_at L h r
  rw [ints_eq e] at t
  rw [t.ints] at q
  exact ⟨a, ex, q⟩
/-- a row of numbers as it lies -/
theorem ints_at {ι : List Addr} {H : Hp} {S : Store} (L : Ly D ι H S) {v : PV} {ns : List Int} {x : V} (h : lstOf S v = some (ns.map .int)) (r : RV D ι H v x) : ∃ a, x = .ref a ∧ SqL D.K H a (ns.map V.int) := by
  obtain ⟨a, vs, e, q, t⟩ := lst_at L h r
  rw [t.ints] at q
  exact ⟨a, e, q⟩

/-- what a value is, of data -/
theorem depth_units {A : Around} {d : PyData} (h : d.depth ≤ 64) (hu : A.units + 80 < cLine) : A.units + (d.depth + 1) < cLine := by omega

theorem blt_repr (hK : X.K = D.K) (hg : X.A.guards = some []) (hu : X.A.units + 80 < cLine) : CallR X (.builtin "repr") (rdVs D fun vs S Q => wpBlt T .repr vs S Q) := by
  intro pins s σ H xs us Q I r h
  obtain ⟨ι, S, vs, Qa, L, rv, hw, c⟩ := h
  match vs, rv, hw with
  | [a], rv, hw =>
    obtain ⟨d, h1, hw⟩ := onS_ex (show onS (datS S a) fun d => onT (shOk d) (Qa (.str (shS 0 d)) S) from hw)
    obtain ⟨hz, q⟩ := onT_ex hw
    rw [shS_eq] at q
    have h1 := datS_of h1
    unfold shOk at hz
    rw [shS_eq] at hz
    simp only [Bool.and_eq_true, decide_eq_true_eq] at hz
    obtain ⟨⟨h2, h4⟩, h5⟩ := hz
    obtain ⟨x, rfl, ra⟩ := rvs1 rv
    obtain ⟨u, rfl, ru⟩ := vals1 r
    have fin : ∀ (h' : Heap) (t : Tok) (tk : Nat), (∀ b o, s.heap.get? b = some o → h'.get? b = some o) → EP X pins σ Q (.str d.shown t) { s with heap := h', toks := tk } := fun h' t tk hk =>
      ⟨.str d.shown, H, I.kept hk, ⟨t, rfl⟩, c.here L (show RV D ι H (.str d.shown) (.str d.shown) from rfl) q⟩
    have hz : d.shown.length ≤ sizeLine := by rw [lim_eq]; exact h5
    obtain ⟨⟨as, _, hr, _, _⟩, top⟩ := dat_sh hK I L h1 ra ru h2 hz
    have obj : ∀ p, u = .ref p → wpAny (model X.prog X.w) X.A (call (.builtin "repr") [u]) (EP X pins σ Q) X.xe s := fun p e => by
      subst e
      obtain ⟨T, idr, B⟩ := top p rfl
      have hu2 := depth_units h4 hu
      exact call_repr_slot (by omega) (B.typeIs s fun _ _ e => e) B.slotRepr (B.call X.A.in1 X.xe s _ hg (by show X.A.units + 1 + d.depth < cLine; omega) (fun _ _ e => e) fun h' u tk hk => ⟨_, _, rfl, fin h' u tk hk⟩)
    cases hr with
    | none => exact P.repr_of_none (fin s.heap _ _ fun _ _ e => e)
    | bool b => exact P.repr_of_bool (fin s.heap _ _ fun _ _ e => e)
    | int i t => exact P.repr_of_int (by simpa [PyData.showable] using h2) (fin s.heap _ _ fun _ _ e => e)
    | str z t => exact P.repr_of_str (fin s.heap _ _ fun _ _ e => e) hz
    | list _ _ _ _ => exact obj _ rfl
    | tuple _ _ _ _ => exact obj _ rfl
    | dict _ _ _ _ _ => exact obj _ rfl
  | [], rv, hw => exact (show False from hw).elim
  | _ :: _ :: _, rv, hw => exact (show False from hw).elim

theorem blt_seq_len (hK : X.K = D.K) : CallR X (.builtin "len") (rdVs D fun vs S Q => wpBlt T .len vs S Q) := by
  intro pins s σ H xs us Q I r h
  obtain ⟨ι, S, vs, Qa, L, rv, hw, c⟩ := h
  have seq : ∀ (a : PV) (x : V) ys, xs = [x] → RV D ι H a x → itemsOf S a = some ys → Qa (.int (ys.length : Int)) S → wpAny (model X.prog X.w) X.A (call (.builtin "len") us) (EP X pins σ Q) X.xe s := by
    intro a x ys ex ra e q
    subst ex
    obtain ⟨p, ws, rfl, hq, t⟩ := seq_at L e ra
    refine call_len pins s σ H _ us Q I r ⟨.ref p, ys.length, rfl, ?_, c.here L (show RV D ι H (.int _) (.int _) from rfl) q⟩
    rcases hq with hq | hq
    · exact .inl ⟨ws, by rw [hK]; exact hq, t.len.symm⟩
    · exact .inr ⟨ws, by rw [hK]; exact hq, t.len.symm⟩
  match vs, rv, hw with
  | [], rv, hw => exact (show False from hw).elim
  | [a], rv, hw =>
    obtain ⟨x, rfl, ra⟩ := rvs1 rv
    have all : (onS (itemsOf S a) fun xs => Qa (.int (xs.length : Int)) S) → wpAny (model X.prog X.w) X.A (call (.builtin "len") us) (EP X pins σ Q) X.xe s := fun hw => by
      obtain ⟨zs, e, q⟩ := onS_ex hw
      exact seq _ x zs rfl ra e q
    cases a with
    | str z =>
      obtain ⟨hz, q⟩ := onT_ex (show onT (decide (z.length ≤ lim)) (Qa (.int (z.length : Int)) S) from hw)
      have hz := of_decide_eq_true hz
      cases rv_str ra
      exact call_len pins s σ H _ us Q I r ⟨.str z, z.length, rfl, ⟨by rw [lim_eq]; exact hz, rfl⟩, c.here L (show RV D ι H (.int _) (.int _) from rfl) q⟩
    | _ => exact all hw
  | _ :: _ :: _, rv, hw => exact (show False from hw).elim

theorem blt_sum (hK : X.K = D.K) (hc : X.calm = true) : CallR X (.builtin "sum") (rdVs D fun vs S Q => wpBlt T .sum vs S Q) := by
  intro pins s σ H xs us Q I r h
  obtain ⟨ι, S, vs, Qa, L, rv, hw, c⟩ := h
  match vs, rv, hw with
  | [], rv, hw => exact (show False from hw).elim
  | [a], rv, hw =>
    obtain ⟨xs, e, hw⟩ := onS_ex (show onS (itemsOf S a) fun xs => onS (intsOf xs) fun ns => Qa (.int ns.sum) S from hw)
    obtain ⟨ns, e2, q⟩ := onS_ex hw
    obtain ⟨x, rfl, ra⟩ := rvs1 rv
    obtain ⟨p, rfl, hq⟩ := ints_seq L e e2 ra
    exact cr_sumA hc pins s σ H _ us Q I r ⟨p, ns, rfl, by rw [hK]; exact hq, c.here L (show RV D ι H (.int _) (.int _) from rfl) q⟩
  | _ :: _ :: _, rv, hw => exact (show False from hw).elim

theorem blt_max (hK : X.K = D.K) (hc : X.calm = true) : CallR X (.builtin "max") (rdVs D fun vs S Q => wpBlt T .max vs S Q) := by
  intro pins s σ H xs us Q I r h
  obtain ⟨ι, S, vs, Qa, L, rv, hw, c⟩ := h
  match vs, rv, hw with
  | [], rv, hw => exact (show False from hw).elim
  | [a], rv, hw =>
    obtain ⟨xs, e, hw⟩ := onS_ex (show onS (itemsOf S a) fun xs => onS (intsOf xs) fun ns => onT (!ns.isEmpty) (Qa (.int (maxI ns)) S) from hw)
    obtain ⟨ns, e2, hw⟩ := onS_ex hw
    obtain ⟨hne, q⟩ := onT_ex hw
    have hne : ns ≠ [] := by simpa using hne
    obtain ⟨x, rfl, ra⟩ := rvs1 rv
    obtain ⟨p, rfl, hq⟩ := ints_seq L e e2 ra
    refine cr_maxA hc pins s σ H _ us Q I r ⟨p, ns, rfl, by rw [hK]; exact hq, List.length_pos_iff.mpr hne, fun m h1 h2 => ?_⟩
    rw [maxI_uniq h1 h2]
    exact c.here L (show RV D ι H (.int _) (.int _) from rfl) q
  | [a, b], rv, hw =>
    obtain ⟨x, y, rfl, ra, rb⟩ := rvs2 rv
    cases a with
    | int i =>
      cases b with
      | int j =>
        have hw : Qa (.int (if j > i then j else i)) S := hw
        cases rv_int ra; cases rv_int rb
        exact call_max2 hc pins s σ H _ us Q I r ⟨i, j, rfl, c.here L (show RV D ι H (.int _) (.int _) from rfl) hw⟩
      | _ => exact (show False from hw).elim
    | _ => exact (show False from hw).elim
  | _ :: _ :: _ :: _, rv, hw => exact (show False from hw).elim
theorem blt_min (hK : X.K = D.K) (hc : X.calm = true) : CallR X (.builtin "min") (rdVs D fun vs S Q => wpBlt T .min vs S Q) := by
  intro pins s σ H xs us Q I r h
  obtain ⟨ι, S, vs, Qa, L, rv, hw, c⟩ := h
  match vs, rv, hw with
  | [], rv, hw => exact (show False from hw).elim
  | [a], rv, hw =>
    obtain ⟨xs, e, hw⟩ := onS_ex (show onS (itemsOf S a) fun xs => onS (intsOf xs) fun ns => onT (!ns.isEmpty) (Qa (.int (minI ns)) S) from hw)
    obtain ⟨ns, e2, hw⟩ := onS_ex hw
    obtain ⟨hne, q⟩ := onT_ex hw
    have hne : ns ≠ [] := by simpa using hne
    obtain ⟨x, rfl, ra⟩ := rvs1 rv
    obtain ⟨p, rfl, hq⟩ := ints_seq L e e2 ra
    refine cr_minA hc pins s σ H _ us Q I r ⟨p, ns, rfl, by rw [hK]; exact hq, List.length_pos_iff.mpr hne, fun m h1 h2 => ?_⟩
    rw [minI_uniq h1 h2]
    exact c.here L (show RV D ι H (.int _) (.int _) from rfl) q
  | [a, b], rv, hw =>
    obtain ⟨x, y, rfl, ra, rb⟩ := rvs2 rv
    cases a with
    | int i =>
      cases b with
      | int j =>
        have hw : Qa (.int (if j < i then j else i)) S := hw
        cases rv_int ra; cases rv_int rb
        exact call_min2 hc pins s σ H _ us Q I r ⟨i, j, rfl, c.here L (show RV D ι H (.int _) (.int _) from rfl) hw⟩
      | _ => exact (show False from hw).elim
    | _ => exact (show False from hw).elim
  | _ :: _ :: _ :: _, rv, hw => exact (show False from hw).elim
theorem blt_abs : CallR X (.builtin "abs") (rdVs D fun vs S Q => wpBlt T .abs vs S Q) := by
  intro pins s σ H xs us Q I r h
  obtain ⟨ι, S, vs, Qa, L, rv, hw, c⟩ := h
  match vs, rv, hw with
  | [], rv, hw => exact (show False from hw).elim
  | [a], rv, hw =>
    obtain ⟨x, rfl, ra⟩ := rvs1 rv
    cases a with
    | int i =>
      cases rv_int ra
      exact call_abs pins s σ H _ us Q I r ⟨i, rfl, c.here L (show RV D ι H (.int _) (.int _) from rfl) hw⟩
    | _ => exact (show False from hw).elim
  | _ :: _ :: _, rv, hw => exact (show False from hw).elim
theorem blt_int : CallR X (.type "int") (rdVs D fun vs S Q => wpBlt T .int vs S Q) := by
  intro pins s σ H xs us Q I r h
  obtain ⟨ι, S, vs, Qa, L, rv, hw, c⟩ := h
  match vs, rv, hw with
  | [], rv, hw => exact (show False from hw).elim
  | [a], rv, hw =>
    obtain ⟨x, rfl, ra⟩ := rvs1 rv
    cases a with
    | int i =>
      cases rv_int ra
      exact call_int1 pins s σ H _ us Q I r (.inl ⟨i, rfl, c.here L (show RV D ι H (.int _) (.int _) from rfl) hw⟩)
    | bl k =>
      cases rv_bl ra
      exact call_int1 pins s σ H _ us Q I r (.inr ⟨k, rfl, c.here L (show RV D ι H (.int _) (.int _) from rfl) hw⟩)
    | str z =>
      cases rv_str ra
      obtain ⟨n, e, q⟩ := onS_ex (show onS (PySem.intText? z) fun n => onT (decide (z.length ≤ 640)) (Qa (.int n) S) from hw)
      obtain ⟨hl, q⟩ := onT_ex q
      exact call_int_str pins s σ H _ us Q I r ⟨z, n, rfl, e, of_decide_eq_true hl, c.here L (show RV D ι H (.int _) (.int _) from rfl) q⟩
    | _ => exact (show False from hw).elim
  | _ :: _ :: _, rv, hw => exact (show False from hw).elim
theorem blt_list (hK : X.K = D.K) : CallR X (.type "list") (rdVs D fun vs S Q => wpBlt T .list vs S Q) := by
  intro pins s σ H xs us Q I r h
  obtain ⟨ι, S, vs, Qa, L, rv, hw, c⟩ := h
  match vs, rv, hw with
  | [], rv, hw => exact (show False from hw).elim
  | [a], rv, hw =>
    obtain ⟨ys, e, q⟩ := onS_ex (show onS (itemsOf S a) fun ys => Qa (.ls ys) S from hw)
    obtain ⟨x, rfl, ra⟩ := rvs1 rv
    obtain ⟨p, ws, rfl, hq, t⟩ := seq_at L e ra
    exact any_lock (call_list_of pins s σ H _ us _ I r ⟨p, ws, rfl, by rw [hK]; exact hq, fun l hl => c.frz L hl t q⟩)
  | _ :: _ :: _, rv, hw => exact (show False from hw).elim
theorem blt_listM (hK : X.K = D.K) : CallR X (.type "list") (rdVs D fun vs S Q => one vs fun x => onS (itemsOf S x) fun xs => Q (.ref S.length) (S ++ [.lst xs])) := by
  intro pins s σ H xs us Q I r h
  obtain ⟨ι, S, vs, Qa, L, rv, hw, c⟩ := h
  match vs, rv, hw with
  | [], rv, hw => exact (show False from hw).elim
  | [a], rv, hw =>
    obtain ⟨ys, e, q⟩ := onS_ex (show onS (itemsOf S a) fun ys => Qa (.ref S.length) (S ++ [SO.lst ys]) from hw)
    obtain ⟨x, rfl, ra⟩ := rvs1 rv
    obtain ⟨p, ws, rfl, hq, t⟩ := seq_at L e ra
    exact call_list_of pins s σ H _ us Q I r ⟨p, ws, rfl, by rw [hK]; exact hq, fun l hl => c.lst L hl t q⟩
  | _ :: _ :: _, rv, hw => exact (show False from hw).elim
/-- a row of truths as it lies -/
theorem rvs_bls {ι : List Addr} {H : Hp} : ∀ {ns : List Bool} {vs : List V}, RVs D ι H (ns.map .bl) vs → vs = ns.map V.bl
  | [], _, h => h
  | n :: ns, _, h => by
    obtain ⟨v, r, rfl, a, b⟩ := h
    have a' : v = .bl n := a
    rw [a', rvs_bls b]
    rfl
theorem blt_all (hK : X.K = D.K) (hc : X.calm = true) : CallR X (.builtin "all") (rdVs D fun vs S Q => wpBlt T .all vs S Q) := by
  intro pins s σ H xs us Q I r h
  obtain ⟨ι, S, vs, Qa, L, rv, hw, c⟩ := h
  match vs, rv, hw with
  | [], rv, hw => exact (show False from hw).elim
  | [a], rv, hw =>
    obtain ⟨ys, e, hw⟩ := onS_ex (show onS (lstOf S a) fun xs => onS (blsOf xs) fun bs => Qa (.bl (bs.all id)) S from hw)
    obtain ⟨bs, e2, q⟩ := onS_ex hw
    obtain ⟨x, rfl, ra⟩ := rvs1 rv
    obtain ⟨p, vs, rfl, hq, t⟩ := lst_at L e ra
    rw [bls_eq e2] at t
    rw [rvs_bls t] at hq
    exact cr_all hc pins s σ H _ us Q I r ⟨p, bs, rfl, by rw [hK]; exact hq, c.here L (show RV D ι H (.bl _) (.bl _) from rfl) q⟩
  | _ :: _ :: _, rv, hw => exact (show False from hw).elim
theorem blt_any (hK : X.K = D.K) (hc : X.calm = true) : CallR X (.builtin "any") (rdVs D fun vs S Q => wpBlt T .any vs S Q) := by
  intro pins s σ H xs us Q I r h
  obtain ⟨ι, S, vs, Qa, L, rv, hw, c⟩ := h
  match vs, rv, hw with
  | [], rv, hw => exact (show False from hw).elim
  | [a], rv, hw =>
    obtain ⟨ys, e, hw⟩ := onS_ex (show onS (lstOf S a) fun xs => onS (blsOf xs) fun bs => Qa (.bl (bs.any id)) S from hw)
    obtain ⟨bs, e2, q⟩ := onS_ex hw
    obtain ⟨x, rfl, ra⟩ := rvs1 rv
    obtain ⟨p, vs, rfl, hq, t⟩ := lst_at L e ra
    rw [bls_eq e2] at t
    rw [rvs_bls t] at hq
    exact cr_any hc pins s σ H _ us Q I r ⟨p, bs, rfl, by rw [hK]; exact hq, c.here L (show RV D ι H (.bl _) (.bl _) from rfl) q⟩
  | _ :: _ :: _, rv, hw => exact (show False from hw).elim
theorem blt_str (hK : X.K = D.K) (hg : X.A.guards = some []) (hu : X.A.units + 80 < cLine) : CallR X (.type "str") (rdVs D fun vs S Q => wpBlt T .str vs S Q) := by
  intro pins s σ H xs us Q I r h
  obtain ⟨ι, S, vs, Qa, L, rv, hw, c⟩ := h
  match vs, rv, hw with
  | [], rv, hw => exact (show False from hw).elim
  | [a], rv, hw =>
    obtain ⟨x, rfl, ra⟩ := rvs1 rv
    cases a with
    | int i =>
      obtain ⟨hz, q⟩ := onT_ex (show onT (decide (i.natAbs.log2 < 1920)) (Qa (.str (itS 0 i)) S) from hw)
      rw [itS_eq] at q
      have hz := of_decide_eq_true hz
      cases rv_int ra
      exact call_str_int pins s σ H _ us Q I r ⟨i, rfl, hz, c.here L (show RV D ι H (.str _) (.str _) from rfl) q⟩
    | str z =>
      have ez := rv_str ra
      subst ez
      exact SkE.call_str_str pins s σ H _ us Q I r ⟨z, rfl, c.here L (show RV D ι H (.str _) (.str _) from rfl) hw⟩
    | tup ys =>
      obtain ⟨u, rfl, ru⟩ := vals1 r
      obtain ⟨d, h1, hw⟩ := onS_ex (show onS (datS S (.tup ys)) fun d => onT (shOk d && !d.hasDict) (Qa (.str (shS 0 d)) S) from hw)
      obtain ⟨hz, q⟩ := onT_ex hw
      rw [shS_eq] at q
      have h1 := datS_of h1
      unfold shOk at hz
      rw [shS_eq] at hz
      simp only [Bool.and_eq_true, decide_eq_true_eq, Bool.not_eq_true'] at hz
      obtain ⟨⟨⟨h2, h4⟩, h5⟩, h6⟩ := hz
      have hz : d.shown.length ≤ sizeLine := by rw [lim_eq]; exact h5
      obtain ⟨⟨as, _, hr, _, _⟩, top⟩ := dat_sh hK I L h1 ra ru h2 hz
      obtain ⟨p, vs, rfl, _⟩ := rv_tup ra
      obtain rfl : u = Value.ref p := ru
      exact str_of_reads hr h2 (fun e => by rw [h6] at e; cases e) hg (by omega) (fun _ _ e => e) (fun h' u tk hk => ⟨.str d.shown, H, I.kept hk, ⟨u, rfl⟩, c.here L (show RV D ι H (.str d.shown) (.str d.shown) from rfl) q⟩) hz
    | _ => exact (show False from hw).elim
  | _ :: _ :: _, rv, hw => exact (show False from hw).elim
theorem blt_tuple (hK : X.K = D.K) : CallR X (.type "tuple") (rdVs D fun vs S Q => wpBlt T .tuple vs S Q) := by
  intro pins s σ H xs us Q I r h
  obtain ⟨ι, S, vs, Qa, L, rv, hw, c⟩ := h
  match vs, rv, hw with
  | [], rv, hw => exact (show False from hw).elim
  | [a], rv, hw =>
    obtain ⟨ys, e, q⟩ := onS_ex (show onS (itemsOf S a) fun ys => Qa (.tup ys) S from hw)
    obtain ⟨x, rfl, ra⟩ := rvs1 rv
    obtain ⟨p, ws, rfl, hq, t⟩ := seq_at L e ra
    rcases hq with hq | hq
    · exact call_tuple_of pins s σ H _ us Q I r ⟨p, ws, rfl, .inl ⟨by rw [hK]; exact hq, fun l hl => c.tup L hl t q⟩⟩
    · exact call_tuple_of pins s σ H _ us Q I r ⟨p, ws, rfl, .inr ⟨by rw [hK]; exact hq, c.here L (v := .tup ys) ⟨p, ws, rfl, hq, t⟩ q⟩⟩
  | _ :: _ :: _, rv, hw => exact (show False from hw).elim

/-- a kind's type -/
def Knd.val (D : Ad) : Knd → Value
  | .ty b => .type b.nm
  | .ins c => .ref (D.ca c)
/-- a value's kind, as its type -/
theorem tyx_of (hK : X.K = D.K) {ι : List Addr} {H : Hp} {S : Store} (L : Ly D ι H S) (F : IsF D T) {v : PV} {x : V} {k : Knd} (h : knd S v = some k) (hi : ∀ c, k = .ins c → ∃ cd, T.cls[c]? = some cd) (r : RV D ι H v x) : TyX X.K H x (k.val D) := by
  have sq : ∀ {a : Addr} {vs : List V}, SqL D.K H a vs → TyX X.K H (.ref a) (.type "list") := fun {a vs} q => by
    rw [hK]
    rcases q with (q | ⟨o, q⟩) | ⟨o, its, n, q, e, _⟩
    · exact .base (.lst q)
    · exact .base (.frz q)
    · exact .kList q e
  have st : ∀ {a : Addr} {vs : List V}, SqT D.K H a vs → TyX X.K H (.ref a) (.type "tuple") := fun {a vs} q => by
    rw [hK]
    rcases q with (q | ⟨o, q⟩) | ⟨o, its, n, q, e, _⟩
    · exact .base (.tup q)
    · exact .fTuple q
    · exact .kTuple q e
  cases v with
  | non => cases h; rw [rv_non r]; exact .base .non
  | bl b => cases h; rw [rv_bl r]; exact .base (.bl b)
  | int b => cases h; rw [rv_int r]; exact .base (.int b)
  | str b => cases h; rw [rv_str r]; exact .base (.str b)
  | tup xs =>
    cases h
    obtain ⟨a, vs, rfl, q, _⟩ := rv_tup r
    exact st q
  | scr xs =>
    cases h
    obtain ⟨a, vs, rfl, q, _⟩ := rv_scr r
    exact sq q.list
  | ls xs =>
    cases h
    obtain ⟨a, vs, rfl, ⟨o, q⟩, _⟩ := rv_ls r
    exact sq (.inl (.inr ⟨o, q⟩))
  | obj c ks xs =>
    cases h
    obtain ⟨a, dx, fs', rfl, _, hp, _⟩ := rv_obj r
    obtain ⟨cd, hcd⟩ := hi c rfl
    rw [hK]
    rcases F.hn with hn | hn
    · rw [hn] at hcd; simp at hcd
    · exact .base (.ins hp (F.cl c cd hcd) (F.ha c cd hcd).1 hn.1 hn.2 (F.ha c cd hcd).2)
  | dct ks xs =>
    cases h
    obtain ⟨a, kvs', rfl, ⟨o, q⟩, _⟩ := r
    exact .fDict q
  | ref i =>
    obtain ⟨a, ha, rfl⟩ := rv_ref r
    cases e : S[i]? with
    | none => simp [knd, e] at h
    | some o =>
      cases o with
      | lst xs =>
        simp only [knd, e] at h
        cases h
        obtain ⟨a', vs, ha', hp, _⟩ := L.lst e
        rw [ha] at ha'; cases ha'
        exact .base (.lst hp)
      | dic kvs =>
        simp only [knd, e] at h
        cases h
        obtain ⟨a', kvs', ha', hp, _⟩ := L.dic e
        rw [ha] at ha'; cases ha'
        exact .base (.dK hp)
      | ins c fs =>
        simp only [knd, e] at h
        cases h
        obtain ⟨a', dx, fs', ha', hp, _⟩ := L.ins e
        rw [ha] at ha'; cases ha'
        obtain ⟨cd, hcd⟩ := hi c rfl
        rw [hK]
        rcases F.hn with hn | hn
        · rw [hn] at hcd; simp at hcd
        · exact .base (.ins hp (F.cl c cd hcd) (F.ha c cd hcd).1 hn.1 hn.2 (F.ha c cd hcd).2)
  | _ => cases h
theorem btSub_kit (K : PySem.W.Frag) : ∀ a b : BT, b ≠ .non → PySem.W.kitOne K (.type a.nm) (.type b.nm) = some (btSub a b) := by
  have h : ∀ a b : BT, b ≠ .non → kitB a.nm b.nm = some (btSub a b) := by
    intro a b
    cases a <;> cases b <;> first
      | (intro h; exact absurd rfl h)
      | (intro _; decide +kernel)
  intro a b hb
  exact kit_ty (h a b hb)
/-- what a class is, as a value -/
def clsVal (D : Ad) : PV → Option Value
  | .ty b => some (.type b.nm)
  | .cls c => some (.ref (D.ca c))
  | _ => .none
theorem isOne_kit (F : IsF D T) {k : Knd} {t : PV} {b : Bool} (h : isOne T k t = some b) : ∃ u, clsVal D t = some u ∧ PySem.W.kitOne D.K (k.val D) u = some b := by
  cases t with
  | ty n =>
    by_cases hn : n = .non
    · subst hn
      cases k <;> cases h
    · cases k with
      | ty a =>
        have h : some (btSub a n) = some b := by cases n <;> first | exact absurd rfl hn | exact h
        cases h
        exact ⟨_, rfl, btSub_kit _ a n hn⟩
      | ins c =>
        have h : ((T.cls[c]?).map fun _ => false) = some b := by cases n <;> first | exact absurd rfl hn | exact h
        cases e : T.cls[c]? with
        | none => rw [e] at h; cases h
        | some cd =>
          rw [e] at h
          cases h
          exact ⟨_, rfl, F.bi c cd n e hn⟩
  | cls d =>
    cases k with
    | ty a =>
      have h : ((T.cls[d]?).map fun _ => false) = some b := h
      cases e : T.cls[d]? with
      | none => rw [e] at h; cases h
      | some cd =>
        rw [e] at h
        cases h
        exact ⟨_, rfl, F.ib d a (by rw [e]; rfl)⟩
    | ins c =>
      have h : ((T.cls[c]?).bind fun cd => (T.cls[d]?).map fun _ => cd.up.contains d) = some b := h
      cases e : T.cls[c]? with
      | none => rw [e] at h; cases h
      | some cd =>
        cases e2 : T.cls[d]? with
        | none => rw [e, e2] at h; cases h
        | some cd2 =>
          rw [e, e2] at h
          cases h
          exact ⟨_, rfl, F.ii c d cd e (by rw [e2]; rfl)⟩
  | _ => cases k <;> cases h
theorem clsVal_rel {ι : List Addr} {H : Hp} {t : PV} {x : V} {u u2 : Value} (e : clsVal D t = some u) (r : RV D ι H t x) (ru : RelV x u2) : u2 = u := by
  cases t with
  | ty n =>
    cases e
    obtain rfl : x = .ty n.nm := r
    exact ru
  | cls c =>
    cases e
    obtain rfl : x = .ref (D.ca c) := r
    exact ru
  | _ => cases e
theorem isAny_kit (F : IsF D T) {k : Knd} {ι : List Addr} {H : Hp} : ∀ {ts : List PV} {xs : List V} {us : List Value} {b : Bool}, isAny T k ts = some b → RVs D ι H ts xs → Vals xs us → PySem.W.kitAny D.K (k.val D) us = some b
  | [], xs, us, b, h, r, ru => by
    rw [show xs = [] from r] at ru
    cases ru
    exact h
  | t :: ts, xs, us, b, h, r, ru => by
    obtain ⟨x, xs', rfl, r1, r2⟩ := r
    cases ru with
    | cons ru1 ru2 =>
      cases e : isOne T k t with
      | none => simp [isAny, e] at h
      | some b1 =>
        obtain ⟨u, e1, e2⟩ := isOne_kit F e
        obtain rfl := clsVal_rel e1 r1 ru1
        refine kitAny_cons e2 (fun z => ?_) fun z => ?_
        · subst z
          simp only [isAny, e] at h
          exact isAny_kit F h r2 ru2
        · subst z
          simp only [isAny, e] at h
          cases h
          rfl
theorem knd_cls {S : Store} {v : PV} {k : Knd} {t : PV} {b : Bool} (h : isOne T k t = some b) : ∀ c, k = .ins c → ∃ cd, T.cls[c]? = some cd := by
  rintro c rfl
  cases e : T.cls[c]? with
  | some cd => exact ⟨cd, rfl⟩
  | none =>
    cases t with
    | ty n => cases n <;> simp [isOne, e] at h
    | cls d => simp [isOne, e] at h
    | _ => cases h
theorem blt_isinst (hK : X.K = D.K) (F : IsF D T) : CallR X (.builtin "isinstance") (rdVs D fun vs S Q => wpBlt T .isinstance vs S Q) := by
  intro pins s σ H xs us Q I r h
  obtain ⟨ι, S, vs, Qa, L, rv, hw, c⟩ := h
  match vs, rv, hw with
  | [], rv, hw => exact (show False from hw).elim
  | [a], rv, hw => exact (show False from hw).elim
  | [a, t], rv, hw =>
    obtain ⟨b, e, q⟩ := onS_ex (show onS (isInst T S a t) fun b => Qa (.bl b) S from hw)
    obtain ⟨x, y, rfl, ra, rt⟩ := rvs2 rv
    obtain ⟨u1, u2, rfl, ru1, ru2⟩ := vals2 r
    have fin : ∀ tk, EP X pins σ Q (.bool b) { s with toks := tk } := fun tk => ⟨.bl b, H, I.tok tk, rfl, c.here L (show RV D ι H (.bl b) (.bl b) from rfl) q⟩
    cases ek : knd S a with
    | none => simp [isInst, ek] at e
    | some k =>
      by_cases ht : ∃ t1 tr, t = .tup (t1 :: tr)
      · obtain ⟨t1, tr, rfl⟩ := ht
        have e : isAny T k (t1 :: tr) = some b := by simpa [isInst, ek] using e
        obtain ⟨p, ws, rfl, hq, tt⟩ := rv_tup rt
        cases (show u2 = Value.ref p from ru2)
        obtain ⟨its, rits, ht, _⟩ := I.tuple (by rw [hK]; exact hq)
        obtain ⟨⟨oc, od, dt, sl⟩, h1, h2, n, h3⟩ := ht
        simp only at h2 h3
        subst h2 h3
        have hi : ∀ c, k = .ins c → ∃ cd, T.cls[c]? = some cd := by
          cases e1 : isOne T k t1 with
          | none => simp [isAny, e1] at e
          | some b1 => exact knd_cls (S := S) (v := a) e1
        obtain ⟨P, Z, pz, hx⟩ := kit_of I ru1 (tyx_of hK L F ek hi ra)
        exact PySem.W.kia_tup Z I.kIn pz h1 (by rw [hK]; exact isAny_kit F e tt rits) hx fin
      · have e : isOne T k t = some b := by
          cases t with
          | tup ts =>
            cases ts with
            | nil => simpa [isInst, ek] using e
            | cons t1 tr => exact absurd ⟨t1, tr, rfl⟩ ht
          | _ => simpa [isInst, ek] using e
        obtain ⟨P, Z, pz, hx⟩ := kit_of I ru1 (tyx_of hK L F ek (knd_cls (S := S) (v := a) e) ra)
        obtain ⟨w, e1, e2⟩ := isOne_kit F e
        obtain rfl := clsVal_rel e1 rt ru2
        exact PySem.W.kia_one Z I.kIn pz (by rw [hK]; exact e2) hx fin
  | _ :: _ :: _ :: _, rv, hw => exact (show False from hw).elim
/-- every built-in that is called without keywords -/
theorem blt_G (hK : X.K = D.K) (hc : X.calm = true) (hg : X.A.guards = some []) (hu : X.A.units + 80 < cLine) (F : IsF D T) (b : Blt) : CallR X b.val (rdVs D fun vs S Q => wpBlt T b vs S Q) := by
  cases b with
  | len => exact blt_seq_len hK
  | sum => exact blt_sum hK hc
  | max => exact blt_max hK hc
  | min => exact blt_min hK hc
  | abs => exact blt_abs
  | int => exact blt_int
  | repr => exact blt_repr hK hg hu
  | list => exact blt_list hK
  | tuple => exact blt_tuple hK
  | isinstance => exact blt_isinst hK F
  | str => exact blt_str hK hg hu
  | all => exact blt_all hK hc
  | any => exact blt_any hK hc
  | _ =>
    intro pins s σ H xs us Q I r h
    obtain ⟨ι, S, vs, Qa, L, rv, hw, c⟩ := h
    exact (show False from hw).elim
end
end Rp
/-! # The look that holds a text's tree against a resolved one -/
namespace Rp
open PySem PySem.Spec PyProof.Rows L2

mutual
def PV.eqb : PV → PV → Bool
  | .non, .non => true
  | .bl a, .bl b => a == b
  | .int a, .int b => a == b
  | .str a, .str b => a == b
  | .tup a, .tup b => PV.eqbs a b
  | .scr a, .scr b => PV.eqbs a b
  | .ref a, .ref b => a == b
  | .fn a, .fn b => a == b
  | .cls a, .cls b => a == b
  | .ty a, .ty b => a == b
  | .ls a, .ls b => PV.eqbs a b
  | .obj c ks a, .obj d js b => c == d && ks == js && PV.eqbs a b
  | .dct ks a, .dct js b => decide (ks = js) && PV.eqbs a b
  | _, _ => false
def PV.eqbs : List PV → List PV → Bool
  | [], [] => true
  | x :: xs, y :: ys => PV.eqb x y && PV.eqbs xs ys
  | _, _ => false
end
mutual
theorem PV.eqb_eq : ∀ {a b : PV}, PV.eqb a b = true → a = b
  | .non, b, h => by cases b <;> first | rfl | cases h
  | .bl a, b, h => by cases b <;> first | (rw [eq_of_beq (show (a == _) = true from h)]) | cases h
  | .int a, b, h => by cases b <;> first | (rw [eq_of_beq (show (a == _) = true from h)]) | cases h
  | .str a, b, h => by cases b <;> first | (rw [eq_of_beq (show (a == _) = true from h)]) | cases h
  | .tup a, b, h => by cases b <;> first | (rw [PV.eqbs_eq (show PV.eqbs a _ = true from h)]) | cases h
  | .scr a, b, h => by cases b <;> first | (rw [PV.eqbs_eq (show PV.eqbs a _ = true from h)]) | cases h
  | .ref a, b, h => by cases b <;> first | (rw [eq_of_beq (show (a == _) = true from h)]) | cases h
  | .fn a, b, h => by cases b <;> first | (rw [eq_of_beq (show (a == _) = true from h)]) | cases h
  | .cls a, b, h => by cases b <;> first | (rw [eq_of_beq (show (a == _) = true from h)]) | cases h
  | .ty a, b, h => by cases b <;> first | (rw [eq_of_beq (show (a == _) = true from h)]) | cases h
  | .ls a, b, h => by cases b <;> first | (rw [PV.eqbs_eq (show PV.eqbs a _ = true from h)]) | cases h
  | .obj c ks a, b, h => by
    cases b with
    | obj d js b =>
      have h' : (c == d && ks == js && PV.eqbs a b) = true := h
      simp only [Bool.and_eq_true] at h'
      rw [eq_of_beq h'.1.1, eq_of_beq h'.1.2, PV.eqbs_eq h'.2]
    | _ => cases h
  | .dct ks a, b, h => by
    cases b with
    | dct js b =>
      have h' : (decide (ks = js) && PV.eqbs a b) = true := h
      rw [Bool.and_eq_true] at h'
      rw [of_decide_eq_true h'.1, PV.eqbs_eq h'.2]
    | _ => cases h
theorem PV.eqbs_eq : ∀ {a b : List PV}, PV.eqbs a b = true → a = b
  | [], b, h => by cases b <;> first | rfl | cases h
  | x :: xs, b, h => by
    cases b with
    | nil => cases h
    | cons y ys =>
      have h' : (PV.eqb x y && PV.eqbs xs ys) = true := h
      rw [Bool.and_eq_true] at h'
      rw [PV.eqb_eq h'.1, PV.eqbs_eq h'.2]
end
def arrB : List (Nat ⊕ PV) → List (Nat ⊕ PV) → Bool
  | [], [] => true
  | .inl i :: r, .inl j :: s => i == j && arrB r s
  | .inr v :: r, .inr w :: s => PV.eqb v w && arrB r s
  | _, _ => false
theorem arrB_eq : ∀ {a b : List (Nat ⊕ PV)}, arrB a b = true → a = b
  | [], [], _ => rfl
  | [], _ :: _, h => by cases h
  | .inl i :: r, [], h => by cases h
  | .inr i :: r, [], h => by cases h
  | .inl i :: r, .inl j :: s, h => by
    have h' : (i == j && arrB r s) = true := h
    rw [Bool.and_eq_true] at h'
    rw [eq_of_beq h'.1, arrB_eq h'.2]
  | .inr v :: r, .inr w :: s, h => by
    have h' : (PV.eqb v w && arrB r s) = true := h
    rw [Bool.and_eq_true] at h'
    rw [PV.eqb_eq h'.1, arrB_eq h'.2]
  | .inl i :: r, .inr j :: s, h => by cases h
  | .inr i :: r, .inl j :: s, h => by cases h

/-- one way in which a def is called: how many are written by place, the names of the others, how the parameters (but a method's own first one) are filled -/
structure Shape where
  f : Nat
  m : Bool
  np : Nat
  ks : List String
  arr : List (Nat ⊕ PV)
/-- the names of a text's top -/
structure Nm where
  gf : List (String × Nat)
  gc : List (String × Nat)
  /-- the classes of errors -/
  gx : List (String × Nat)
  gv : List (String × PV)
  nb : List String
  fl : List Nat
  shapes : List Shape
def Shape.is (s : Shape) (f : Nat) (m : Bool) (np : Nat) (ks : List String) (arr : List (Nat ⊕ PV)) : Bool := s.f == f && s.m == m && s.np == np && s.ks == ks && arrB s.arr arr
def Nm.has (M : Nm) (f : Nat) (m : Bool) (np : Nat) (ks : List String) (arr : List (Nat ⊕ PV)) : Bool := M.shapes.any fun s => s.is f m np ks arr
theorem Nm.has_mem {M : Nm} {f : Nat} {m : Bool} {np : Nat} {ks : List String} {arr : List (Nat ⊕ PV)} (h : M.has f m np ks arr = true) : (⟨f, m, np, ks, arr⟩ : Shape) ∈ M.shapes := by
  obtain ⟨s, hs, e⟩ := List.any_eq_true.mp h
  unfold Shape.is at e
  simp only [Bool.and_eq_true, beq_iff_eq] at e
  obtain ⟨⟨⟨⟨e1, e2⟩, e3⟩, e4⟩, e5⟩ := e
  have e5 := arrB_eq e5
  obtain ⟨f', m', np', ks', arr'⟩ := s
  simp only at e1 e2 e3 e4 e5
  subst e1 e2 e3 e4 e5
  exact hs

/-- where a tree stands: the places of the names, the scope, whether every cell is the def's own -/
structure Sc where
  N : List Str
  sc : Scope
  all : Bool
def Sc.vis (c : Sc) (x : Str) : Bool := match c.sc.names.lookup x with
  | some .local => true
  | some .cell => true
  | some .free => true
  | _ => false
def Sc.gl (c : Sc) (x : Str) : Bool := match c.sc.names.lookup x with
  | some .globalImplicit => true
  | _ => false
def Sc.lcl (c : Sc) (x : Str) : Bool := match c.sc.names.lookup x with
  | some .local => true
  | _ => false
/-- a name that may be stored -/
def Sc.put (c : Sc) (x : Str) : Bool := match c.sc.names.lookup x with
  | some .local => true
  | some .cell => c.all
  | _ => false
def strB (a b : Str) : Bool := decide (a = b)
/-- a written part of a text put together -/
def okTx (r : RE) (k : Const) : Bool :=
  match r, k with
  | .const (.str z), .str x => strB z x
  | _, _ => false
theorem okTx_eq {r : RE} {k : Const} (h : okTx r k = true) : ∃ z, r = .const (.str z) ∧ k = .str z := by
  unfold okTx at h
  split at h
  · rename_i z x
    exact ⟨z, rfl, by rw [show z = x from of_decide_eq_true h]⟩
  · cases h
def okName (c : Sc) (i : Nat) (x : Str) : Bool := decide (c.N[i]? = some x) && c.vis x && !(x == ("__debug__" : Str)) && !(x == ("__classdict__" : Str))
def okPut (c : Sc) (i : Nat) (x : Str) : Bool := decide (c.N[i]? = some x) && c.put x
def okGl (c : Sc) (s : String) (x : Str) : Bool := strB (sN s) x && c.gl x && !(x == ("__debug__" : Str)) && !(x == ("__name__" : Str))
def okConst : PV → Const → Bool
  | .non, .none => true
  | .bl a, .bool b => a == b
  | .int a, .int b => a == b
  | .str a, .str b => strB a b
  | _, _ => false
def noStar : List Expr → Bool
  | [] => true
  | .Starred .. :: _ => false
  | _ :: r => noStar r
def notSuper : Expr → Bool
  | .Call (.Name x _) [] [] _ => !(x == ("super" : Str))
  | _ => true
def isSlice : Expr → Bool
  | .Slice .. => true
  | _ => false
/-- a walk over a set display would be folded -/
def noSet : Expr → Bool
  | .Set .. => false
  | _ => true
def namesOf : List Keyword → List (Option Str)
  | [] => []
  | ⟨n, _, _⟩ :: r => n :: namesOf r

def REs.len : REs → Nat
  | .nil => 0
  | .cons _ r => r.len + 1

def relSc (c : Sc) (scope : Scope) : Sc := ⟨c.N, relS scope c.sc, false⟩
/-- a comprehension's own names, by their places -/
def ownOf (N : List Str) : List Nat → List (Str × Nat)
  | [] => []
  | i :: r => (N.getD i default, i) :: ownOf N r

mutual
/-- all the names of a target are among these places -/
def tgIn : RT → List Nat → Bool
  | .name i, vs => vs.contains i
  | .tup ts, vs => tgsIn ts vs
  | .sub .., _ => true
  | .subK .., _ => true
  | .fld .., _ => true
def tgsIn : RTs → List Nat → Bool
  | .nil, _ => true
  | .cons t ts, vs => tgIn t vs && tgsIn ts vs
  | .star i, vs => vs.contains i
end
/-- names, the last one starred -/
def okStar (c : Sc) : RTs → List Expr → Bool
  | .cons (.name i) ts, .Name x _ :: es => okPut c i x && okStar c ts es
  | .star j, [.Starred (.Name y _) _] => okPut c j y
  | _, _ => false
/-- what may be called: a name, an item, a call -/
def isCallee : Expr → Bool
  | .Name .. => true
  | .Subscript .. => true
  | .Call .. => true
  | _ => false
/-- a subscript that is a written text -/
def isKey (f : Nat) : Expr → Bool
  | .Constant (.str x) _ _ => strB (dN f) x
  | _ => false
def noStarT : List Expr → Bool
  | [] => true
  | .Starred .. :: _ => false
  | _ :: r => noStarT r
/-- no comprehension -/
def noComp : Expr → Bool
  | .ListComp .. => false
  | .SetComp .. => false
  | .DictComp .. => false
  | _ => true
def isNm : Expr → Bool
  | .Name .. => true
  | _ => false
/-- the value is not stored within its making -/
def noSwap (t e : Expr) : Bool := noComp e || !isNm t
/-- a name that is no local of the block (a cell) -/
def notLcl (sc : Scope) : Expr → Bool
  | .Name x _ => !(sc.names.lookup x == some .local)
  | _ => false
/-- the stores are not exchanged -/
def swapNames (sc : Scope) (ts : List Expr) : List Str := ts.filterMap fun
  | .Name id pos => if sc.names.lookup id == some .local && pos.line == (ts.head?.map (·.pos.line)).getD 0 then some id else none
  | _ => none
def noExch (sc : Scope) (t e : Expr) : Bool := match t, e with
  | .Tuple ts _ _, .Tuple vs _ _ => !(ts.length == 2 || ts.length == 3) || vs.all (foldedForSure 8) || (swapNames sc ts).length != ts.length
  | .List _ _, .Tuple _ _ _ => false
  | _, _ => true
def parB (c : Sc) (x y : Str) (px py : Pos) (vs : List Expr) : Bool :=
  c.lcl x && c.lcl y && (py.line == px.line) && !(x == y) && noStar vs && !(vs.all (foldedForSure 8)) && !(vs.all (constantsAlone 8))
def isTup : Expr → Bool
  | .Tuple .. => true
  | _ => false
def parB3 (c : Sc) (x y z : Str) (px py pz : Pos) (vs : List Expr) : Bool :=
  c.lcl x && c.lcl y && c.lcl z && (py.line == px.line) && (pz.line == px.line) && !(x == y) && !(x == z) && !(y == z) && noStar vs && !(vs.all (foldedForSure 8)) && !(vs.all (constantsAlone 8))
/-- pairs are handed to a tuple of targets -/
def tupIt : RI → Expr → Bool
  | .enum _ _, t => isTup t
  | .zip .., t => isTup t
  | _, _ => true

def isYes : Expr → Bool
  | .Constant (.bool true) _ _ => true
  | _ => false
def zipKw : Bool → List Keyword → Bool
  | false, ks => ks.isEmpty
  | true, [⟨k, v, _⟩] => decide (k = some (sN "strict")) && isYes v
  | true, _ => false
/-- enumerate's start -/
def enumKw (c : Int) : List Keyword → Bool
  | [] => decide (c = 0)
  | [⟨k, .Constant (.int i) _ _, _⟩] => decide (k = some (sN "start")) && decide (i = c) && decide (-1000000 ≤ c) && decide (c ≤ 1000000)
  | _ => false
def stepOk (st : Int) : Expr → Bool
  | .Constant (.int k) _ _ => decide (k = st) && decide (k ≠ 0)
  | .UnaryOp .USub (.Constant (.int k) _ _) _ => decide (-k = st) && decide (k ≠ 0)
  | _ => false
/-- range's one argument -/
def rngArg : Expr → Option (Str × Expr)
  | .Call (.Name y _) [e] [] _ => some (y, e)
  | _ => .none
/-- the written keys of a display -/
def okKey (M : Nm) (c : Sc) (k : DK) (e : Expr) : Bool := match k, e with
  | .inr n, .Constant (.str x) _ _ => strB (dN n) x
  | .inl i, .Constant (.int j) _ _ => decide (i = j)
  | .inl i, .Name x _ => M.gv.any fun p => okGl c p.1 x && PV.eqb p.2 (.int i)
  | _, _ => false
def okDk (M : Nm) (c : Sc) : List DK → List (Option Expr) → Bool
  | [], [] => true
  | k :: ks, some e :: r => okKey M c k e && okDk M c ks r
  | _, _ => false
mutual
def okE (M : Nm) (T : Tab) : Sc → RE → Expr → Bool
  | c, .loc i, .Name x _ => okName c i x
  | c, .const v, .Constant k _ _ => okConst v k
  | c, .glob s v, .Name x _ => okGl c s x && M.gv.any fun p => p.1 == s && PV.eqb p.2 v
  | c, .bin op a b, .BinOp l o r _ => decide (o = op) && okE M T c a l && okE M T c b r
  | c, .neg a, .UnaryOp .USub e _ => okE M T c a e
  | c, .cmp op a b, .Compare l [o] [r] _ => decide (o = op) && !behindInMarks op r && okE M T c a l && okE M T c b r
  | c, .chain op op' a b d, .Compare l [o, o'] [r, t] _ => decide (o = op) && decide (o' = op') && !lastMarks [op, op'] [r, t] && okE M T c a l && okE M T c b r && okE M T c d t
  | c, .and es, .BoolOp .And vs _ => okEs M T c es vs
  | c, .or es, .BoolOp .Or vs _ => okEs M T c es vs
  | c, .not a, .UnaryOp .Not e _ => okE M T c a e
  | c, .ite d a b, .IfExp t x y _ => okE M T c d t && okE M T c a x && okE M T c b y
  | c, .tup es, .Tuple vs _ _ => okEs M T c es vs && noStar vs && decide (vs.length ≤ 1000)
  | c, .lst _ es, .List vs _ => okEs M T c es vs && noStar vs && decide (vs.length ≤ 1000)
  | c, .fstr es, .JoinedStr vs _ => okFs M T c es vs && decide (2 ≤ vs.length)
  | c, .dic ks es, .Dict keys vs _ => okDk M c ks keys && okEs M T c es vs && decide (keys.length = vs.length) && decide (keys.length ≤ 15)
  | c, .dicF ks es, .Dict keys vs _ => okDk M c ks keys && okEs M T c es vs && decide (keys.length = vs.length) && decide (keys.length ≤ 15)
  | c, .callE f es, .Call fe as [] _ => isCallee fe && okE M T c f fe && okEs M T c es as && noStar as
  | c, .call f s es ks kes arr, .Call (.Name x _) as kws _ => okGl c s x && M.gf.any (fun p => p.1 == s && p.2 == f) && okEs M T c es as && noStar as && okKs M T c kes kws && decide (namesOf kws = ks.map fun k => some (sN k)) && (kws.isEmpty || !as.isEmpty) && M.has f false as.length ks arr
  | c, .make d s es ks kes arr, .Call (.Name x _) as kws _ => okGl c s x && M.gc.any (fun p => p.1 == s && p.2 == d) && okEs M T c es as && noStar as && okKs M T c kes kws && decide (namesOf kws = ks.map fun k => some (sN k)) && (kws.isEmpty || !as.isEmpty) &&
      (match (T.cls[d]?).bind (·.ini) with
        | some f => M.has f true as.length ks arr
        | .none => false)
  | c, .mko d s es ks kes arr _, .Call (.Name x _) as kws _ => okGl c s x && M.gc.any (fun p => p.1 == s && p.2 == d) && okEs M T c es as && noStar as && okKs M T c kes kws && decide (namesOf kws = ks.map fun k => some (sN k)) && (kws.isEmpty || !as.isEmpty) &&
      (match (T.cls[d]?).bind (·.ini) with
        | some f => M.has f true as.length ks arr
        | .none => false)
  | c, .listM es, .Call (.Name x _) as [] _ => okGl c "list" x && M.nb.any (· == "list") && okEs M T c es as && noStar as && !as.isEmpty
  | _, .dead, _ => true
  | c, .blt b es, .Call (.Name x _) as [] _ => okGl c b.nm x && M.nb.any (· == b.nm) && okEs M T c es as && noStar as && !as.isEmpty
  | c, .bltK b es ks kes, .Call (.Name x _) as kws _ => decide (b = .max) && okGl c b.nm x && M.nb.any (· == b.nm) && okEs M T c es as && noStar as && !as.isEmpty && okKs M T c kes kws && decide (namesOf kws = ks.map fun k => some (sN k))
  | c, .meth o m b es ks kes arr, .Call (.Attribute e x apos) as kws pos => strB (dN m) x && notSuper e && (apos.endLine == pos.line) && okE M T c o e && okEs M T c es as && noStar as && okKs M T c kes kws && decide (namesOf kws = ks.map fun k => some (sN k)) && (kws.isEmpty || !as.isEmpty) &&
      decide (as.length + kws.length < 20) && (T.cls.all fun d => match d.ms.lookup m with
        | some f => M.has f true as.length ks arr
        | .none => true) && (match b with
        | some b' => b'.nm == m && kws.isEmpty
        | .none => true)
  | c, .fld o f, .Attribute e x _ => strB (dN f) x && notSuper e && M.fl.contains f && okE M T c o e
  | c, .sub o i, .Subscript e k _ => !isSlice k && okE M T c o e && okE M T c i k
  | c, .subK o f, .Subscript e k _ => isKey f k && okE M T c o e
  | c, .subI o i, .Subscript e k _ => !isSlice k && okE M T c o e && okE M T c i k
  | c, .slice o lo hi, .Subscript e (.Slice l h .none _) _ => okE M T c o e && okO M T c lo l && okO M T c hi h
  | c, .rev _ o, .Subscript e (.Slice .none .none (some (.UnaryOp .USub (.Constant (.int k) _ _) _)) _) _ => k == 1 && okE M T c o e
  | c, .step o st, .Subscript e (.Slice .none .none (some k) _) _ => stepOk st k && okE M T c o e
  | c, .eqO neg a b, .Compare l [o] [r] _ => decide (o = if neg = true then .NotEq else .Eq) && !behindInMarks o r && okE M T c a l && okE M T c b r && T.cls.all fun d => match d.ms.lookup nEq with
    | some f => M.has f true 1 [] [.inl 0]
    | .none => true
  | c, .split _ a b, .Call (.Attribute e x apos) [r] [] pos => decide (x = ("split" : Str)) && notSuper e && (apos.endLine == pos.line) && noStar [r] && okE M T c a e && okE M T c b r
  | c, .subT o i, .Subscript e k _ => !isSlice k && okE M T c o e && okE M T c i k
  | c, .inT a b, .Compare l [o] [r] _ => decide (o = .In) && !behindInMarks o r && okE M T c a l && okE M T c b r
  | c, .join a b, .Call (.Attribute e x apos) [r] [] pos => decide (x = ("join" : Str)) && notSuper e && (apos.endLine == pos.line) && noStar [r] && okE M T c a e && okE M T c b r
  | c, .eqP a b, .Compare l [o] [r] _ => decide (o = .Eq) && !behindInMarks o r && okE M T c a l && okE M T c b r && T.cls.all fun d => match d.ms.lookup nEq with
    | some f => M.has f true 1 [] [.inl 0]
    | .none => true
  | c, .eqE neg a b, .Compare l [o] [r] _ => decide (o = if neg = true then .NotEq else .Eq) && !behindInMarks o r && okE M T c a l && okE M T c b r
  | c, .inO neg a b, .Compare l [o] [r] _ => decide (o = if neg = true then .NotIn else .In) && !behindInMarks o r && okE M T c a l && okE M T c b r && T.cls.all fun d => match d.ms.lookup nEq with
    | some f => M.has f true 1 [] [.inl 0]
    | .none => true
  | c, .lenR a, .Call (.Name x _) [r] [] _ => okGl c "len" x && M.nb.any (· == "len") && M.nb.any (· == "range") && (match rngArg r with
    | some (y, e) => okGl c "range" y && okE M T c a e && noStar [e]
    | .none => false)
  | c, .srt _ a, .Call (.Name x _) [r] [] _ => okGl c "sorted" x && M.nb.any (· == "sorted") && okE M T c a r && noStar [r]
  | c, .srtSet _ a, .Call (.Name x _) [r] [] _ => okGl c "sorted" x && M.nb.any (· == "sorted") && M.nb.any (· == "set") && (match rngArg r with
    | some (y, e) => okGl c "set" y && okE M T c a e && noStar [e]
    | .none => false)
  | c, .lstR _ a, .Call (.Name x _) [r] [] _ => okGl c "list" x && M.nb.any (· == "list") && M.nb.any (· == "range") && (match rngArg r with
    | some (y, e) => okGl c "range" y && okE M T c a e && noStar [e]
    | .none => false)
  | c, .fmtR a, .FormattedValue e cv .none _ => decide (cv = 114) && okE M T c a e
  | c, .fOwn a, .JoinedStr [.FormattedValue e cv .none _] _ => decide (cv = -1) && okE M T c a e && T.cls.all fun d => match d.ms.lookup nStr with
    | some f => M.has f true 0 [] []
    | .none => true
  | c, .bltO b a, .Call (.Name x _) [e] [] _ => okGl c b.nm x && M.nb.any (· == b.nm) && okE M T c a e && noStar [e] && ((decide (b = .len) && T.cls.all fun d => match d.ms.lookup nLen with
    | some f => M.has f true 0 [] []
    | .none => true) || (decide (b = .str) && T.cls.all fun d => match d.ms.lookup nStr with
    | some f => M.has f true 0 [] []
    | .none => true) || (decide (b = .repr) && T.cls.all fun d => match d.ms.lookup nRepr with
    | some f => M.has f true 0 [] []
    | .none => true))
  | c, .gty n, .Name x _ => okGl c n.nm x && decide (n ≠ .non) && M.nb.any (· == n.nm)
  | c, .lc _ elt tg it ifs own, .ListComp e [⟨t, i, fs, z⟩] scope _ => z == 0 && blkC c.N c.sc scope (ownOf c.N own) && tgIn tg own && tupIt it t && noSet i && okI M T c it i && okT M T (relSc c scope) tg t && okEs M T (relSc c scope) ifs fs && okE M T (relSc c scope) elt e
  | _, _, _ => false
def okEs (M : Nm) (T : Tab) : Sc → REs → List Expr → Bool
  | _, .nil, [] => true
  | c, .cons r rs, e :: es => okE M T c r e && okEs M T c rs es
  | _, _, _ => false
def okFs (M : Nm) (T : Tab) : Sc → REs → List Expr → Bool
  | _, .nil, [] => true
  | c, .cons r rs, .FormattedValue e cv .none p :: es => ((decide (cv = -1) && okE M T c r e) || okE M T c r (.FormattedValue e cv .none p)) && okFs M T c rs es
  | c, .cons r rs, .Constant k _ _ :: es => okTx r k && okFs M T c rs es
  | _, _, _ => false
def okKs (M : Nm) (T : Tab) : Sc → REs → List Keyword → Bool
  | _, .nil, [] => true
  | c, .cons r rs, ⟨_, e, _⟩ :: es => okE M T c r e && okKs M T c rs es
  | _, _, _ => false
def okO (M : Nm) (T : Tab) : Sc → RO → Option Expr → Bool
  | _, .none, .none => true
  | c, .some r, .some e => okE M T c r e
  | _, _, _ => false
def okI (M : Nm) (T : Tab) : Sc → RI → Expr → Bool
  | c, .val r, e => okE M T c r e
  | c, .txt r, e => okE M T c r e
  | c, .range es, .Call (.Name x _) as [] _ => okGl c "range" x && M.nb.any (· == "range") && okEs M T c es as && noStar as && (as.length == 1 || as.length == 2)
  | c, .enum r k, .Call (.Name x _) [a] kws _ => okGl c "enumerate" x && M.nb.any (· == "enumerate") && okE M T c r a && noStar [a] && enumKw k kws
  | c, .zip r r' st, .Call (.Name x _) [a, b] kws _ => okGl c "zip" x && M.nb.any (· == "zip") && okE M T c r a && okE M T c r' b && noStar [a, b] && zipKw st kws
  | _, _, _ => false
def okT (M : Nm) (T : Tab) : Sc → RT → Expr → Bool
  | c, .name i, .Name x _ => okPut c i x
  | c, .tup ts, .Tuple es _ _ => (okTs M T c ts es && noStarT es) || (okStar c ts es && decide (es.length ≤ 100))
  | c, .sub o i, .Subscript e k _ => !isSlice k && okE M T c o e && okE M T c i k
  | c, .subK o f, .Subscript e k _ => isKey f k && okE M T c o e
  | c, .fld o f, .Attribute e x _ => strB (dN f) x && M.fl.contains f && okE M T c o e
  | _, _, _ => false
def okTs (M : Nm) (T : Tab) : Sc → RTs → List Expr → Bool
  | _, .nil, [] => true
  | c, .cons t ts, e :: es => okT M T c t e && okTs M T c ts es
  | _, _, _ => false
end

def parS (c : Sc) (is : List Nat) (t v : Expr) : Bool := match is, t, v with
  | [i, j], .Tuple [.Name x px, .Name y py] _ _, .Tuple [a, b] _ _ => decide (c.N[i]? = some x) && decide (c.N[j]? = some y) && !(i == j) && parB c x y px py [a, b]
  | [i, j, l], .Tuple [.Name x px, .Name y py, .Name z pz] _ _, .Tuple [a, b, d] _ _ => decide (c.N[i]? = some x) && decide (c.N[j]? = some y) && decide (c.N[l]? = some z) && !(i == j) && !(i == l) && !(j == l) && parB3 c x y z px py pz [a, b, d]
  | _, _, _ => false
def tupOf : Expr → List Expr
  | .Tuple vs _ _ => vs
  | _ => []

/-! ### an except clause; n is the error's name -/
def okTg (M : Nm) (c : Sc) (p : String × (Nat ⊕ String)) : Expr → Bool
  | .Name z _ => okGl c p.1 z && (match p.2 with
    | .inl d => M.gx.any fun q => q.1 == p.1 && q.2 == d
    | .inr b => b == p.1 && M.nb.any (· == b))
  | _ => false
def okTgs (M : Nm) (c : Sc) : List (String × (Nat ⊕ String)) → List Expr → Bool
  | [], [] => true
  | p :: ps, e :: es => okTg M c p e && okTgs M c ps es
  | _, _ => false
def nmE : Expr → Option Str
  | .Name y _ => some y
  | _ => none
def tupE : Expr → Option (List Expr)
  | .Tuple ts _ _ => some ts
  | _ => none
def okIs (M : Nm) (c : Sc) (n : Str) (one : Bool) (ps : List (String × (Nat ⊕ String))) (g : Expr) (as : List Expr) (kws : List Keyword) : Bool := match as with
  | [u, t] => kws.isEmpty && (match nmE g with
      | some z => okGl c "isinstance" z
      | .none => false) && M.nb.any (· == "isinstance") && decide (nmE u = some n) && (if one = true then (match ps with
      | [p] => okTg M c p t
      | _ => false) else match tupE t with
      | some ts => okTgs M c ps ts && decide (ts.length ≤ 1000)
      | .none => false)
  | _ => false
mutual
def okH (M : Nm) (c : Sc) (n : Str) : HE → Expr → Bool
  | .const v, .Constant k _ _ => okConst v k
  | .loc i, .Name x _ => okName c i x
  | .fld f, .Attribute (.Name y _) x _ => decide (y = n) && strB (dN f) x
  | .isin one ps, .Call g as kws _ => okIs M c n one ps g as kws
  | .not a, .UnaryOp .Not e _ => okH M c n a e
  | .and a b, .BoolOp .And [x, y] _ => okH M c n a x && okH M c n b y
  | .or a b, .BoolOp .Or [x, y] _ => okH M c n a x && okH M c n b y
  | .tup es, .Tuple vs _ _ => okHs M c n es vs && noStar vs && decide (vs.length ≤ 1000)
  | _, _ => false
def okHs (M : Nm) (c : Sc) (n : Str) : HEs → List Expr → Bool
  | .nil, [] => true
  | .cons r rs, e :: es => okH M c n r e && okHs M c n rs es
  | _, _ => false
end
mutual
def okHS (M : Nm) (c : Sc) (n : Str) : HS → Stmt → Bool
  | .asg i r, .Assign [.Name x px] v _ => decide (c.N[i]? = some x) && c.lcl x && !decide (x = n) && noSwap (.Name x px) v && okH M c n r v
  | .ife r a, .If v x [] _ => okH M c n r v && okHSs M c n a x
  | .ret r, .Return (some v) _ => okH M c n r v
  | _, _ => false
def okHSs (M : Nm) (c : Sc) (n : Str) : HSs → List Stmt → Bool
  | .nil, [] => true
  | .cons r rs, s :: ss => okHS M c n r s && okHSs M c n rs ss
  | _, _ => false
end

def okRaise (M : Nm) (T : Tab) (c : Sc) (k : Nat) (s : String) (es : REs) (v cs : Option Expr) : Bool := match v, cs with
  | some (.Call (.Name x _) (e :: as) [] _), .none => okGl c s x && M.gx.any (fun q => q.1 == s && q.2 == k) && okEs M T c es (e :: as) && noStar (e :: as) && (match T.exs[k]? with
    | some d => d.made
    | .none => false)
  | _, _ => false
def okTry (M : Nm) (c : Sc) (k : Nat) (s : String) (i : Nat) (h : HSs) (body : Bool) (hs : List ExceptHandler) (els fin : List Stmt) : Bool := match hs, els, fin with
  | [.ExceptHandler (some (.Name x _)) (some n) (b :: suite) _], [], [] => body && okGl c s x && M.gx.any (fun q => q.1 == s && q.2 == k) && okName c i n && c.lcl n && okHSs M c n h (b :: suite)
  | _, _, _ => false
mutual
def okS (M : Nm) (T : Tab) : Sc → RS → Stmt → Bool
  | c, .asg t r, .Assign [tg] v _ => okT M T c t tg && noStarT [tg] && (noSwap tg v || notLcl c.sc tg) && noExch c.sc tg v && okE M T c r v
  | c, .setlc m i elt tg it ifs own, .Assign [.Name y py] (.ListComp el gs scope p2) _ => decide (c.N[i]? = some y) && c.lcl y && (py.line == p2.line) && !(scope.names.any fun (n, k) => n == y && (k == .local || k == .cell)) && okE M T c (.lc m elt tg it ifs own) (.ListComp el gs scope p2)
  | c, .asg2 t u r, .Assign [t1, t2] v _ => okT M T c t t1 && okT M T c u t2 && noStarT [t1, t2] && okE M T c r v
  | c, .asg3 t u w r, .Assign [t1, t2, t3] v _ => okT M T c t t1 && okT M T c u t2 && okT M T c w t3 && noStarT [t1, t2, t3] && okE M T c r v
  | c, .par is es, .Assign [t] v _ => parS c is t v && okEs M T c es (tupOf v)
  | c, .aug i op r, .AugAssign (.Name x _) op' v _ => decide (op' = op) && okPut c i x && okE M T c r v
  | c, .augF o f op r, .AugAssign (.Attribute e x _) op' v _ => decide (op' = op) && strB (dN f) x && M.fl.contains f && okE M T c o e && okE M T c r v
  | c, .expr r, .Expr v _ => noComp v && okE M T c r v
  | _, .doc, .Expr (.Constant (.str _) _ _) _ => true
  | c, .ret r, .Return (some v) _ => okE M T c r v
  | _, .retN, .Return none _ => true
  | c, .ife r a b, .If v x y _ => okE M T c r v && okSs M T c a x && okSs M T c b y
  | c, .whl r a, .While v x [] _ => okE M T c r v && okSs M T c a x
  | c, .for_ t it a, .For tg iter x [] _ => tupIt it tg && noSet iter && okI M T c it iter && okT M T c t tg && okSs M T c a x
  | _, .brk, .Break _ => true
  | _, .cont, .Continue _ => true
  | _, .pass, .Pass _ => true
  | c, .raise k s es, .Raise v cs _ => okRaise M T c k s es v cs
  | c, .tryE a k s i h, .Try body hs els fin _ => okTry M c k s i h (okSs M T c a body) hs els fin
  | _, .dead, _ => true
  | _, _, _ => false
def okSs (M : Nm) (T : Tab) : Sc → RSs → List Stmt → Bool
  | _, .nil, [] => true
  | c, .cons r rs, s :: ss => okS M T c r s && okSs M T c rs ss
  | _, _, _ => false
end
end Rp
/-! # Contracts of defs over the store; the calls -/
namespace Rp
open PySem PySem.Spec PyProof.Rows L2

/-- where the defs stand -/
structure Fd where
  fd : Nat → FuncData

/-- a def keeps a promise wherever no guard runs -/
structure GFn (P : Program) (w : World) (K : PySem.W.Frag) (mg : Str → Option Value) (base : Heap) (lv : Nat) (f : Addr) (fd : FuncData) (ps : List Str) (sp : Sp) : Prop where
  len : ∀ vs H Q E, sp vs H Q E → vs.length = ps.length
  run : ∀ (A : Around) (outer : List Env) (s : Shared) (H : Hp) (args : Args) (us : List Value) (vs : List V) (Q : VK) (E : XK), Room lv A → A.guards = some [] →
    Env0 P w K mg base A outer s H → BindsTo s fd args (ps.zip us) → Vals vs us → sp vs H Q E →
      codeAny (model P w) A (.call (.ref f) args) (CR (L2.CX P w) outer P w H s Q E) s

/-- a value, perhaps a new list locked behind the call -/
def lockR (Q : VK) : VK := fun x H1 => Q x H1 ∨ lockK Q x H1
section
variable {P : Program} {w : World} {K : PySem.W.Frag} {mg : Str → Option Value} {base : Heap}
/-- behind a body -/
def FinP (outer : List Env) (P : Program) (w : World) (H : Hp) (s : Shared) (Q : VK) (fl : Flow) (s' : Shared) : Prop := match fl with
  | .ret u => CE outer P w H s Q u s'
  | .next => CE outer P w H s Q .none s'
  | _ => False
theorem fin_e {X : Cx} {Q : VK} {σ : L2.St} {u : Value} {s' : Shared} (hex : X.ex = []) (h : EP X [] σ (lockR Q) u s') : CE X.outer X.prog X.w X.H_0 X.s_0 Q u s' := by
  obtain ⟨v, H', J', r', q⟩ := h
  have b : ∀ {Hz : Hp}, Inv X [] σ Hz s' → Un (frs X.outer) [] X.H_0 Hz X.s_0.heap s'.heap := fun J => by
    have z := J.base
    rw [hex] at z
    exact z
  rcases q with q | ⟨a, u, rfl, hu, mu, q⟩
  · exact ⟨v, H', J'.os, J'.bare, b J', J'.hok, r', q⟩
  · obtain ⟨od, J2⟩ := J'.lock hu mu
    exact ⟨_, _, J2.os, J2.bare, b J2, J2.hok, r', q od⟩
theorem fin_of {X : Cx} {Q : VK} {fl : Flow} {s' : Shared} (hex : X.ex = []) (h : SP X [] { nx := fun _ H' => Q .non H', rt := lockR Q } fl s') : FinP X.outer X.prog X.w X.H_0 X.s_0 Q fl s' := by
  cases fl with
  | ret u =>
    obtain ⟨v, σ', H', J', r', q⟩ := h
    exact fin_e hex ⟨v, H', J', r', q⟩
  | next =>
    obtain ⟨σ', H', J', q⟩ := h
    exact fin_e hex ⟨V.non, H', J', rfl, .inl q⟩
  | brk => exact (let ⟨_, _, _, q⟩ := h; False.elim q)
  | cont => exact (let ⟨_, _, _, q⟩ := h; False.elim q)
/-- the contract by what the def's body does -/
theorem gfn_by {lv : Nat} {f : Addr} {nm qual : Str} {params : Arguments} {body : List Stmt} {scope : Scope} {dV kV doc pm cdv ct oc : Value} {an od : Option Addr} {osl : Array (Option Value)} {N ps : List Str} {sp : Sp}
    (lk : K.lookup f = some ⟨oc, od, .func (PySem.W.fnOf nm qual params body scope dV kV doc pm an cdv ct), osl⟩) (code : PySem.W.codeIn K cdv qual = true)
    (S : FnScope N ps scope) (len : ∀ vs H Q E, sp vs H Q E → vs.length = ps.length)
    (bod : ∀ (A : Around) (outer : List Env) (s : Shared) (H : Hp) (vs : List V) (Q : VK) (E : XK) (s1 : Shared), Room lv (A.deeper (envOfC qual scope s.heap.objs.size f cdv)) → A.guards = some [] → sp vs H Q E →
      Inv (cxOf (L2.CX P w) P w K mg base N qual scope f cdv A outer s H E) [] (start N vs) H s1 →
      wpAny (model P w) (A.deeper (envOfC qual scope s.heap.objs.size f cdv)) (execs body (envOfC qual scope s.heap.objs.size f cdv)) (FinP outer P w H s Q) (cxOf (L2.CX P w) P w K mg base N qual scope f cdv A outer s H E).xe s1) :
    GFn P w K mg base (lv + 1) f (PySem.W.fnOf nm qual params body scope dV kV doc pm an cdv ct) ps sp := by
  refine ⟨len, fun A outer s H args us vs Q E room grd e0 bd rv hs => ?_⟩
  have hl := len _ _ _ _ hs
  have kept : ∀ b o, base.get? b = some o → s.heap.get? b = some o := fun b o z => (e0.bs b o z).1
  have KI : K.In s.heap := e0.mod.kin.keeps kept
  have nolim : s.heap.NoLimit := e0.mod.nolimit.keeps kept
  have kinds : ∀ y ∈ ps.zip us, scope.names.lookup y.1 = some .local ∨
      (scope.names.lookup y.1 = some .cell ∧ ((cellsFrom (s.heap.objs.size + 1) scope.names []).lookup y.1).isSome = true) := by
    rintro ⟨n, v⟩ hy
    have q := S.par n (List.of_mem_zip hy).1
    cases q with
    | inl q => exact .inl q
    | inr q => exact .inr ⟨q, PySem.W.cellsFrom_some _ _ _ (.inl q)⟩
  refine codeAny_call_function room.depth (KI _ _ lk) rfl S.co S.gen rfl (PySem.W.codeRec_of KI code) (bd _ _ _ _ ?_)
  refine wpAny_newFunctionEnv_cells S.kind kinds fun env he s1 x => ?_
  subst he
  refine ⟨nolim.keeps x.toInCall.keep, codeAny_func ?_⟩
  have J := inv_start (CX := L2.CX P w) (E := E) S room.hd e0 hl rv x
  refine wpAny_mono (bod A outer s H vs Q E s1 (room.deeper _) grd hs J) (fun fl s' h => ?_) fun e s' h => h
  cases fl with
  | ret u => exact h
  | next => exact h
  | brk => exact False.elim h
  | cont => exact False.elim h
theorem GFn.mono {j k : Nat} {f : Addr} {fd : FuncData} {ps : List Str} {sp : Sp} (F : GFn P w K mg base j f fd ps sp) (h : j ≤ k) : GFn P w K mg base k f fd ps sp :=
  ⟨F.len, fun A outer s H args us vs Q E r g => F.run A outer s H args us vs Q E (r.mono h) g⟩
end

section
variable {X : Cx} {pins : List (Addr × Obj)} {σ : L2.St} {H : Hp} {s : Shared} {Q : VK} {W : WX}
/-- a def runs, from another one's body -/
theorem run_g {lv : Nat} {f : Addr} {fd : FuncData} {ps : List Str} {sp : Sp} {vs : List V} {us ps' : List Value} {kw : List (Str × Value)} (F : GFn X.prog X.w X.K X.mg X.base lv f fd ps sp) (hr : Room lv X.A) (hg : X.A.guards = some []) (tk : Takes X W) (I : Inv X pins σ H s)
    (r : Vals vs us) (b : BindsTo s fd ⟨ps', kw⟩ (ps.zip us)) (h : sp vs H Q (WE W σ)) : wpAny (model X.prog X.w) X.A (call (.ref f) ps' kw) (EP X pins σ Q) X.xe s := by
  refine wpAny_call (codeAny_mono (F.run X.A X.stack s H ⟨ps', kw⟩ us vs Q (WE W σ) hr hg I.env0 b r h) fun res s' hq => ?_)
  match res, hq with
  | .error e, hq => exact passAt tk σ pins H s e s' I hq
  | .ok (.ret u), hq => exact I.after hq
  | .ok .next, hq => exact False.elim hq
  | .ok .brk, hq => exact False.elim hq
  | .ok .cont, hq => exact False.elim hq
/-- an instance is made: a new one, then its __init__ -/
theorem run_gmake {lv : Nat} {f C : Addr} {fd : FuncData} {ps : List Str} {sp : Sp} {vs : List V} {us ps' : List Value} {kw : List (Str × Value)} (M : Mk X.K C f) (F : GFn X.prog X.w X.K X.mg X.base lv f fd ps sp) (hr : Room (lv + 1) X.A) (hg : X.A.guards = some []) (tk : Takes X W)
    (I : Inv X pins σ H s) (r : Vals vs us) (b : ∀ (h : Shared) (self : Value), X.K.In h.heap → BindsTo h fd ⟨self :: ps', kw⟩ (ps.zip (self :: us)))
    (h : ∀ x dx, H x = none → H dx = none → dx ≠ x → sp (.ref x :: vs) (upd (upd H dx (.own x)) x (.ins C dx [])) (fun v H2 => v = .non ∧ Q (.ref x) H2) (WE W σ)) :
    wpAny (model X.prog X.w) X.A (call (.ref C) ps' kw) (EP X pins σ Q) X.xe s := by
  have h1 := h (s.heap.objs.size + 1) s.heap.objs.size (I.hok.fresh (Nat.le_succ _)) (I.hok.fresh (Nat.le_refl _)) (Nat.ne_of_lt (Nat.lt_succ_self _))
  have J := Inv.made (C := C) I
  have rv : Vals (V.ref (s.heap.objs.size + 1) :: vs) (Value.ref (s.heap.objs.size + 1) :: us) := .cons rfl r
  have step := F.run _ X.stack _ _ ⟨Value.ref (s.heap.objs.size + 1) :: ps', kw⟩ _ _ _ (WE W σ) (hr.make C ps' kw) (show (X.A.under (.builtin "type.__call__" ⟨.ref C :: ps', kw⟩)).guards = some [] from by
    first
      | exact hg
      | (simpa [Around.under, Code.guards, Code.isGuard, pushGuards, guardIds] using hg)) (J.env0.make C ps' kw) (b _ _ J.kIn) rv h1
  refine wpAny_call (make_map (f := f) I.kIn M.makes M.init (beq_iff_eq.mp M.fn) (codeAny_mono step fun res s' hq => ?_))
  match res, hq with
  | .error e, hq => exact passAt tk σ pins _ _ e s' J hq
  | .ok (.ret u), hq =>
    obtain ⟨v, H', I3, rv3, ev, q3⟩ := J.after hq
    subst ev
    exact ⟨rv3, ⟨V.ref (s.heap.objs.size + 1), H', I3, rfl, q3⟩⟩
  | .ok .next, hq => exact False.elim hq
  | .ok .brk, hq => exact False.elim hq
  | .ok .cont, hq => exact False.elim hq
end

/-! ### how parameters are filled -/
def fillV : List (Nat ⊕ PV) → List Value → List Value → List Value
  | .inl j :: r, _ :: ds, us => us.getD j .none :: fillV r ds us
  | .inr _ :: r, d :: ds, us => d :: fillV r ds us
  | _, _, _ => []
/-- the values of the defaults -/
def DfOk (D : Ad) : List (Nat ⊕ PV) → List Value → Prop
  | [], ds => ds = []
  | .inl _ :: r, ds => ∃ d ds', ds = d :: ds' ∧ DfOk D r ds'
  | .inr v :: r, ds => ∃ d ds', ds = d :: ds' ∧ (∃ x, RelV x d ∧ ∀ ι H, RV D ι H v x) ∧ DfOk D r ds'
theorem fill_rel {D : Ad} {ι : List Addr} {H : Hp} {vs : List PV} {xs : List V} {us : List Value} (r : RVs D ι H vs xs) (rx : Vals xs us) :
    ∀ (arr : List (Nat ⊕ PV)) (dv : List Value), DfOk D arr dv → ∃ ys, RVs D ι H (fill arr vs) ys ∧ Vals ys (fillV arr dv us)
  | [], ds, h => ⟨[], .nil, by cases ds <;> exact .nil⟩
  | .inl j :: arr, ds, h => by
    obtain ⟨d, ds', rfl, h⟩ := h
    obtain ⟨ys, a, b⟩ := fill_rel r rx arr ds' h
    cases e : vs[j]? with
    | some v =>
      obtain ⟨x, ex, rv⟩ := r.get e
      obtain ⟨u, eu, ru⟩ := rx.get ex
      refine ⟨x :: ys, .cons (show RV D ι H (vs.getD j .non) x from ?_) a, .cons (show RelV x (us.getD j .none) from ?_) b⟩
      · rw [List.getD_eq_getElem?_getD, e]; exact rv
      · rw [List.getD_eq_getElem?_getD, eu]; exact ru
    | none =>
      have l1 := List.getElem?_eq_none_iff.mp e
      have l2 := r.len
      have l3 := rx.length
      refine ⟨.non :: ys, .cons (show RV D ι H (vs.getD j .non) .non from ?_) a, .cons (show RelV .non (us.getD j .none) from ?_) b⟩
      · rw [List.getD_eq_getElem?_getD, e]; rfl
      · rw [List.getD_eq_getElem?_getD, List.getElem?_eq_none (by omega)]; rfl
  | .inr v :: arr, ds, h => by
    obtain ⟨d, ds', rfl, ⟨x, rx', rv⟩, h⟩ := h
    obtain ⟨ys, a, b⟩ := fill_rel r rx arr ds' h
    exact ⟨x :: ys, .cons (rv ι H) a, .cons rx' b⟩

/-- a way of calling binds so -/
def ShOk (D : Ad) (F : Fd) (s : Shape) (d : FDef) : Prop := ∃ dv : List Value, DfOk D s.arr dv ∧ ∀ (h : Shared) (self : Value) (us : List Value), D.K.In h.heap → us.length = s.np + s.ks.length →
  BindsTo h (F.fd s.f) ⟨(if s.m = true then [self] else []) ++ us.take s.np, (s.ks.map sN).zip (us.drop s.np)⟩ (((d.N.map sN).take d.np).zip ((if s.m = true then [self] else []) ++ fillV s.arr dv us))

/-- what a def promises, by the calls' wish C -/
def spC (D : Ad) (C : CS) (f : Nat) : Sp := fun xs H Q E => ∃ ι S vs Qa Ra, Ly D ι H S ∧ RVs D ι H vs xs ∧ C f vs S Qa Ra ∧ Cnt D ι H Qa Q ∧ CnX D ι H Ra [] (fun cls d _ H' => E cls d H')

/-- .. a function that a nested def made: its own arguments, then what the captured names hold -/
def spN (D : Ad) (C : CS) (k : Nat) (ws : List V) : List V → Hp → VK → Prop := fun xs H Q => ∃ ι S vs Qa, Ly D ι H S ∧ RVs D ι H vs (xs ++ ws) ∧ C k vs S Qa (fun _ _ => False) ∧ Cnt D ι H Qa Q
/-- such functions keep their promise -/
def NFn (P : Program) (w : World) (mg : Str → Option Value) (base : Heap) (lv : Nat) (D : Ad) (C : CS) (k : Nat) : Prop :=
  ∀ (f : Addr) (cl : List (Str × Addr)) (c : Addr) (A : Around) (outer : List Env) (s : Shared) (H : Hp) (us : List Value) (xs ws : List V) (Q : VK), Room lv A → A.guards = some [] → Env0 P w D.K mg base A outer s H →
    H f = some (FnC f (D.nf k) cl c) → H c = some (LamX.CodeO c (D.nf k).qual) → NdefX.CellsAt cl (D.nf k).fr (ws.map some) s.heap H → Vals xs us → spN D C k ws xs H Q →
      codeAny (model P w) A (.call (.ref f) ⟨us, []⟩) (CR (L2.CX P w) outer P w H s Q (fun _ _ _ => False)) s

/-- the text's top, as the table has it -/
structure Lk (P : Program) (w : World) (D : Ad) (F : Fd) (mg : Str → Option Value) (base : Heap) (T : Tab) (M : Nm) (fl : List Nat) (C : CS) (lv : Nat) : Prop where
  inn : ∀ f vs S Q R, C f vs S Q R → ∃ d, T.fns[f]? = some d
  fn : ∀ f d, T.fns[f]? = some d → isN T.nst f = false → GFn P w D.K mg base lv (D.fa f) (F.fd f) ((d.N.map sN).take d.np) (spC D C f)
  nfn : ∀ k d hd, T.fns[k]? = some d → isN T.nst k = true → (∀ p ∈ hd, p.1 = k ∨ ∃ q ∈ D.held, q.1 = p.1) → NFn P w mg base lv { D with held := hd } C k
  ban : ∀ k vs S Q R, isN T.nst k = true → C k vs S Q R → ∀ p ∈ D.held, p.1 ≠ k
  gf : ∀ x f, (x, f) ∈ M.gf → mg (sN x) = some (.ref (D.fa f)) ∧ PySem.W.keepIn D.K (.ref (D.fa f)) = true
  gc : ∀ x c, (x, c) ∈ M.gc → mg (sN x) = some (.ref (D.ca c)) ∧ ∀ f, (T.cls[c]?).bind (·.ini) = some f → Mk D.K (D.ca c) (D.fa f)
  gv : ∀ x v, (x, v) ∈ M.gv → ∃ u y, mg (sN x) = some u ∧ RelV y u ∧ ∀ ι H, RV D ι H v y
  nb : ∀ x ∈ M.nb, mg (sN x) = none
  sh : ∀ s ∈ M.shapes, ∀ d, T.fns[s.f]? = some d → ShOk D F s d
  ms : ∀ c cd, T.cls[c]? = some cd → Cls D.K (D.ca c) ∧ (∀ m f, cd.ms.lookup m = some f → Meth D.K (D.ca c) (dN m) (D.fa f)) ∧ ∀ g ∈ fl, NoAttr D.K (D.ca c) (dN g)
  is : IsF D T
  xs : ∀ c d, T.exs[c]? = some d → XcF P w D mg base T c d
  gx : ∀ s k, (s, k) ∈ M.gx → mg (sN s) = some (.ref (D.xa k)) ∧ k < T.exs.length
  sg : ∀ s ∈ M.shapes, isN T.nst s.f = false
  l1 : 1 ≤ lv

/-! ### rows of trees without a star -/
theorem noStar_each : ∀ {es : List Expr} {env : Env}, noStar es = true → starEach es env = es.map fun e => (false, eval e env)
  | [], _, _ => rfl
  | e :: es, env, h => by
    cases e <;> first
      | (cases h)
      | (show (false, _) :: starEach es env = _ :: es.map _; rw [noStar_each (show noStar es = true from h)])
theorem noStar_cons {e : Expr} {es : List Expr} {env : Env} (h : noStar (e :: es) = true) : starEach (e :: es) env = (false, eval e env) :: starEach es env ∧ noStar es = true := by
  have hr : noStar es = true := by cases e <;> first | exact h | cases h
  exact ⟨by rw [noStar_each h, noStar_each hr]; rfl, hr⟩
theorem noStar_any {es : List Expr} {env : Env} {pos : Pos} (h : noStar es = true) : (backTo pos (starEach es env)).any (·.1) = false := by
  rw [noStar_each h]
  unfold backTo
  induction es with
  | nil => rfl
  | cons e es ih =>
    have := ih (noStar_cons (env := env) h).2
    simpa using this
theorem noStar_all {es : List Expr} {env : Env} {pos : Pos} (h : noStar es = true) : (backTo pos (starEach es env)).all (fun x => !x.1) = true := by
  rw [noStar_each h]
  unfold backTo
  simp
theorem kw_names : ∀ {kws : List Keyword} {ks : List String} {env : Env} {pos : Pos}, namesOf kws = ks.map (fun k => some (sN k)) →
    (backToKw pos (keywordEach kws env)).all (·.1.isSome) = true ∧ (backToKw pos (keywordEach kws env)).filterMap (·.1) = ks.map sN ∧ (backToKw pos (keywordEach kws env)).any (·.1.isNone) = false
  | [], [], _, _, _ => ⟨rfl, rfl, rfl⟩
  | [], _ :: _, _, _, h => by cases h
  | ⟨n, v, p⟩ :: kws, [], _, _, h => by cases h
  | ⟨n, v, p⟩ :: kws, k :: ks, env, pos, h => by
    have h' : n :: namesOf kws = some (sN k) :: ks.map (fun k => some (sN k)) := h
    injection h' with h1 h2
    subst h1
    obtain ⟨a, b, c⟩ := kw_names (env := env) (pos := pos) h2
    refine ⟨?_, ?_, ?_⟩
    · show (true && (backToKw pos (keywordEach kws env)).all _) = true
      rw [a] <;> rfl
    · show sN k :: (backToKw pos (keywordEach kws env)).filterMap (·.1) = _
      rw [b] <;> rfl
    · show (false || (backToKw pos (keywordEach kws env)).any _) = false
      rw [c] <;> rfl
end Rp
/-! # The wish of a tree is enough: expressions, one by one -/
namespace Rp
open PySem PySem.Spec PyProof.Rows L2

def rdE (D : Ad) (T : Tab) (C : CS) (W : WX) (r : RE) : TE := fun σc H Q => ∃ ι S σ Qa Ra, Ly D ι H S ∧ RG D ι H σ σc ∧ wpE T C r σ S Qa Ra ∧ Cnt D ι H Qa Q ∧ CnX D ι H Ra σc W
/-- the wish behind a test -/
def CnB (D : Ad) (ι : List Addr) (H : Hp) (Qb : Bool → Store → Prop) (Q : Bool → Hp → Prop) : Prop := ∀ ι' S' H' k, Ext ι H ι' H' → Ly D ι' H' S' → Qb k S' → Q k H'
theorem CnB.ext {D : Ad} {ι ι' : List Addr} {H H' : Hp} {Qb : Bool → Store → Prop} {Q : Bool → Hp → Prop} (c : CnB D ι H Qb Q) (e : Ext ι H ι' H') : CnB D ι' H' Qb Q := fun ι2 S2 H2 k e2 l q => c ι2 S2 H2 k (e.trans e2) l q
def rdT (D : Ad) (T : Tab) (C : CS) (W : WX) (r : RE) : TT := fun σc H Q => ∃ ι S σ Qb Ra, Ly D ι H S ∧ RG D ι H σ σc ∧ wpT T C r σ S Qb Ra ∧ CnB D ι H Qb Q ∧ CnX D ι H Ra σc W
def rdAnd (D : Ad) (T : Tab) (C : CS) (W : WX) (r : REs) : TT := fun σc H Q => ∃ ι S σ Qb Ra, Ly D ι H S ∧ RG D ι H σ σc ∧ wpAnd T C r σ S Qb Ra ∧ CnB D ι H Qb Q ∧ CnX D ι H Ra σc W
def rdOr (D : Ad) (T : Tab) (C : CS) (W : WX) (r : REs) : TT := fun σc H Q => ∃ ι S σ Qb Ra, Ly D ι H S ∧ RG D ι H σ σc ∧ wpOr T C r σ S Qb Ra ∧ CnB D ι H Qb Q ∧ CnX D ι H Ra σc W
def rdAndV (D : Ad) (T : Tab) (C : CS) (W : WX) (r : REs) : TE := fun σc H Q => ∃ ι S σ Qa Ra, Ly D ι H S ∧ RG D ι H σ σc ∧ wpAndV T C r σ S Qa Ra ∧ Cnt D ι H Qa Q ∧ CnX D ι H Ra σc W
def rdOrV (D : Ad) (T : Tab) (C : CS) (W : WX) (r : REs) : TE := fun σc H Q => ∃ ι S σ Qa Ra, Ly D ι H S ∧ RG D ι H σ σc ∧ wpOrV T C r σ S Qa Ra ∧ Cnt D ι H Qa Q ∧ CnX D ι H Ra σc W
def CnS (D : Ad) (ι : List Addr) (H : Hp) (n : Nat) (Qs : List PV → Store → Prop) (Q : List V → Hp → Prop) : Prop := ∀ ι' S' H' vs xs, Ext ι H ι' H' → Ly D ι' H' S' → RVs D ι' H' vs xs → vs.length = n → Qs vs S' → Q xs H'
def rdEs (D : Ad) (T : Tab) (C : CS) (W : WX) (r : REs) : TA := fun σc H Q => ∃ ι S σ Qs Ra, Ly D ι H S ∧ RG D ι H σ σc ∧ wpEs T C r σ S Qs Ra ∧ CnS D ι H r.len Qs Q ∧ CnX D ι H Ra σc W
def rdO (D : Ad) (T : Tab) (C : CS) (W : WX) (r : RO) : TO := fun σc H Q => ∃ ι S σ Qo Ra, Ly D ι H S ∧ RG D ι H σ σc ∧ wpO T C r σ S Qo Ra ∧ (∀ ι' S' H' k, Ext ι H ι' H' → Ly D ι' H' S' → Qo k S' → Q k H') ∧ CnX D ι H Ra σc W

/-- the place of a proof: a body's context, what its names are -/
structure Okx (X : Cx) (D : Ad) (F : Fd) (T : Tab) (M : Nm) (fl : List Nat) (C : CS) (lv : Nat) (W : WX) (c : Sc) : Prop where
  hK : X.K = D.K
  hN : X.N = c.N
  hsc : X.env.scope = c.sc
  nd : X.N.Nodup
  calm : X.calm = true
  grd : X.A.guards = some []
  room : Room (lv + 1) X.A
  tk : Takes X W
  hfn : c.all = true → ∀ x, X.env.scope.names.lookup x = some .cell → X.fn x = true
  lk : Lk X.prog X.w D F X.mg X.base T M fl C lv

section
variable {X : Cx} {D : Ad} {F : Fd} {T : Tab} {M : Nm} {fl : List Nat} {C : CS} {lv : Nat} {W : WX} {c : Sc} {pos : Pos}
theorem Okx.u80 (o : Okx X D F T M fl C lv W c) : X.A.units + 80 < cLine := by have := o.room.un; omega
theorem Okx.u64 (o : Okx X D F T M fl C lv W c) : X.A.units + 64 < cLine := by have := o.room.un; omega
theorem gl_of {s : String} {x : Str} (o : Okx X D F T M fl C lv W c) (h : okGl c s x = true) : x = sN s ∧ Gl X x ∧ (x == ("__debug__" : Str)) = false ∧ x ≠ "__name__" := by
  unfold okGl at h
  simp only [Bool.and_eq_true, Bool.not_eq_true'] at h
  obtain ⟨⟨⟨h1, h2⟩, h3⟩, h4⟩ := h
  refine ⟨(of_decide_eq_true h1).symm, ?_, h3, ?_⟩
  · unfold Sc.gl at h2
    show X.env.scope.names.lookup x = some .globalImplicit
    rw [o.hsc]
    split at h2
    · assumption
    · cases h2
  · intro e
    subst e
    simp at h4

theorem s_loc {i : Nat} {x : Str} (o : Okx X D F T M fl C lv W c) (h : okName c i x = true) : PE X (.Name x pos) (rdE D T C W (.loc i)) := by
  unfold okName at h
  simp only [Bool.and_eq_true, Bool.not_eq_true'] at h
  obtain ⟨⟨⟨h1, h2⟩, h3⟩, h4⟩ := h
  have hN : X.N[i]? = some x := by rw [o.hN]; exact of_decide_eq_true h1
  have hv : Vis X.env.scope x := by
    unfold Sc.vis at h2
    rw [o.hsc]
    split at h2
    · exact .inl (by assumption)
    · exact .inr (.inl (by assumption))
    · exact .inr (.inr (by assumption))
    · cases h2
  refine PE.imp (pe_var hN hv h3 h4) fun σc H Q z => ?_
  obtain ⟨ι, S, σ, Qa, Ra, L, G, hw, cn, cx⟩ := z
  obtain ⟨v, e, q⟩ := onS_ex (show onS (getS σ i) fun v => Qa v S from hw)
  obtain ⟨y, e', r⟩ := G.at_ i v (getS_ex e)
  exact ⟨y, e', cn.here L r q⟩

theorem s_const {v : PV} {k : Const} {j : Nat} (h : okConst v k = true) : PE X (.Constant k j pos) (rdE D T C W (.const v)) := by
  have fin : ∀ (y : V), (∀ ι H, RV D ι H v y) → ∀ σc H Q, rdE D T C W (.const v) σc H Q → Q y H := fun y r σc H Q z => by
    obtain ⟨ι, S, σ, Qa, Ra, L, G, hw, cn, cx⟩ := z
    exact cn.here L (r ι H) (show Qa v S from hw)
  cases v with
  | non =>
    cases k with
    | none => exact PE.imp pe_non fun σc H Q z => fin _ (fun _ _ => rfl) σc H Q z
    | _ => cases h
  | bl b =>
    cases k with
    | bool b' =>
      have e : b = b' := eq_of_beq h
      subst e
      exact PE.imp pe_bl fun σc H Q z => fin _ (fun _ _ => rfl) σc H Q z
    | _ => cases h
  | int b =>
    cases k with
    | int b' =>
      have e : b = b' := eq_of_beq h
      subst e
      exact PE.imp pe_int fun σc H Q z => fin _ (fun _ _ => rfl) σc H Q z
    | _ => cases h
  | str b =>
    cases k with
    | str b' =>
      have e : b = b' := of_decide_eq_true h
      subst e
      exact PE.imp pe_str fun σc H Q z => fin _ (fun _ _ => rfl) σc H Q z
    | _ => cases h
  | _ => cases k <;> cases h

theorem s_glob {s : String} {v : PV} {x : Str} (o : Okx X D F T M fl C lv W c) (h : okGl c s x = true) (hv : (M.gv.any fun p => p.1 == s && PV.eqb p.2 v) = true) : PE X (.Name x pos) (rdE D T C W (.glob s v)) := by
  obtain ⟨e, hg, hd, hn⟩ := gl_of o h
  subst e
  obtain ⟨p, hp, e⟩ := List.any_eq_true.mp hv
  rw [Bool.and_eq_true] at e
  have e1 : p.1 = s := eq_of_beq e.1
  have e2 : p.2 = v := PV.eqb_eq e.2
  subst e1 e2
  obtain ⟨u, y, hm, ru, rv⟩ := o.lk.gv p.1 p.2 hp
  refine PE.imp (pe_glob hg hm ru hd) fun σc H Q z => ?_
  obtain ⟨ι, S, σ, Qa, Ra, L, G, hw, cn, cx⟩ := z
  exact cn.here L (rv ι H) (show Qa p.2 S from hw)

theorem s_bin {op : Operator} {a b : RE} {l r : Expr} (o : Okx X D F T M fl C lv W c) (ha : PE X l (rdE D T C W a)) (hb : PE X r (rdE D T C W b)) : PE X (.BinOp l op r pos) (rdE D T C W (.bin op a b)) := by
  refine PE.imp (pe_op (op_binG (D := D) o.hK) ha hb) fun σc H Q z => ?_
  obtain ⟨ι, S, σ, Qa, Ra, L, G, hw, cn, cx⟩ := z
  refine ⟨ι, S, σ, _, Ra, L, G, hw, fun ι1 S1 H1 v x e1 L1 r1 q1 => ?_, cx⟩
  refine ⟨ι1, S1, σ, _, Ra, L1, G.ext e1, q1, fun ι2 S2 H2 w y e2 L2' r2 q2 => ?_, cx.ext e1⟩
  exact ⟨ι2, S2, v, w, Qa, L2', r1.ext e2, r2, q2, cn.ext (e1.trans e2)⟩
theorem s_neg {a : RE} {e : Expr} (ha : PE X e (rdE D T C W a)) : PE X (.UnaryOp .USub e pos) (rdE D T C W (.neg a)) := by
  refine PE.imp (pe_un un_neg ha) fun σc H Q z => ?_
  obtain ⟨ι, S, σ, Qa, Ra, L, G, hw, cn, cx⟩ := z
  refine ⟨ι, S, σ, _, Ra, L, G, hw, fun ι1 S1 H1 v x e1 L1 r1 q1 => ?_, cx⟩
  obtain ⟨i, rfl, q⟩ := isInt_ex q1
  cases rv_int r1
  exact ⟨i, rfl, (cn.ext e1).here L1 (show RV D ι1 H1 (.int (-i)) (.int (-i)) from rfl) q⟩
theorem s_cmp {op : CmpOp} {a b : RE} {l r : Expr} (o : Okx X D F T M fl C lv W c) (hm : behindInMarks op r = false) (ha : PE X l (rdE D T C W a)) (hb : PE X r (rdE D T C W b)) : PE X (.Compare l [op] [r] pos) (rdE D T C W (.cmp op a b)) := by
  refine PE.imp (pe_cmpR (op_cmpG (D := D) o.hK o.u80) ha hb hm) fun σc H Q z => ?_
  obtain ⟨ι, S, σ, Qa, Ra, L, G, hw, cn, cx⟩ := z
  refine ⟨ι, S, σ, _, Ra, L, G, hw, fun ι1 S1 H1 v x e1 L1 r1 q1 => ?_, cx⟩
  refine ⟨ι1, S1, σ, _, Ra, L1, G.ext e1, q1, fun ι2 S2 H2 w y e2 L2' r2 q2 => ?_, cx.ext e1⟩
  exact ⟨ι2, S2, v, w, Qa, L2', r1.ext e2, r2, q2, cn.ext (e1.trans e2)⟩
theorem eq_mono {x y : PV} {S : Store} {R R' : Bool → Prop} (i : ∀ k, R k → R' k) (h : wpEq x y S R) : wpEq x y S R' := by
  have data : (onS (datS S x) fun d => onS (datS S y) fun e => onT (SeqAt.shaped d) (onT (SeqAt.shaped e) (R (PyData.eqv d e)))) → (onS (datS S x) fun d => onS (datS S y) fun e => onT (SeqAt.shaped d) (onT (SeqAt.shaped e) (R' (PyData.eqv d e)))) :=
    fun h => onS_mono (fun d h => onS_mono (fun e h => onT_mono (fun h => onT_mono (i _) h) h) h) h
  cases x <;> cases y <;> first
    | exact i _ h
    | exact data h
theorem is_mono {x y : PV} {R R' : Bool → Prop} (i : ∀ k, R k → R' k) (h : wpIs x y R) : wpIs x y R' := by
  cases y <;> first
    | exact onS_mono i h
    | exact h
theorem in_mono {x y : PV} {S : Store} {R R' : Bool → Prop} (i : ∀ k, R k → R' k) (h : wpIn x y S R) : wpIn x y S R' := by
  have data : wpInD x y S R → wpInD x y S R' :=
    fun h => onS_mono (fun d h => onS_mono (fun e h => onS_mono (fun e h => onT_mono (fun h => onT_mono (i _) h) h) h) h) h
  cases x with
  | int j => exact onS_mono (fun ys h => onS_mono (fun ns h => i _ h) h) (show onS (itemsOf S y) fun ys => onS (intsOf ys) fun ns => R (decide (j ∈ ns)) from h)
  | non =>
    cases y with
    | tup ys => exact onT_mono (i _) h
    | _ => exact data h
  | str s =>
    cases y with
    | tup ys => exact onT_mono (i _) h
    | _ => exact data h
  | _ => exact data h
theorem cmp_mono {op : CmpOp} {v w : PV} {S : Store} {R R' : Bool → Prop} (i : ∀ k, R k → R' k) (z : wpCmp op v w S R) : wpCmp op v w S R' := by
  cases op with
  | Eq => exact eq_mono i z
  | NotEq => exact eq_mono (fun k h => i _ h) z
  | Is => exact is_mono i z
  | IsNot => exact is_mono (fun k h => i _ h) z
  | In => exact in_mono i z
  | NotIn => exact in_mono (fun k h => i _ h) z
  | _ => cases v <;> cases w <;> first | exact i _ z | exact z
/-- the chain's continuation, as the values' -/
theorem s_chain {op op' : CmpOp} {a b d : RE} {l r t : Expr} (o : Okx X D F T M fl C lv W c) (hm : lastMarks [op, op'] [r, t] = false) (ha : PE X l (rdE D T C W a)) (hb : PE X r (rdE D T C W b)) (hd : PE X t (rdE D T C W d)) :
    PE X (.Compare l [op, op'] [r, t] pos) (rdE D T C W (.chain op op' a b d)) := by
  refine PE.imp (pe_chain (op_cmpG (D := D) o.hK o.u80) (op_cmpG (D := D) o.hK o.u80) ha hb hd hm) fun σc H Q z => ?_
  obtain ⟨ι, S, σ, Qa, Ra, L, G, hw, cn, cx⟩ := z
  refine ⟨ι, S, σ, _, Ra, L, G, hw, fun ι1 S1 H1 v x e1 L1 r1 q1 => ?_, cx⟩
  refine ⟨ι1, S1, σ, _, Ra, L1, G.ext e1, q1, fun ι2 S2 H2 w y e2 L2' r2 q2 => ?_, cx.ext e1⟩
  have q2' : wpCmp op v w S2 fun k => (if k = true then wpE T C d σ S2 (fun z S3 => wpCmp op' w z S3 fun k' => Qa (.bl k') S3) Ra else Qa (.bl false) S2) := q2
  refine ⟨ι2, S2, v, w, (fun u S3 => S3 = S2 ∧ ∃ k, u = .bl k ∧ (if k = true then wpE T C d σ S2 (fun z S3 => wpCmp op' w z S3 fun k' => Qa (.bl k') S3) Ra else Qa (.bl false) S2)), L2', r1.ext e2, r2, ?_, fun ι3 S3 H3 u y3 e3 L3 r3 q3 => ?_⟩
  · exact cmp_mono (fun k hk => ⟨rfl, k, rfl, hk⟩) q2'
  · obtain ⟨rfl, k, rfl, q⟩ := q3
    cases rv_bl r3
    refine ⟨k, rfl, ?_⟩
    have e13 := (e1.trans e2).trans e3
    cases k with
    | true =>
      simp only [if_true] at q ⊢
      refine ⟨ι3, S3, σ, _, Ra, L3, G.ext e13, q, fun ι4 S4 H4 z y4 e4 L4 r4 q4 => ?_, cx.ext e13⟩
      exact ⟨ι4, S4, w, z, Qa, L4, (r2.ext e3).ext e4, r4, q4, cn.ext (e13.trans e4)⟩
    | false =>
      simp only [Bool.false_eq_true, if_false] at q ⊢
      exact (cn.ext e13).here L3 (show RV D ι3 H3 (.bl false) (.bl false) from rfl) q
theorem s_not {a : RE} {e : Expr} (o : Okx X D F T M fl C lv W c) (ha : PE X e (rdE D T C W a)) : PE X (.UnaryOp .Not e pos) (rdE D T C W (.not a)) := by
  refine PE.imp (pe_notT ha) fun σc H Q z => ?_
  obtain ⟨ι, S, σ, Qa, Ra, L, G, hw, cn, cx⟩ := z
  refine ⟨ι, S, σ, _, Ra, L, G, hw, fun ι1 S1 H1 v x e1 L1 r1 q1 => ?_, cx⟩
  obtain ⟨k, et, q⟩ := onS_ex q1
  exact ⟨k, by rw [o.hK]; exact tru_at L1 r1 et, (cn.ext e1).here L1 (show RV D ι1 H1 (.bl (!k)) (.bl (!k)) from rfl) q⟩
theorem s_ite {d a b : RE} {t x y : Expr} (hd : PT X t (rdT D T C W d)) (ha : PE X x (rdE D T C W a)) (hb : PE X y (rdE D T C W b)) : PE X (.IfExp t x y pos) (rdE D T C W (.ite d a b)) := by
  refine PE.imp (pe_ifExp hd ha hb) fun σc H Q z => ?_
  obtain ⟨ι, S, σ, Qa, Ra, L, G, hw, cn, cx⟩ := z
  refine ⟨ι, S, σ, _, Ra, L, G, hw, fun ι1 S1 H1 k e1 L1 q1 => ?_, cx⟩
  cases k with
  | true =>
    simp only [if_true] at q1 ⊢
    exact ⟨ι1, S1, σ, Qa, Ra, L1, G.ext e1, q1, cn.ext e1, cx.ext e1⟩
  | false =>
    simp only [Bool.false_eq_true, if_false] at q1 ⊢
    exact ⟨ι1, S1, σ, Qa, Ra, L1, G.ext e1, q1, cn.ext e1, cx.ext e1⟩

/-! ### rows -/
theorem s_nil : PA X [] (rdEs D T C W .nil) := PA.imp pa_nil fun σc H Q z => by
  obtain ⟨ι, S, σ, Qs, Ra, L, G, hw, cn, cx⟩ := z
  exact cn ι S H [] [] Ext.refl L .nil rfl (show Qs [] S from hw)
theorem s_cons {a : RE} {as : REs} {e : Expr} {es : List Expr} (h : noStar (e :: es) = true) (ha : PE X e (rdE D T C W a)) (hs : PA X es (rdEs D T C W as)) : PA X (e :: es) (rdEs D T C W (.cons a as)) := by
  refine PA.imp (pa_cons ha hs (noStar_cons h).1) fun σc H Q z => ?_
  obtain ⟨ι, S, σ, Qs, Ra, L, G, hw, cn, cx⟩ := z
  refine ⟨ι, S, σ, _, Ra, L, G, hw, fun ι1 S1 H1 v x e1 L1 r1 q1 => ?_, cx⟩
  refine ⟨ι1, S1, σ, _, Ra, L1, G.ext e1, q1, fun ι2 S2 H2 vs xs e2 L2' r2 l2 q2 => ?_, cx.ext e1⟩
  exact cn ι2 S2 H2 (v :: vs) (x :: xs) (e1.trans e2) L2' (.cons (r1.ext e2) r2) (by rw [List.length_cons, l2]; rfl) q2
theorem sk_nil : PK X [] (rdEs D T C W .nil) := ⟨fun pos pins s σc H Q I z => by
  obtain ⟨ι, S, σ, Qs, Ra, L, G, hw, cn, cx⟩ := z
  exact pk_nil.run pos pins s σc H Q I (show tNil σc H Q from cn ι S H [] [] Ext.refl L .nil rfl (show Qs [] S from hw))⟩
theorem sk_cons {a : RE} {as : REs} {e : Expr} {es : List Keyword} {nm : Option Str} {kp : Pos} (ha : PE X e (rdE D T C W a)) (hs : PK X es (rdEs D T C W as)) : PK X (⟨nm, e, kp⟩ :: es) (rdEs D T C W (.cons a as)) := ⟨fun pos pins s σc H Q I z => by
  obtain ⟨ι, S, σ, Qs, Ra, L, G, hw, cn, cx⟩ := z
  refine (pk_cons ha hs).run pos pins s σc H Q I (show tCons (rdE D T C W a) (rdEs D T C W as) σc H Q from ?_)
  refine ⟨ι, S, σ, _, Ra, L, G, hw, fun ι1 S1 H1 v x e1 L1 r1 q1 => ?_, cx⟩
  refine ⟨ι1, S1, σ, _, Ra, L1, G.ext e1, q1, fun ι2 S2 H2 vs xs e2 L2' r2 l2 q2 => ?_, cx.ext e1⟩
  exact cn ι2 S2 H2 (v :: vs) (x :: xs) (e1.trans e2) L2' (.cons (r1.ext e2) r2) (by rw [List.length_cons, l2]; rfl) q2⟩
theorem okEs_len : ∀ {es : REs} {as : List Expr}, okEs M T c es as = true → as.length = es.len
  | .nil, [], _ => rfl
  | .nil, _ :: _, h => by cases h
  | .cons _ _, [], h => by cases h
  | .cons r rs, e :: es, h => by
    have h' : (okE M T c r e && okEs M T c rs es) = true := h
    rw [Bool.and_eq_true] at h'
    show es.length + 1 = rs.len + 1
    rw [okEs_len h'.2]
theorem okKs_len : ∀ {es : REs} {as : List Keyword}, okKs M T c es as = true → as.length = es.len
  | .nil, [], _ => rfl
  | .nil, _ :: _, h => by cases h
  | .cons _ _, [], h => by cases h
  | .cons r rs, ⟨_, e, _⟩ :: es, h => by
    have h' : (okE M T c r e && okKs M T c rs es) = true := h
    rw [Bool.and_eq_true] at h'
    show es.length + 1 = rs.len + 1
    rw [okKs_len h'.2]
theorem names_len : ∀ {kws : List Keyword} {ks : List String}, namesOf kws = ks.map (fun k => some (sN k)) → kws.length = ks.length
  | [], [], _ => rfl
  | [], _ :: _, h => by cases h
  | ⟨_, _, _⟩ :: _, [], h => by cases h
  | ⟨n, v, p⟩ :: kws, k :: ks, h => by
    have h' : n :: namesOf kws = some (sN k) :: ks.map (fun k => some (sN k)) := h
    injection h' with h1 h2
    rw [List.length_cons, List.length_cons, names_len h2]

theorem s_tup {es : REs} {vs : List Expr} {k : Nat} (hl : vs.length ≤ 1000) (hn : vs.length = es.len) (ha : PA X vs (rdEs D T C W es)) : PE X (.Tuple vs k pos) (rdE D T C W (.tup es)) := by
  refine PE.imp (pe_tup ha) fun σc H Q z => ?_
  obtain ⟨ι, S, σ, Qa, Ra, L, G, hw, cn, cx⟩ := z
  refine ⟨ι, S, σ, _, Ra, L, G, hw, fun ι1 S1 H1 ws xs e1 L1 r1 l1 q1 => ?_, cx⟩
  refine ⟨by rw [r1.len, l1, ← hn, lim_eq]; show vs.length ≤ 16777216; omega, fun p hp => ?_⟩
  exact (cn.ext e1).tup L1 hp r1 q1
theorem s_lst {m : Bool} {es : REs} {vs : List Expr} (hl : vs.length ≤ 1000) (hn : vs.length = es.len) (ha : PA X vs (rdEs D T C W es)) : PE X (.List vs pos) (rdE D T C W (.lst m es)) := by
  refine PE.imp (pe_fzB m (pe_lst ha)) fun σc H Q z => ?_
  obtain ⟨ι, S, σ, Qa, Ra, L, G, hw, cn, cx⟩ := z
  refine ⟨ι, S, σ, _, Ra, L, G, hw, fun ι1 S1 H1 ws xs e1 L1 r1 l1 q1 => ?_, cx⟩
  refine ⟨by rw [r1.len, l1, ← hn, lim_eq]; show vs.length ≤ 16777216; omega, fun p hp => ?_⟩
  exact (cn.ext e1).new L1 hp r1 q1

/-! ### subscripts, slices, fields -/
theorem plainIx {k : Expr} (h : isSlice k = false) : PlainIx k := by
  intro o' i'
  cases k <;> first
    | rfl
    | cases h
theorem s_sub {o' i' : RE} {e k : Expr} (o : Okx X D F T M fl C lv W c) (h : isSlice k = false) (ha : PE X e (rdE D T C W o')) (hb : PE X k (rdE D T C W i')) : PE X (.Subscript e k pos) (rdE D T C W (.sub o' i')) := by
  refine PE.imp (pe_ix (ix_G (D := D) o.hK) ha hb (plainIx h)) fun σc H Q z => ?_
  obtain ⟨ι, S, σ, Qa, Ra, L, G, hw, cn, cx⟩ := z
  refine ⟨ι, S, σ, _, Ra, L, G, hw, fun ι1 S1 H1 v x e1 L1 r1 q1 => ?_, cx⟩
  refine ⟨ι1, S1, σ, _, Ra, L1, G.ext e1, q1, fun ι2 S2 H2 w y e2 L2' r2 q2 => ?_, cx.ext e1⟩
  exact ⟨ι2, S2, v, w, Qa, L2', r1.ext e2, r2, q2, cn.ext (e1.trans e2)⟩
theorem s_subI {o' i' : RE} {e k : Expr} (o : Okx X D F T M fl C lv W c) (h : isSlice k = false) (ha : PE X e (rdE D T C W o')) (hb : PE X k (rdE D T C W i')) : PE X (.Subscript e k pos) (rdE D T C W (.subI o' i')) := by
  refine PE.imp (pe_ix (ix_I (D := D) (by have := o.u64; omega)) ha hb (plainIx h)) fun σc H Q z => ?_
  obtain ⟨ι, S, σ, Qa, Ra, L, G, hw, cn, cx⟩ := z
  refine ⟨ι, S, σ, _, Ra, L, G, hw, fun ι1 S1 H1 v x e1 L1 r1 q1 => ?_, cx⟩
  refine ⟨ι1, S1, σ, _, Ra, L1, G.ext e1, q1, fun ι2 S2 H2 w y e2 L2' r2 q2 => ?_, cx.ext e1⟩
  exact ⟨ι2, S2, v, w, Qa, L2', r1.ext e2, r2, q2, cn.ext (e1.trans e2)⟩
/-- a written key of a display -/
theorem pe_key {k : DK} {e : Expr} (o : Okx X D F T M fl C lv W c) (h : okKey M c k e = true) : PE X e (tC (L2.kV (dkK k))) := by
  unfold okKey at h
  split at h
  · rename_i n x j p
    rw [← show dN n = x from of_decide_eq_true h]
    exact pe_str
  · rename_i i j n p
    rw [← show i = j from of_decide_eq_true h]
    exact pe_int
  · rename_i i x p
    obtain ⟨q, hq, e⟩ := List.any_eq_true.mp h
    rw [Bool.and_eq_true] at e
    obtain ⟨e0, hg, hd, hn⟩ := gl_of o e.1
    subst e0
    have e2 : q.2 = .int i := PV.eqb_eq e.2
    obtain ⟨u, y, hm, ru, rv⟩ := o.lk.gv q.1 q.2 hq
    have rv0 := rv [] fun _ => none
    rw [e2] at rv0
    cases rv_int rv0
    exact pe_glob hg hm ru hd
  · cases h
theorem isKey_is {f : Nat} {k : Expr} (h : isKey f k = true) : ∃ j p, k = .Constant (.str (dN f)) j p := by
  unfold isKey at h
  split at h
  · rename_i x j p
    exact ⟨j, p, by rw [show dN f = x from of_decide_eq_true h]⟩
  · cases h
theorem s_subK {o' : RE} {f : Nat} {e k : Expr} (o : Okx X D F T M fl C lv W c) (h : isKey f k = true) (ha : PE X e (rdE D T C W o')) : PE X (.Subscript e k pos) (rdE D T C W (.subK o' f)) := by
  obtain ⟨j, p, rfl⟩ := isKey_is h
  refine PE.imp (pe_ix (ix_K (D := D) (by have := o.u64; omega) f) ha pe_str (plainIx rfl)) fun σc H Q z => ?_
  obtain ⟨ι, S, σ, Qa, Ra, L, G, hw, cn, cx⟩ := z
  refine ⟨ι, S, σ, _, Ra, L, G, hw, fun ι1 S1 H1 v x e1 L1 r1 q1 => ?_, cx⟩
  exact ⟨ι1, S1, v, Qa, L1, r1, rfl, q1, cn.ext e1⟩
theorem so_none : PO X none (rdO D T C W .none) := ⟨fun pins s σc H Q I z => by
  obtain ⟨ι, S, σ, Qo, Ra, L, G, hw, cn, cx⟩ := z
  exact po_none.run pins s σc H Q I (show tNoPart σc H Q from cn ι S H none Ext.refl L hw)⟩
theorem so_some {a : RE} {e : Expr} (ha : PE X e (rdE D T C W a)) : PO X (some e) (rdO D T C W (.some a)) := ⟨fun pins s σc H Q I z => by
  obtain ⟨ι, S, σ, Qo, Ra, L, G, hw, cn, cx⟩ := z
  refine (po_some ha).run pins s σc H Q I (show tPart (rdE D T C W a) σc H Q from ?_)
  refine ⟨ι, S, σ, _, Ra, L, G, hw, fun ι1 S1 H1 v x e1 L1 r1 q1 => ?_, cx⟩
  obtain ⟨i, rfl, q⟩ := isInt_ex q1
  cases rv_int r1
  exact ⟨i, rfl, cn ι1 S1 H1 (some i) e1 L1 q⟩⟩
theorem s_slice {o' : RE} {lo hi : RO} {e : Expr} {l h : Option Expr} {p2 : Pos} (o : Okx X D F T M fl C lv W c) (ha : PE X e (rdE D T C W o')) (hl : PO X l (rdO D T C W lo)) (hh : PO X h (rdO D T C W hi)) :
    PE X (.Subscript e (.Slice l h none p2) pos) (rdE D T C W (.slice o' lo hi)) := by
  refine PE.imp (pe_slice (sl_G (D := D) o.hK) ha hl hh) fun σc H Q z => ?_
  obtain ⟨ι, S, σ, Qa, Ra, L, G, hw, cn, cx⟩ := z
  refine ⟨ι, S, σ, _, Ra, L, G, hw, fun ι1 S1 H1 v x e1 L1 r1 q1 => ?_, cx⟩
  refine ⟨ι1, S1, σ, _, Ra, L1, G.ext e1, q1, fun ι2 S2 H2 l' e2 L2' q2 => ?_, cx.ext e1⟩
  have e12 := e1.trans e2
  refine ⟨ι2, S2, σ, _, Ra, L2', G.ext e12, q2, fun ι3 S3 H3 h' e3 L3 q3 => ?_, cx.ext e12⟩
  exact ⟨ι3, S3, v, Qa, L3, (r1.ext e2).ext e3, q3, cn.ext (e12.trans e3)⟩
theorem s_rev {m : Bool} {o' : RE} {e : Expr} {k : Nat} {p1 p2 p3 : Pos} (o : Okx X D F T M fl C lv W c) (ha : PE X e (rdE D T C W o')) :
    PE X (.Subscript e (.Slice none none (some (.UnaryOp .USub (.Constant (.int 1) k p1) p2)) p3) pos) (rdE D T C W (.rev m o')) := by
  refine PE.imp (pe_lockR (pe_revA ha)) fun σc H Q z => ?_
  obtain ⟨ι, S, σ, Qa, Ra, L, G, hw, cn, cx⟩ := z
  refine ⟨ι, S, σ, _, Ra, L, G, hw, fun ι1 S1 H1 v x e1 L1 r1 q1 => ?_, cx⟩
  have go : (onS (lstOf S1 v) fun xs => newL m xs.reverse S1 Qa) → (∃ a xs, x = .ref a ∧ SqL X.K H1 a xs ∧ ∀ p, H1 p = none → (fun x H1 => Q x H1 ∨ lockK Q x H1) (.ref p) (upd H1 p (.lst xs.reverse))) := fun q1 => by
    obtain ⟨xs, ex, q⟩ := onS_ex q1
    obtain ⟨a, vs, rfl, hq, t⟩ := lst_at L1 ex r1
    refine ⟨a, vs, rfl, by rw [o.hK]; exact hq, fun p hp => ?_⟩
    have := (cn.ext e1).new L1 hp t.rev q
    cases m with
    | true => exact .inl this
    | false => exact .inr this
  cases v with
  | tup xs =>
    obtain ⟨a, vs, rfl, hq, t⟩ := rv_tup r1
    exact .inr ⟨a, vs, rfl, by rw [o.hK]; exact hq, fun p hp => .inl ((cn.ext e1).tup L1 hp t.rev q1)⟩
  | _ => exact .inl (go q1)

theorem vals_pick {xs : List V} {its : List Value} (r : Vals xs its) : ∀ L : List Nat, Vals (L.filterMap (xs[·]?)) (L.filterMap (its.toArray[·]?))
  | [] => .nil
  | i :: L => by
    have hl := r.length
    cases e : xs[i]? with
    | none =>
      have e2 : its.toArray[i]? = none := by
        have := List.getElem?_eq_none_iff.mp e
        simp
        omega
      rw [List.filterMap_cons_none e, List.filterMap_cons_none (f := (its.toArray[·]?)) e2]
      exact vals_pick r L
    | some x =>
      obtain ⟨u, e2, ru⟩ := r.get e
      have e2 : its.toArray[i]? = some u := by simpa using e2
      rw [List.filterMap_cons_some e, List.filterMap_cons_some (f := (its.toArray[·]?)) e2]
      exact .cons ru (vals_pick r L)
theorem rvs_pick {ι : List Addr} {H : Hp} {xs : List PV} {vs : List V} (r : RVs D ι H xs vs) : ∀ L : List Nat, RVs D ι H (L.filterMap (xs[·]?)) (L.filterMap (vs[·]?))
  | [] => .nil
  | i :: L => by
    have hl := r.len
    cases e : xs[i]? with
    | none =>
      have e2 : vs[i]? = none := by
        have := List.getElem?_eq_none_iff.mp e
        rw [List.getElem?_eq_none_iff]
        omega
      rw [List.filterMap_cons_none e, List.filterMap_cons_none e2]
      exact rvs_pick r L
    | some x =>
      obtain ⟨u, e2, ru⟩ := r.get e
      rw [List.filterMap_cons_some e, List.filterMap_cons_some e2]
      exact .cons ru (rvs_pick r L)
theorem pick_len {α : Type} (xs : List α) {st : Int} (h : st ≠ 0) : (pickL xs st).length ≤ xs.length := by
  unfold pickL
  refine Nat.le_trans (List.length_filterMap_le ..) ?_
  refine sliceRange_length_le _ _ _ _ (fun hp => ?_) fun hp => ?_
  all_goals
    simp only [sliceBounds, Option.getD_some] at hp ⊢
    first
      | rw [if_pos hp, if_pos hp]
      | rw [if_neg hp, if_neg hp]
    constructor <;> omega
def tStepL (K : PySem.W.Frag) (st : Int) (te : TE) : TE := fun σ H Q => te σ H fun x H1 => ∃ a xs, x = .ref a ∧ SqL K H1 a xs ∧ st ≠ 0 ∧ ∀ p, H1 p = none → Q (.ref p) (upd H1 p (.lst (pickL xs st)))
theorem step_core {e es : Expr} {te : TE} {st : Int} {p3 pos : Pos} (he : PE X e te) (hst : PO X (some es) fun σ H Q => Q (some st) H)
    (htl : ∀ v w, subscripted (.Slice none none (some es) p3) false v w = operate [v, w] (getItem v w)) : PE X (.Subscript e (.Slice none none (some es) p3) pos) (tStepL X.K st te) := by
  refine ⟨fun pins s σ H Q I h => ?_⟩
  refine Subscript_ (thn (he.run pins s σ H _ I h) fun v s1 ⟨x, H1, I1, r1, q1⟩ => ?_)
  obtain ⟨a, xs, ex, hx, h0, q⟩ := q1
  subst ex
  obtain rfl : v = Value.ref a := r1
  refine wpAny_Slice (thn (po_none.run pins s1 σ H1 (fun o H2 => o = none ∧ H2 = H1) I1 ⟨rfl, rfl⟩) fun vl s2 ⟨l, H2, I2, pl, el, e2⟩ => ?_)
  subst el e2
  refine thn (po_none.run pins s2 σ H2 (fun o H3 => o = none ∧ H3 = H2) I2 ⟨rfl, rfl⟩) fun vu s3 ⟨u, H3, I3, pu, eu, e3⟩ => ?_
  subst eu e3
  refine thn (hst.run pins s3 σ H3 (fun o H4 => o = some st ∧ H4 = H3) I3 ⟨rfl, rfl⟩) fun vs s4 ⟨o, H4, I4, ps, eo, e4⟩ => ?_
  subst eo e4
  have I5 : Inv X pins σ H4 { s4 with heap := s4.heap.push { cls := .type "slice", data := .fields #[vl, vu, vs] } } := I4.kept (t' := s4.toks) fun b ob q => Heap.get?_push_of_some _ q
  obtain ⟨its, r, hpl, hz⟩ := I5.list hx
  have hlen := r.length
  show wpAny (model X.prog X.w) X.A (subscriptTail e (.Slice none none (some es) p3) (.ref a) (.ref s4.heap.objs.size)) (EP X pins σ Q) X.xe { s4 with heap := s4.heap.push { cls := .type "slice", data := .fields #[vl, vu, vs] } }
  refine tail_any (ops := [.ref a, .ref s4.heap.objs.size]) hpl.isList.typeIs (PySem.slot_list_getitem.lookup) ?_ (htl _ _)
  refine wpAny_getItem_list_slice hpl.isList (Heap.IsSliceOf.new _ vl vu vs) pl pu ps (by simpa using h0) ?_ (by rw [List.size_toArray]; omega)
  refine ⟨.ref _, _, I5.laid (t' := s4.toks) (o := .lst (pickL xs st)) (fun b ob q => Heap.get?_push_of_some _ q) (Nat.le_refl _) ?_, rfl, q _ (I5.hok.fresh (Nat.le_refl _))⟩
  have hv : Vals (pickL xs st) (slicePick its.toArray none none (some st)).toList := by
    unfold slicePick pickL
    rw [List.size_toArray, ← hlen]
    exact vals_pick r _
  exact ⟨Nat.le_trans (pick_len xs h0) hz, _, 0, hv, Heap.get?_push_size _ rfl⟩
theorem s_step {o' : RE} {e : Expr} {st : Int} {es : Expr} {p3 : Pos} (o : Okx X D F T M fl C lv W c) (h : stepOk st es = true) (ha : PE X e (rdE D T C W o')) :
    PE X (.Subscript e (.Slice none none (some es) p3) pos) (rdE D T C W (.step o' st)) := by
  have core : PE X (.Subscript e (.Slice none none (some es) p3) pos) (tStepL X.K st (rdE D T C W o')) := by
    cases es with
    | Constant k j q =>
      cases k with
      | int n =>
        have h' : (decide (n = st) && decide (n ≠ 0)) = true := h
        simp only [Bool.and_eq_true, decide_eq_true_eq] at h'
        obtain ⟨rfl, _⟩ := h'
        exact step_core ha ⟨fun pins s σ H Q I h => (po_some (pe_int (i := n))).run pins s σ H Q I ⟨n, rfl, h⟩⟩ fun v w => by with_unfolding_all rfl
      | _ => cases h
    | UnaryOp u x q =>
      cases u with
      | USub =>
        cases x with
        | Constant k j q =>
          cases k with
          | int n =>
            have h' : (decide (-n = st) && decide (n ≠ 0)) = true := h
            simp only [Bool.and_eq_true, decide_eq_true_eq] at h'
            obtain ⟨rfl, _⟩ := h'
            exact step_core ha ⟨fun pins s σ H Q I h => (po_some (pe_un un_neg (pe_int (i := n)))).run pins s σ H Q I ⟨n, rfl, -n, rfl, h⟩⟩ fun v w => by with_unfolding_all rfl
          | _ => cases h
        | _ => cases h
      | _ => cases h
    | _ => cases h
  refine PE.imp (pe_fz core) fun σc H Q z => ?_
  obtain ⟨ι, S, σ, Qa, Ra, L, G, hw, cn, cx⟩ := z
  refine ⟨ι, S, σ, _, Ra, L, G, hw, fun ι1 S1 H1 v x e1 L1 r1 q1 => ?_, cx⟩
  obtain ⟨xs, ex, q1⟩ := onS_ex (show onS (lstOf S1 v) fun xs => onT (decide (st ≠ 0)) (Qa (.ls (pickL xs st)) S1) from q1)
  obtain ⟨h0, q⟩ := onT_ex q1
  have h0 := of_decide_eq_true h0
  obtain ⟨a, vs, rfl, hq, t⟩ := lst_at L1 ex r1
  have tp : RVs D ι1 H1 (pickL xs st) (pickL vs st) := by
    unfold pickL
    rw [t.len]
    exact rvs_pick t _
  exact ⟨a, vs, rfl, by rw [o.hK]; exact hq, h0, fun p hp => (cn.ext e1).frz L1 hp tp q⟩
theorem s_gty {n : BT} {x : Str} (o : Okx X D F T M fl C lv W c) (h : okGl c n.nm x = true) (hn : n ≠ .non) (hb : (M.nb.any (· == n.nm)) = true) : PE X (.Name x pos) (rdE D T C W (.gty n)) := by
  obtain ⟨e, hg, hd, hnn⟩ := gl_of o h
  subst e
  obtain ⟨y, hy, e⟩ := List.any_eq_true.mp hb
  have e : y = n.nm := eq_of_beq e
  subst e
  have hv : bootBuiltins (sN n.nm) = some (.type n.nm) := by
    cases n <;> first | exact absurd rfl hn | decide +kernel
  refine PE.imp (pe_bltn (v := .ty n.nm) hg (o.lk.nb _ hy) hv rfl hnn hd) fun σc H Q z => ?_
  obtain ⟨ι, S, σ, Qa, Ra, L, G, hw, cn, cx⟩ := z
  exact cn.here L (show RV D ι H (.ty n) (.ty n.nm) from rfl) (show Qa (.ty n) S from hw)
/-- a field of an instance as it lies -/
theorem fld_look {ι : List Addr} {H : Hp} {f : Nat} : ∀ {fs : List (Nat × PV)} {fs' : List (Str × V)} {v : PV}, fs'.map (·.1) = fs.map (fun p => dN p.1) → RVs D ι H (fs.map (·.2)) (fs'.map (·.2)) → fs.lookup f = some v → ∃ x, fs'.lookup (dN f) = some x ∧ RV D ι H v x
  | [], fs', v, h1, h2, h3 => by cases h3
  | (g, w) :: fs, [], v, h1, h2, h3 => by cases h1
  | (g, w) :: fs, (g', w') :: fs', v, h1, h2, h3 => by
    have h1' : g' :: fs'.map (·.1) = dN g :: fs.map (fun p => dN p.1) := h1
    injection h1' with e1 e2
    obtain ⟨x, r, e3, r1, r2⟩ := h2
    have e3' : w' :: fs'.map (·.2) = x :: r := e3
    injection e3' with e4 e5
    subst e1 e4 e5
    rw [List.lookup_cons] at h3 ⊢
    by_cases hf : f = g
    · subst hf
      rw [beq_self_eq_true] at h3 ⊢
      cases h3
      exact ⟨w', rfl, r1⟩
    · have n1 : (f == g) = false := beq_eq_false_iff_ne.mpr hf
      have n2 : (dN f == dN g) = false := beq_eq_false_iff_ne.mpr fun z => hf (dN_inj z)
      rw [n1] at h3
      rw [n2]
      exact fld_look e2 r2 h3
theorem fld_none {f : Nat} : ∀ {fs : List (Nat × PV)} {fs' : List (Str × V)}, fs'.map (·.1) = fs.map (fun p => dN p.1) → fs.lookup f = none → fs'.lookup (dN f) = none
  | [], [], _, _ => rfl
  | [], _ :: _, h1, _ => by cases h1
  | (g, w) :: fs, [], h1, _ => by cases h1
  | (g, w) :: fs, (g', w') :: fs', h1, h3 => by
    have h1' : g' :: fs'.map (·.1) = dN g :: fs.map (fun p => dN p.1) := h1
    injection h1' with e1 e2
    subst e1
    rw [List.lookup_cons] at h3 ⊢
    by_cases hf : f = g
    · subst hf
      rw [beq_self_eq_true] at h3
      cases h3
    · have n1 : (f == g) = false := beq_eq_false_iff_ne.mpr hf
      have n2 : (dN f == dN g) = false := beq_eq_false_iff_ne.mpr fun z => hf (dN_inj z)
      rw [n1] at h3
      rw [n2]
      exact fld_none e2 h3
theorem base_of {e : Expr} {f : Str} {env : Env} (h : notSuper e = true) (w : Sem Value) : attributeBase e f env w = w := by
  cases e <;> first
    | rfl
    | skip
  rename_i g as kws p
  cases g <;> first
    | rfl
    | skip
  rename_i x px
  cases as <;> first
    | rfl
    | skip
  cases kws <;> first
    | rfl
    | skip
  have hx : (x == ("super" : Str)) = false := by
    have h' : (!(x == ("super" : Str))) = true := h
    simpa using h'
  show (if (x != ("super" : Str) || f == ("__class__" : Str) || env.kindOf "super" != some .globalImplicit || env.kindOf "__class__" != some .free) = true then _ else _) = w
  have e1 : (x != ("super" : Str)) = true := by
    unfold bne
    rw [hx] <;> rfl
  rw [e1, Bool.true_or, Bool.true_or, Bool.true_or, if_pos rfl]
theorem fldOf_cases {S : Store} {v x : PV} {f : Nat} (h : fldOf T S v f = some x) : ∃ k fs cd, insOf S v = some (k, fs) ∧ T.cls[k]? = some cd ∧ fs.lookup f = some x := by
  unfold fldOf at h
  simp only [Option.bind_eq_some_iff] at h
  obtain ⟨⟨k, fs⟩, e1, cd, e2, e3⟩ := h
  exact ⟨k, fs, cd, e1, e2, e3⟩
theorem s_fld {a : RE} {f : Nat} {e : Expr} (o : Okx X D F T M fl C lv W c) (hf : f ∈ fl) (hb : notSuper e = true) (ha : PE X e (rdE D T C W a)) : PE X (.Attribute e (dN f) pos) (rdE D T C W (.fld a f)) := by
  refine PE.imp (pe_fld ha (base_of hb _)) fun σc H Q z => ?_
  obtain ⟨ι, S, σ, Qa, Ra, L, G, hw, cn, cx⟩ := z
  refine ⟨ι, S, σ, _, Ra, L, G, hw, fun ι1 S1 H1 v x e1 L1 r1 q1 => ?_, cx⟩
  obtain ⟨y, ey, q⟩ := onS_ex q1
  obtain ⟨k, fs, cd, es, ec, el⟩ := fldOf_cases ey
  obtain ⟨p, dx, fs', rfl, hp, n1, n2⟩ := ins_at L1 es r1
  obtain ⟨y', ly', ry⟩ := fld_look n1 n2 el
  obtain ⟨c1, c2, c3⟩ := o.lk.ms k cd ec
  exact ⟨p, D.ca k, dx, fs', y', rfl, hp, by rw [o.hK]; exact c1, by rw [o.hK]; exact c3 f hf, ly', (cn.ext e1).here L1 ry q⟩

/-! ### calls -/
theorem vals_len {vs : List PV} {xs : List V} {us : List Value} {ι : List Addr} {H : Hp} (r : RVs D ι H vs xs) (rx : Vals xs us) : us.length = vs.length := by rw [← rx.length, r.len]
theorem binds_at {sh : Shape} {d : FDef} {dv : List Value} {h : Shared} {us ws : List Value} (l1 : us.length = sh.np) (l2 : ws.length = sh.ks.length) {bs : List (Str × Value)} {pre : List Value}
    (b : BindsTo h (F.fd sh.f) ⟨pre ++ (us ++ ws).take sh.np, (sh.ks.map sN).zip ((us ++ ws).drop sh.np)⟩ bs) : BindsTo h (F.fd sh.f) ⟨pre ++ us, (sh.ks.map sN).zip ws⟩ bs := by
  rw [← l1, List.take_left, List.drop_left] at b
  exact b
/-- the call of a def with its values -/
theorem call_at {f : Nat} {ks : List String} {arr : List (Nat ⊕ PV)} {np : Nat} {pins : List (Addr × Obj)} {σc : L2.St} {s : Shared} {ι : List Addr} {H : Hp} {S : Store} {vs ws : List PV} {xs ys : List V} {us u2 : List Value} {Qa : QV} {Ra : QX} {Q : VK}
    (o : Okx X D F T M fl C lv W c) (hs : M.has f false np ks arr = true) (I : Inv X pins σc H s) (L : Ly D ι H S) (r1 : RVs D ι H vs xs) (x1 : Vals xs us) (r2 : RVs D ι H ws ys) (x2 : Vals ys u2) (l1 : vs.length = np) (l2 : ws.length = ks.length)
    (hc : C f (fill arr (vs ++ ws)) S Qa Ra) (cn : Cnt D ι H Qa Q) (cx : CnX D ι H Ra σc W) : wpAny (model X.prog X.w) X.A (call (.ref (D.fa f)) us ((ks.map sN).zip u2)) (EP X pins σc Q) X.xe s := by
  obtain ⟨d, hd⟩ := o.lk.inn _ _ _ _ _ hc
  obtain ⟨dv, hdf, hb⟩ := o.lk.sh _ (Nm.has_mem hs) d hd
  obtain ⟨zs, rz, vz⟩ := fill_rel (r1.app r2) (x1.append x2) arr dv hdf
  have G := o.lk.fn f d hd (o.lk.sg _ (Nm.has_mem hs))
  rw [← o.hK] at G
  have e1 := vals_len r1 x1
  have e2 := vals_len r2 x2
  have b := hb s .none (us ++ u2) (by rw [← o.hK]; exact I.kIn) (by rw [List.length_append, e1, e2, l1, l2])
  have b := binds_at (F := F) (d := d) (dv := dv) (sh := ⟨f, false, np, ks, arr⟩) (e1.trans l1) (e2.trans l2) b
  refine run_g G (o.room.mono (Nat.le_succ _)) o.grd o.tk I vz (by simpa using b) ?_
  exact ⟨ι, S, _, Qa, Ra, L, rz, hc, cn, fun ι' S' H' x cls dd e l rx q => cx ι' S' H' x cls dd e l rx q⟩
/-- behind a row of arguments -/
def Behind (X : Cx) (D : Ad) (pins : List (Addr × Obj)) (σc : L2.St) (ι : List Addr) (H : Hp) (n : Nat) (Qs : List PV → Store → Prop) (us : List Value) (s' : Shared) : Prop :=
  ∃ xs H1 ι1 S1 vs, Inv X pins σc H1 s' ∧ Vals xs us ∧ Ext ι H ι1 H1 ∧ Ly D ι1 H1 S1 ∧ RVs D ι1 H1 vs xs ∧ vs.length = n ∧ Qs vs S1
theorem es_run {es : REs} {as : List Expr} (ha : PA X as (rdEs D T C W es)) {pins : List (Addr × Obj)} {σc : L2.St} {s : Shared} {ι : List Addr} {H : Hp} {S : Store} {σ : Sg} {Qs : List PV → Store → Prop} {Ra : QX}
    (I : Inv X pins σc H s) (L : Ly D ι H S) (G : RG D ι H σ σc) (hw : wpEs T C es σ S Qs Ra) (cx : CnX D ι H Ra σc W) (pos : Pos) :
    wpAny (model X.prog X.w) X.A (spliced (backTo pos (starEach as X.env))) (Behind X D pins σc ι H es.len Qs) X.xe s :=
  thn (ha.run pos pins s σc H (fun xs H1 => ∃ ι1 S1 vs, Ext ι H ι1 H1 ∧ Ly D ι1 H1 S1 ∧ RVs D ι1 H1 vs xs ∧ vs.length = es.len ∧ Qs vs S1) I
    ⟨ι, S, σ, Qs, Ra, L, G, hw, fun ι1 S1 H1 vs xs e1 L1 r1 l1 q1 => ⟨ι1, S1, vs, e1, L1, r1, l1, q1⟩, cx⟩)
    fun us s1 ⟨xs, H1, I1, rx, ι1, S1, vs, e1, L1, r1, l1, q1⟩ => ⟨xs, H1, ι1, S1, vs, I1, rx, e1, L1, r1, l1, q1⟩
theorem ks_run {es : REs} {kws : List Keyword} (hk : PK X kws (rdEs D T C W es)) {pins : List (Addr × Obj)} {σc : L2.St} {s : Shared} {ι : List Addr} {H : Hp} {S : Store} {σ : Sg} {Qs : List PV → Store → Prop} {Ra : QX}
    (I : Inv X pins σc H s) (L : Ly D ι H S) (G : RG D ι H σ σc) (hw : wpEs T C es σ S Qs Ra) (cx : CnX D ι H Ra σc W) (pos : Pos) :
    wpAny (model X.prog X.w) X.A (evalAll ((backToKw pos (keywordEach kws X.env)).map (·.2))) (Behind X D pins σc ι H es.len Qs) X.xe s :=
  thn (hk.run pos pins s σc H (fun xs H1 => ∃ ι1 S1 vs, Ext ι H ι1 H1 ∧ Ly D ι1 H1 S1 ∧ RVs D ι1 H1 vs xs ∧ vs.length = es.len ∧ Qs vs S1) I
    ⟨ι, S, σ, Qs, Ra, L, G, hw, fun ι1 S1 H1 vs xs e1 L1 r1 l1 q1 => ⟨ι1, S1, vs, e1, L1, r1, l1, q1⟩, cx⟩)
    fun us s1 ⟨xs, H1, I1, rx, ι1, S1, vs, e1, L1, r1, l1, q1⟩ => ⟨xs, H1, ι1, S1, vs, I1, rx, e1, L1, r1, l1, q1⟩
/-- a call written with places and names, f kept alive by the written part: what is left is the call of its value -/
theorem args_run {fv : Value} {first : List Value} {es kes : REs} {as : List Expr} {kws : List Keyword} {ks : List String} {pins : List (Addr × Obj)} {σc : L2.St} {s : Shared} {ι : List Addr} {H : Hp} {S : Store} {σ : Sg} {P : List PV → List PV → Store → Prop} {Ra : QX} {Qf : Value → Shared → Prop}
    (hkp : PySem.W.keepIn X.K fv = true) (hl : as.length = es.len) (ha : PA X as (rdEs D T C W es)) (hn : noStar as = true) (hk : PK X kws (rdEs D T C W kes)) (hkl : kws.length = kes.len) (hnm : namesOf kws = ks.map fun k => some (sN k)) (hne : (kws.isEmpty || !as.isEmpty) = true)
    (I : Inv X pins σc H s) (L : Ly D ι H S) (G : RG D ι H σ σc) (hw : wpEs T C es σ S (fun vs S1 => wpEs T C kes σ S1 (fun ws S2 => P vs ws S2) Ra) Ra) (cx : CnX D ι H Ra σc W) (pos : Pos)
    (fin : ∀ us u2 s2 xs ys H2 ι2 S2 vs ws, Inv X pins σc H2 s2 → Vals xs us → Vals ys u2 → Ext ι H ι2 H2 → Ly D ι2 H2 S2 → RVs D ι2 H2 vs xs → RVs D ι2 H2 ws ys → vs.length = as.length → ws.length = ks.length → P vs ws S2 →
      wpAny (model X.prog X.w) X.A (call fv (first ++ us) ((ks.map sN).zip u2)) Qf X.xe s2) :
    wpAny (model X.prog X.w) X.A (callWith pos fv first (backTo pos (starEach as X.env)) (backToKw pos (keywordEach kws X.env))) Qf X.xe s := by
  obtain ⟨k1, k2, k3⟩ := kw_names (env := X.env) (pos := pos) hnm
  have hkl2 : kes.len = ks.length := by rw [← hkl]; exact names_len hnm
  cases kws with
  | nil =>
    have hk0 : kes = .nil := by cases kes with
      | nil => rfl
      | cons a b => cases hkl
    have hks : ks = [] := by cases ks with
      | nil => rfl
      | cons a b => cases hnm
    subst hk0 hks
    cases as with
    | nil =>
      have he0 : es = .nil := by cases es with
        | nil => rfl
        | cons a b => cases hl
      subst he0
      exact PySem.W.callWith_K0 I.kIn hkp (fin [] [] s [] [] H ι S [] [] I .nil .nil Ext.refl L .nil .nil rfl rfl hw)
    | cons a as =>
      refine PySem.W.callWith_K (h₀ := X.base) I.ok.mod.kin hkp (thn (es_run ha I L G hw cx pos) fun us s1 h1 => ?_) (noStar_cons hn).1 (noStar_any (noStar_cons (env := X.env) hn).2)
      obtain ⟨xs, H1, ι1, S1, vs, I1, rx, e1, L1, r1, l1, q1⟩ := h1
      exact ⟨I1.kIn, fin us [] s1 xs [] H1 ι1 S1 vs [] I1 rx .nil e1 L1 r1 .nil (l1.trans hl.symm) rfl q1⟩
  | cons kw kws =>
    cases as with
    | nil => cases hne
    | cons a as =>
      refine PySem.W.callWith_KW (h₀ := X.base) I.ok.mod.kin hkp k1 (thn (es_run ha I L G hw cx pos) fun us s1 h1 => ?_) (by rw [noStar_any hn, k3] <;> rfl) (noStar_cons hn).1
      obtain ⟨xs, H1, ι1, S1, vs, I1, rx, e1, L1, r1, l1, q1⟩ := h1
      refine thn (ks_run hk I1 L1 (G.ext e1) q1 (cx.ext e1) pos) fun u2 s2 h2 => ?_
      obtain ⟨ys, H2, ι2, S2, ws, I2, ry, e2, L2', r2, l2, q2⟩ := h2
      refine ⟨I2.kIn, ?_⟩
      rw [k2]
      exact fin us u2 s2 xs ys H2 ι2 S2 vs ws I2 rx ry (e1.trans e2) L2' (r1.ext e2) r2 (l1.trans hl.symm) (l2.trans hkl2) q2
theorem s_call {f : Nat} {s : String} {es : REs} {ks : List String} {kes : REs} {arr : List (Nat ⊕ PV)} {x : Str} {as : List Expr} {kws : List Keyword} {p : Pos} (o : Okx X D F T M fl C lv W c) (hx : okGl c s x = true) (hf : (M.gf.any (fun p => p.1 == s && p.2 == f)) = true)
    (hl : as.length = es.len) (ha : PA X as (rdEs D T C W es)) (hn : noStar as = true) (hk : PK X kws (rdEs D T C W kes)) (hkl : kws.length = kes.len) (hnm : namesOf kws = ks.map fun k => some (sN k)) (hne : (kws.isEmpty || !as.isEmpty) = true) (hs : M.has f false as.length ks arr = true) :
    PE X (.Call (.Name x p) as kws pos) (rdE D T C W (.call f s es ks kes arr)) := by
  obtain ⟨e, hg, hd, _⟩ := gl_of o hx
  subst e
  obtain ⟨pr, hp, e⟩ := List.any_eq_true.mp hf
  rw [Bool.and_eq_true] at e
  obtain ⟨pr1, pr2⟩ := pr
  have e1 : pr1 = s := eq_of_beq e.1
  have e2 : pr2 = f := eq_of_beq e.2
  subst e1 e2
  obtain ⟨hm, hkp⟩ := o.lk.gf _ _ hp
  refine ⟨fun pins st σc H Q I z => ?_⟩
  obtain ⟨ι, S, σ, Qa, Ra, L, G, hw, cn, cx⟩ := z
  refine wpAny_Call_Name_kw (ld_glob I hg hm ?_ hd)
  refine args_run (P := fun vs ws S2 => C pr2 (fill arr (vs ++ ws)) S2 Qa Ra) (by rw [o.hK]; exact hkp) hl ha hn hk hkl hnm hne I L G hw cx pos fun us u2 s2 xs ys H2 ι2 S2 vs ws I2 rx ry e2 L2' r1 r2 l1 l2 q => ?_
  exact call_at o hs I2 L2' r1 rx r2 ry l1 l2 q (cn.ext e2) (cx.ext e2)

/-- a new instance of a class of the table -/
theorem s_make {k : Nat} {s : String} {es : REs} {ks : List String} {kes : REs} {arr : List (Nat ⊕ PV)} {x : Str} {as : List Expr} {kws : List Keyword} {p : Pos} (o : Okx X D F T M fl C lv W c) (hx : okGl c s x = true) (hf : (M.gc.any (fun p => p.1 == s && p.2 == k)) = true)
    (hl : as.length = es.len) (ha : PA X as (rdEs D T C W es)) (hn : noStar as = true) (hk : PK X kws (rdEs D T C W kes)) (hkl : kws.length = kes.len) (hnm : namesOf kws = ks.map fun k => some (sN k)) (hne : (kws.isEmpty || !as.isEmpty) = true)
    (hs : ∀ f, (T.cls[k]?).bind (·.ini) = some f → M.has f true as.length ks arr = true) (hi : ∃ f, (T.cls[k]?).bind (·.ini) = some f) :
    PE X (.Call (.Name x p) as kws pos) (rdE D T C W (.make k s es ks kes arr)) := by
  obtain ⟨e, hg, hd, _⟩ := gl_of o hx
  subst e
  obtain ⟨pr, hp, e⟩ := List.any_eq_true.mp hf
  rw [Bool.and_eq_true] at e
  obtain ⟨pr1, pr2⟩ := pr
  have e1 : pr1 = s := eq_of_beq e.1
  have e2 : pr2 = k := eq_of_beq e.2
  subst e1 e2
  obtain ⟨hm, hmk⟩ := o.lk.gc _ _ hp
  obtain ⟨f0, hf0⟩ := hi
  have MK := hmk f0 hf0
  rw [← o.hK] at MK
  refine ⟨fun pins st σc H Q I z => ?_⟩
  obtain ⟨ι, S, σ, Qa, Ra, L, G, hw, cn, cx⟩ := z
  refine wpAny_Call_Name_kw (ld_glob I hg hm ?_ hd)
  refine args_run (P := fun vs ws S2 => onS ((T.cls[pr2]?).bind (·.ini)) fun f => C f (.ref S2.length :: fill arr (vs ++ ws)) (S2 ++ [SO.ins pr2 []]) (fun v S3 => match v with | .non => Qa (.ref S2.length) S3 | _ => False) Ra) MK.kp hl ha hn hk hkl hnm hne I L G hw cx pos
    fun us u2 s2 xs ys H2 ι2 S2 vs ws I2 rx ry e2 L2' r1 r2 l1 l2 q => ?_
  obtain ⟨f, hf, hc⟩ := onS_ex q
  rw [hf0] at hf
  cases hf
  obtain ⟨d, hd⟩ := o.lk.inn _ _ _ _ _ hc
  obtain ⟨dv, hdf, hb⟩ := o.lk.sh _ (Nm.has_mem (hs f0 hf0)) d hd
  obtain ⟨zs, rz, vz⟩ := fill_rel (r1.app r2) (rx.append ry) arr dv hdf
  have GF := o.lk.fn f0 d hd (o.lk.sg _ (Nm.has_mem (hs f0 hf0)))
  rw [← o.hK] at GF
  have n1 := vals_len r1 rx
  have n2 := vals_len r2 ry
  refine run_gmake MK GF o.room o.grd o.tk I2 vz (fun h self KI => ?_) fun a dx na ndx nad => ?_
  · have b := hb h self (us ++ u2) (by rw [← o.hK]; exact KI) (by rw [List.length_append, n1, n2, l1, l2])
    have b := binds_at (F := F) (d := d) (dv := dv) (sh := ⟨f0, true, as.length, ks, arr⟩) (n1.trans l1) (n2.trans l2) b
    simpa using b
  · have keep : ∀ b u, H2 b = some u → (upd (upd H2 dx (.own a)) a (.ins (D.ca pr2) dx [])) b = some u := fun b u hb => by
      rw [upd_ne (ne_of_none hb na), upd_ne (ne_of_none hb ndx)]
      exact hb
    have xt := ext_push L2' na keep
    have l3 := ly_push (o := .ins pr2 []) L2' na keep upd_same ⟨dx, [], rfl, rfl, .nil⟩
    have self : ∀ {ι' : List Addr} {H' : Hp}, Ext (ι2 ++ [a]) (upd (upd H2 dx (.own a)) a (.ins (D.ca pr2) dx [])) ι' H' → RV D ι' H' (.ref S2.length) (.ref a) := fun e => by
      refine ⟨a, e.get ?_, rfl⟩
      rw [← L2'.len, List.getElem?_append_right (Nat.le_refl _), Nat.sub_self]
      rfl
    refine ⟨_, _, _, _, Ra, l3, .cons (self Ext.refl) (rz.ext xt), hc, fun ι' S' H' v y e l r q => ?_, fun ι' S' H' y cls dd e l r q => cx ι' S' H' y cls dd ((e2.trans xt).trans e) l r q⟩
    obtain ⟨rfl, q⟩ : v = .non ∧ Qa (.ref S2.length) S' := by
      cases v <;> first
        | exact ⟨rfl, q⟩
        | exact q.elim
    exact ⟨rv_non r, cn ι' S' H' _ _ ((e2.trans xt).trans e) l (self e) q⟩


theorem inr_getD {n : Nat} : ∀ {l : List PV} (i : Nat), PV.inRs n l = true → (l.getD i .non).inR n = true
  | [], i, _ => by simp; rfl
  | x :: l, 0, h => by
    have h : (PV.inR n x && PV.inRs n l) = true := h
    rw [Bool.and_eq_true] at h
    simpa using h.1
  | x :: l, i + 1, h => by
    have h : (PV.inR n x && PV.inRs n l) = true := h
    rw [Bool.and_eq_true] at h
    simpa using inr_getD i h.2
theorem inr_flds {n : Nat} {l : List PV} (h : PV.inRs n l = true) : ∀ fl : List (Nat × Nat), PV.inRs n (fldsOf fl l) = true
  | [] => rfl
  | p :: r => by
    show (PV.inR n (l.getD p.2 .non) && PV.inRs n (fldsOf r l)) = true
    rw [inr_getD _ h, inr_flds h r] <;> rfl
theorem pre_one {α : Type} {a b l : List α} (e : b = a ++ l) (h : b.length = a.length) : b = a := by
  subst e
  rw [List.length_append] at h
  rw [List.eq_nil_of_length_eq_zero (by omega : l.length = 0), List.append_nil]
/-- a new instance that never changes -/
theorem s_mko {k : Nat} {fz : List (Nat × Nat)} {s : String} {es : REs} {ks : List String} {kes : REs} {arr : List (Nat ⊕ PV)} {x : Str} {as : List Expr} {kws : List Keyword} {p : Pos} (o : Okx X D F T M fl C lv W c) (hx : okGl c s x = true) (hf : (M.gc.any (fun p => p.1 == s && p.2 == k)) = true)
    (hl : as.length = es.len) (ha : PA X as (rdEs D T C W es)) (hn : noStar as = true) (hk : PK X kws (rdEs D T C W kes)) (hkl : kws.length = kes.len) (hnm : namesOf kws = ks.map fun k => some (sN k)) (hne : (kws.isEmpty || !as.isEmpty) = true)
    (hs : ∀ f, (T.cls[k]?).bind (·.ini) = some f → M.has f true as.length ks arr = true) (hi : ∃ f, (T.cls[k]?).bind (·.ini) = some f) :
    PE X (.Call (.Name x p) as kws pos) (rdE D T C W (.mko k s es ks kes arr fz)) := by
  obtain ⟨e, hg, hd, _⟩ := gl_of o hx
  subst e
  obtain ⟨pr, hp, e⟩ := List.any_eq_true.mp hf
  rw [Bool.and_eq_true] at e
  obtain ⟨pr1, pr2⟩ := pr
  have e1 : pr1 = s := eq_of_beq e.1
  have e2 : pr2 = k := eq_of_beq e.2
  subst e1 e2
  obtain ⟨hm, hmk⟩ := o.lk.gc _ _ hp
  obtain ⟨f0, hf0⟩ := hi
  have MK := hmk f0 hf0
  rw [← o.hK] at MK
  refine ⟨fun pins st σc H Q I z => ?_⟩
  obtain ⟨ι, S, σ, Qa, Ra, L, G, hw, cn, cx⟩ := z
  refine wpAny_Call_Name_kw (ld_glob I hg hm ?_ hd)
  refine args_run (P := fun vs ws S2 => (∃ f, (T.cls[pr2]?).bind (·.ini) = some f ∧ C f (.ref S2.length :: fill arr (vs ++ ws)) (S2 ++ [SO.ins pr2 []]) (fun v S3 => v = .non ∧ S3 = S2 ++ [SO.ins pr2 ((fz.map (·.1)).zip (fldsOf fz (fill arr (vs ++ ws))))]) (fun _ _ => False)) ∧ Qa (.obj pr2 (fz.map (·.1)) (fldsOf fz (fill arr (vs ++ ws)))) S2) MK.kp hl ha hn hk hkl hnm hne I L G hw cx pos
    fun us u2 s2 xs ys H2 ι2 S2 vs ws I2 rx ry e2 L2' r1 r2 l1 l2 q => ?_
  obtain ⟨⟨f, hf, hc⟩, qz⟩ := q
  rw [hf0] at hf
  cases hf
  obtain ⟨d, hd⟩ := o.lk.inn _ _ _ _ _ hc
  obtain ⟨dv, hdf, hb⟩ := o.lk.sh _ (Nm.has_mem (hs f0 hf0)) d hd
  obtain ⟨zs, rz, vz⟩ := fill_rel (r1.app r2) (rx.append ry) arr dv hdf
  have GF := o.lk.fn f0 d hd (o.lk.sg _ (Nm.has_mem (hs f0 hf0)))
  rw [← o.hK] at GF
  have n1 := vals_len r1 rx
  have n2 := vals_len r2 ry
  refine run_gmake MK GF o.room o.grd o.tk I2 vz (fun h self KI => ?_) fun a dx na ndx nad => ?_
  · have b := hb h self (us ++ u2) (by rw [← o.hK]; exact KI) (by rw [List.length_append, n1, n2, l1, l2])
    have b := binds_at (F := F) (d := d) (dv := dv) (sh := ⟨f0, true, as.length, ks, arr⟩) (n1.trans l1) (n2.trans l2) b
    simpa using b
  · have keep : ∀ b u, H2 b = some u → (upd (upd H2 dx (.own a)) a (.ins (D.ca pr2) dx [])) b = some u := fun b u hb => by
      rw [upd_ne (ne_of_none hb na), upd_ne (ne_of_none hb ndx)]
      exact hb
    have xt := ext_push L2' na keep
    have l3 := ly_push (o := .ins pr2 []) L2' na keep upd_same ⟨dx, [], rfl, rfl, .nil⟩
    have self : ∀ {ι' : List Addr} {H' : Hp}, Ext (ι2 ++ [a]) (upd (upd H2 dx (.own a)) a (.ins (D.ca pr2) dx [])) ι' H' → RV D ι' H' (.ref S2.length) (.ref a) := fun e => by
      refine ⟨a, e.get ?_, rfl⟩
      rw [← L2'.len, List.getElem?_append_right (Nat.le_refl _), Nat.sub_self]
      rfl
    refine ⟨_, _, _, _, _, l3, .cons (self Ext.refl) (rz.ext xt), hc, fun ι' S' H' v y e l r q => ?_, fun ι' S' H' y cls dd e l r q => q.elim⟩
    obtain ⟨rfl, rfl⟩ := q
    refine ⟨rv_non r, ?_⟩
    obtain ⟨l0, el0, _⟩ := id e.pre
    have e4 := pre_one el0 (by rw [l.len, List.length_append, List.length_append, L2'.len]; rfl)
    subst e4
    have xc := ext_cut (xt.trans e)
    have lc := ly_cut L2' (xt.trans e) l ⟨⟨_, rfl⟩, rfl, fun i o h => .inl h⟩
    obtain ⟨a', ho, ea, eh, dx', fs', rfl, k1, k2⟩ := l.at_ S2.length (.ins pr2 ((fz.map (·.1)).zip (fldsOf fz (fill arr (vs ++ ws))))) (by rw [List.getElem?_append_right (Nat.le_refl _), Nat.sub_self]; rfl)
    rw [← L2'.len, List.getElem?_append_right (Nat.le_refl _), Nat.sub_self] at ea
    cases ea
    have lf : (fz.map (·.1)).length = (fldsOf fz (fill arr (vs ++ ws))).length := by
      unfold fldsOf
      rw [List.length_map, List.length_map]
    refine cn ι2 S2 H' (.obj pr2 (fz.map (·.1)) (fldsOf fz (fill arr (vs ++ ws)))) (.ref a) (e2.trans xc) lc ⟨a, dx', fs', rfl, not_mem_of_none L2' na, eh, ?_, ?_⟩ qz
    · rw [k1, show (fun p : Nat × PV => dN p.1) = dN ∘ Prod.fst from rfl, ← List.map_map, List.map_fst_zip (by omega)]
    · rw [List.map_snd_zip (by omega)] at k2
      exact k2.cut rfl (by rw [L2'.len]; exact inr_flds (by rw [← L2'.len]; exact rz.inr rfl) fz)

/-! ### built-in calls -/
theorem boot_blt (b : Blt) : bootBuiltins (sN b.nm) = some b.val := by
  cases b <;> decide +kernel
theorem s_blt {b : Blt} {es : REs} {x : Str} {as : List Expr} {p : Pos} (o : Okx X D F T M fl C lv W c) (hx : okGl c b.nm x = true) (hb : (M.nb.any (· == b.nm)) = true) (ha : PA X as (rdEs D T C W es)) (hn : noStar as = true) (hne : (!as.isEmpty) = true) :
    PE X (.Call (.Name x p) as [] pos) (rdE D T C W (.blt b es)) := by
  obtain ⟨e, hg, hd, hnn⟩ := gl_of o hx
  subst e
  obtain ⟨y, hy, e⟩ := List.any_eq_true.mp hb
  have e : y = b.nm := eq_of_beq e
  subst e
  have hm := o.lk.nb _ hy
  have hc := blt_G (D := D) o.hK o.calm o.grd o.u80 o.lk.is b
  cases as with
  | nil => cases hne
  | cons a as =>
    have s1 := (noStar_cons (env := X.env) hn).1
    have s2 := noStar_any (env := X.env) (pos := pos) (noStar_cons (env := X.env) hn).2
    have fin : ∀ {t : TE}, PE X (.Call (.Name (sN b.nm) p) (a :: as) [] pos) (tCB (rdVs D fun vs S Q => wpBlt T b vs S Q) (rdEs D T C W es)) := by
      intro _
      have hv := boot_blt b
      cases b <;> first
        | exact pe_callB hc hg hm hv ha hnn hd s1 s2
        | exact pe_callTy hc hg hm hv ha hnn hd s1 s2
    refine PE.imp (fin (t := fun _ _ _ => True)) fun σc H Q z => ?_
    obtain ⟨ι, S, σ, Qa, Ra, L, G, hw, cn, cx⟩ := z
    exact ⟨ι, S, σ, _, Ra, L, G, hw, fun ι1 S1 H1 vs xs e1 L1 r1 l1 q1 => ⟨ι1, S1, vs, Qa, L1, r1, q1, cn.ext e1⟩, cx⟩
theorem s_listM {es : REs} {x : Str} {as : List Expr} {p : Pos} (o : Okx X D F T M fl C lv W c) (hx : okGl c "list" x = true) (hb : (M.nb.any (· == "list")) = true) (ha : PA X as (rdEs D T C W es)) (hn : noStar as = true) (hne : (!as.isEmpty) = true) :
    PE X (.Call (.Name x p) as [] pos) (rdE D T C W (.listM es)) := by
  obtain ⟨e, hg, hd, hnn⟩ := gl_of o hx
  subst e
  obtain ⟨y, hy, e⟩ := List.any_eq_true.mp hb
  have e : y = "list" := eq_of_beq e
  subst e
  have hm := o.lk.nb _ hy
  have hc := blt_listM (X := X) (D := D) o.hK
  cases as with
  | nil => cases hne
  | cons a as =>
    have s1 := (noStar_cons (env := X.env) hn).1
    have s2 := noStar_any (env := X.env) (pos := pos) (noStar_cons (env := X.env) hn).2
    refine PE.imp (pe_callTy hc hg hm (boot_blt .list) ha hnn hd s1 s2) fun σc H Q z => ?_
    obtain ⟨ι, S, σ, Qa, Ra, L, G, hw, cn, cx⟩ := z
    exact ⟨ι, S, σ, _, Ra, L, G, hw, fun ι1 S1 H1 vs xs e1 L1 r1 l1 q1 => ⟨ι1, S1, vs, Qa, L1, r1, q1, cn.ext e1⟩, cx⟩
end
end Rp
/-! # Functions that nested defs made: called -/
namespace Rp
open PySem PySem.Spec PyProof.Rows L2

/-- no captured cell -/
def NoCell (o : HO) : Prop := ∀ ob k, o ≠ .frz ob (.own k)
theorem nc_imm {o : HO} (h : (∃ xs, o = .tup xs) ∨ (∃ ob xs, o = .frz ob (.tup xs)) ∨ (∃ ob xs, o = .frz ob (.lst xs)) ∨ (∃ ob xs, o = .frz ob (.dK xs)) ∨ (∃ C d f, o = .ins C d f) ∨ (∃ φ, o = .ext φ)) : NoCell o := fun ob k z => by
  rcases h with ⟨_, rfl⟩ | ⟨_, _, rfl⟩ | ⟨_, _, rfl⟩ | ⟨_, _, rfl⟩ | ⟨_, _, _, rfl⟩ | ⟨_, rfl⟩ <;> cases z
/-- all but the cells stands alike -/
structure Mv (D D' : Ad) (H H' : Hp) : Prop where
  K : D'.K = D.K
  fa : D'.fa = D.fa
  ca : D'.ca = D.ca
  nf : D'.nf = D.nf
  keep : ∀ b o, H b = some o → NoCell o → H' b = some o
  cell : ∀ k a o, CellA D H k a o → CellA D' H' k a o
mutual
theorem RV.mv {D D' : Ad} {ι : List Addr} {H H' : Hp} (m : Mv D D' H H') : ∀ {x : PV} {v : V}, RV D ι H x v → RV D' ι H' x v
  | .non, _, h => h
  | .bl _, _, h => h
  | .int _, _, h => h
  | .str _, _, h => h
  | .tup xs, v, h => by
    obtain ⟨a, vs, e1, h1, h2⟩ := h
    refine ⟨a, vs, e1, ?_, RVs.mv m h2⟩
    rw [m.K]
    rcases h1 with (h | ⟨o, h⟩) | h
    · exact .inl (.inl (m.keep a _ h (nc_imm (.inl ⟨_, rfl⟩))))
    · exact .inl (.inr ⟨o, m.keep a _ h (nc_imm (.inr (.inl ⟨_, _, rfl⟩)))⟩)
    · exact .inr h
  | .scr xs, v, h => by
    obtain ⟨a, vs, e1, h1, h2⟩ := h
    refine ⟨a, vs, e1, ?_, RVs.mv m h2⟩
    rw [m.K]
    rcases h1 with ⟨o, h⟩ | h
    · exact .inl ⟨o, m.keep a _ h (nc_imm (.inr (.inr (.inl ⟨_, _, rfl⟩))))⟩
    · exact .inr h
  | .ls xs, v, h => by
    obtain ⟨a, vs, e1, ⟨o, h1⟩, h2⟩ := h
    exact ⟨a, vs, e1, ⟨o, m.keep a _ h1 (nc_imm (.inr (.inr (.inl ⟨_, _, rfl⟩))))⟩, RVs.mv m h2⟩
  | .ref i, v, h => h
  | .fn i, v, h => by
    show v = .ref (D'.fa i)
    rw [m.fa]
    exact h
  | .cls i, v, h => by
    show v = .ref (D'.ca i)
    rw [m.ca]
    exact h
  | .ty _, _, h => h
  | .obj c ks xs, v, h => by
    obtain ⟨a, dx, fs', e1, h0, h1, h2, h3⟩ := h
    refine ⟨a, dx, fs', e1, h0, ?_, h2, RVs.mv m h3⟩
    rw [m.ca]
    exact m.keep a _ h1 (nc_imm (.inr (.inr (.inr (.inr (.inl ⟨_, _, _, rfl⟩))))))
  | .dct ks xs, v, h => by
    obtain ⟨a, kvs', e1, ⟨o, h1⟩, h2, h3⟩ := h
    exact ⟨a, kvs', e1, ⟨o, m.keep a _ h1 (nc_imm (.inr (.inr (.inr (.inl ⟨_, _, rfl⟩)))))⟩, h2, RVs.mv m h3⟩
  | .clo k caps, v, h => by
    obtain ⟨a, cl, c, xs, e1, n1, n2, h1, h2, h3, h4⟩ := h
    have nc : ∀ φ, NoCell (.ext φ) := fun φ => nc_imm (.inr (.inr (.inr (.inr (.inr ⟨_, rfl⟩)))))
    refine ⟨a, cl, c, xs, e1, n1, n2, ?_, ?_, ?_, RVs.mv m h4⟩
    · rw [m.nf]; exact m.keep a _ h1 (nc _)
    · rw [m.nf]; exact m.keep c _ h2 (nc _)
    · rw [m.nf]; exact h3.mv (m.cell k)
theorem RVs.mv {D D' : Ad} {ι : List Addr} {H H' : Hp} (m : Mv D D' H H') : ∀ {xs : List PV} {vs : List V}, RVs D ι H xs vs → RVs D' ι H' xs vs
  | [], _, h => h
  | x :: xs, vs, h => by
    obtain ⟨v, r, e1, h1, h2⟩ := h
    exact ⟨v, r, e1, RV.mv m h1, RVs.mv m h2⟩
end
theorem Ly.mv {D D' : Ad} {ι : List Addr} {H H' : Hp} {S : Store} (L : Ly D ι H S) (m : Mv D D' H H') (ht : D'.tabs = D.tabs) : Ly D' ι H' S := by
  refine ⟨L.len, L.nd, fun i o e => ?_, ?_⟩
  · obtain ⟨a, h, e1, e2, e3⟩ := L.at_ i o e
    cases o with
    | lst xs =>
      obtain ⟨vs, rfl, q⟩ := e3
      exact ⟨a, _, e1, m.keep a _ e2 (fun _ _ z => nomatch z), vs, rfl, q.mv m⟩
    | dic kvs =>
      obtain ⟨kvs', rfl, e4, q⟩ := e3
      exact ⟨a, _, e1, m.keep a _ e2 (fun _ _ z => nomatch z), kvs', rfl, e4, q.mv m⟩
    | ins c fs =>
      obtain ⟨dx, fs', rfl, e4, q⟩ := e3
      refine ⟨a, _, e1, m.keep a _ e2 (fun _ _ z => nomatch z), dx, fs', ?_, e4, q.mv m⟩
      rw [m.ca]
  · rw [ht]
    exact tabs_mv L.tb (fun b ps h => m.keep b _ h fun _ _ z => nomatch z) fun b φ h => m.keep b _ h fun _ _ z => nomatch z

/-- the cells of a function, hidden -/
def hidC (cl : List (Str × Addr)) (H : Hp) : Hp := fun b => if b ∈ cl.map (·.2) then none else H b
/-- .. told again -/
def shwC (cl : List (Str × Addr)) (H H' : Hp) : Hp := fun b => if b ∈ cl.map (·.2) then H b else H' b
theorem hid_in {cl : List (Str × Addr)} {H : Hp} {b : Addr} (h : b ∈ cl.map (·.2)) : hidC cl H b = none := if_pos h
theorem hid_no {cl : List (Str × Addr)} {H : Hp} {b : Addr} (h : b ∉ cl.map (·.2)) : hidC cl H b = H b := if_neg h
theorem shw_in {cl : List (Str × Addr)} {H H' : Hp} {b : Addr} (h : b ∈ cl.map (·.2)) : shwC cl H H' b = H b := if_pos h
theorem shw_no {cl : List (Str × Addr)} {H H' : Hp} {b : Addr} (h : b ∉ cl.map (·.2)) : shwC cl H H' b = H' b := if_neg h
/-- the held ones -/
def heldC (k : Nat) (cl : List (Str × Addr)) (H : Hp) : List (Nat × Addr × Obj) := cl.filterMap fun p => match H p.2 with
  | some (.frz o _) => some (k, p.2, o)
  | _ => none
section
variable {D : Ad} {ι ι' : List Addr} {H H' : Hp} {k : Nat} {cl : List (Str × Addr)} {S S' : Store} {h h' : Heap} {P : Program} {w : World} {outer : List Env}
/-- each cell is told -/
def Told (H : Hp) (k : Nat) (cl : List (Str × Addr)) : Prop := ∀ p ∈ cl, ∃ o v, H p.2 = some (.frz o (.own k)) ∧ o.data = .cell v
theorem Told.at_ (t : Told H k cl) {b : Addr} (hb : b ∈ cl.map (·.2)) : ∃ o v, H b = some (.frz o (.own k)) ∧ o.data = .cell v := by
  obtain ⟨p, hp, rfl⟩ := List.mem_map.mp hb
  exact t p hp
theorem held_mem (t : Told H k cl) {b : Addr} {o : Obj} (hb : b ∈ cl.map (·.2)) (e : H b = some (.frz o (.own k))) : (k, b, o) ∈ heldC k cl H := by
  obtain ⟨p, hp, rfl⟩ := List.mem_map.mp hb
  refine List.mem_filterMap.mpr ⟨p, hp, ?_⟩
  rw [e]
theorem mv_hid (t : Told H k cl) : Mv D { D with held := heldC k cl H ++ D.held } H (hidC cl H) := by
  refine ⟨rfl, rfl, rfl, rfl, fun b o e n => ?_, fun j a o e => ?_⟩
  · rw [hid_no]
    · exact e
    · intro hb
      obtain ⟨ob, v, e2, _⟩ := t.at_ hb
      rw [e] at e2
      exact n ob k (Option.some.inj e2)
  · rcases e with e | e
    · by_cases hb : a ∈ cl.map (·.2)
      · obtain ⟨ob, v, e2, _⟩ := t.at_ hb
        rw [e] at e2
        injection e2 with e2
        injection e2 with e3 e4
        injection e4 with e4
        subst e4
        exact .inr (List.mem_append_left _ (held_mem t hb e))
      · exact .inl (by rw [hid_no hb]; exact e)
    · exact .inr (List.mem_append_right _ e)
theorem mv_shw (t : Told H k cl) (n : ∀ b ∈ cl.map (·.2), H' b = none) : Mv { D with held := heldC k cl H ++ D.held } D H' (shwC cl H H') := by
  have no : ∀ b o, H' b = some o → b ∉ cl.map (·.2) := fun b o e z => by
    rw [n b z] at e
    cases e
  refine ⟨rfl, rfl, rfl, rfl, fun b o e _ => by rw [shw_no (no b o e)]; exact e, fun j a o e => ?_⟩
  rcases e with e | e
  · exact .inl (by rw [shw_no (no a _ e)]; exact e)
  · rcases List.mem_append.mp e with e | e
    · obtain ⟨p, hp, e⟩ := List.mem_filterMap.mp e
      obtain ⟨ob, v, e2, _⟩ := t p hp
      rw [e2] at e
      cases e
      exact .inl (by rw [shw_in (List.mem_map_of_mem hp)]; exact e2)
    · exact .inr e
theorem ext_shw (t : Told H k cl) (L' : Ly { D with held := heldC k cl H ++ D.held } ι' H' S') (n : ∀ b ∈ cl.map (·.2), H' b = none) (e : Ext ι (hidC cl H) ι' H') : Ext ι H ι' (shwC cl H H') := by
  refine ⟨?_, fun b o hb q nt => ?_, fun b o q im => ?_, fun b o q => ?_⟩
  · obtain ⟨l, rfl, q⟩ := e.pre
    refine ⟨l, rfl, fun a ha => ?_⟩
    have nb : a ∉ cl.map (·.2) := fun z => by
      obtain ⟨o, eo⟩ := L'.trk (List.mem_append_right _ ha)
      rw [n a z] at eo
      cases eo
    have := q a ha
    rw [hid_no nb] at this
    exact this
  · by_cases z : b ∈ cl.map (·.2)
    · rw [shw_in z]; exact q
    · rw [shw_no z]; exact e.out b o hb (by rw [hid_no z]; exact q) nt
  · by_cases z : b ∈ cl.map (·.2)
    · rw [shw_in z]; exact q
    · rw [shw_no z]; exact e.imm b o (by rw [hid_no z]; exact q) im
  · by_cases z : b ∈ cl.map (·.2)
    · exact ⟨o, by rw [shw_in z]; exact q⟩
    · obtain ⟨o', e'⟩ := e.trk b o (by rw [hid_no z]; exact q)
      exact ⟨o', by rw [shw_no z]; exact e'⟩
theorem hok_hid (ok : HOk P w H h) (t : Told H k cl) : HOk P w (hidC cl H) h := fun a o e => by
  have na : a ∉ cl.map (·.2) := fun z => by rw [hid_in z] at e; cases e
  rw [hid_no na] at e
  have nb : ∀ b u, H b = some u → NoCell u → hidC cl H b = some u := fun b u q nc => by
    rw [hid_no]
    · exact q
    · intro z
      obtain ⟨ob, v, e2, _⟩ := t.at_ z
      rw [q] at e2
      exact nc ob k (Option.some.inj e2)
  exact (ok a o e).stay (fun _ _ _ q => q) (fun b q => nb b _ q fun _ _ z => nomatch z) fun b xs q => nb b _ q fun _ _ z => nomatch z
theorem un_shw (t : Told H k cl) (ok : HOk P w H h) (fr : ∀ b ∈ frs outer, H b = none) (u : Un (frs outer) [] (hidC cl H) H' h h') : Un (frs outer) [] H (shwC cl H H') h h' := by
  have nc : ∀ b, H b = none → b ∉ cl.map (·.2) := fun b n z => by
    obtain ⟨_, _, e2, _⟩ := t.at_ z
    rw [n] at e2
    cases e2
  have nt : ∀ b u, H b = some u → NoCell u → b ∉ cl.map (·.2) := fun b u q n z => by
    obtain ⟨ob, v, e2, _⟩ := t.at_ z
    rw [q] at e2
    exact n ob k (Option.some.inj e2)
  refine ⟨fun b o q n hb hx => u.keep b o q (by rw [hid_no (nc b n)]; exact n) hb hx, fun b o q n hb hx => u.slot b o q (by rw [hid_no (nc b n)]; exact n) hb hx, fun b o q n hx => ?_, u.there, fun b xs q => ?_, fun b o v q => ?_, fun b ps q => ?_⟩
  · rw [shw_no (nc b n)]
    exact u.free b o q (by rw [hid_no (nc b n)]; exact n) hx
  · have z := nt b _ q fun _ _ z => nomatch z
    rw [shw_no z]
    exact u.tups b xs (by rw [hid_no z]; exact q)
  · by_cases z : b ∈ cl.map (·.2)
    · rw [shw_in z]; exact q
    · rw [shw_no z]
      exact u.frzs b o v (by rw [hid_no z]; exact q)
  · have z := nt b _ q fun _ _ z => nomatch z
    rw [shw_no z]
    exact u.tbls b ps (by rw [hid_no z]; exact q)
theorem hid_none (t : Told H k cl) (ok : HOk P w H h) (u : Un (frs outer) [] (hidC cl H) H' h h') : ∀ b ∈ cl.map (·.2), H' b = none := fun b hb => by
  obtain ⟨o, v, e, _⟩ := t.at_ hb
  obtain ⟨g, _⟩ := ok b _ e
  exact u.free b o g (hid_in hb) (by simp)
theorem hok_shw (t : Told H k cl) (ok : HOk P w H h) (fr : ∀ b ∈ frs outer, H b = none) (u : Un (frs outer) [] (hidC cl H) H' h h') (ok' : HOk P w H' h') : HOk P w (shwC cl H H') h' := fun a o e => by
  have n := hid_none t ok u
  have no : ∀ b o, H' b = some o → b ∉ cl.map (·.2) := fun b o e z => by
    rw [n b z] at e
    cases e
  by_cases z : a ∈ cl.map (·.2)
  · rw [shw_in z] at e
    obtain ⟨ob, v, e2, _⟩ := t.at_ z
    rw [e] at e2
    cases e2
    obtain ⟨g, _⟩ := ok a _ e
    have nf : a ∉ frs outer := fun q => by rw [fr a q] at e; cases e
    have g' := u.keep a ob g (hid_in z) nf (by simp)
    exact ⟨g', ob, g'⟩
  · rw [shw_no z] at e
    exact (ok' a o e).stay (fun _ _ _ q => q) (fun b q => by rw [shw_no (no b _ q)]; exact q) fun b xs q => by rw [shw_no (no b _ q)]; exact q
end
section
variable {X : Cx} {D : Ad} {F : Fd} {T : Tab} {M : Nm} {fl : List Nat} {C : CS} {lv : Nat} {W : WX} {c : Sc} {pos : Pos}
/-- a function that was made is called -/
theorem run_clo {k : Nat} {caps vs : List PV} {f : V} {xs : List V} {us : List Value} {u : Value} {pins : List (Addr × Obj)} {σc : L2.St} {s : Shared} {ι : List Addr} {H : Hp} {S : Store} {Qa : QV} {Q : VK}
    (o : Okx X D F T M fl C lv W c) (I : Inv X pins σc H s) (L : Ly D ι H S) (hk : isN T.nst k = true) (rf : RV D ι H (.clo k caps) f) (ru : RelV f u) (ra : RVs D ι H vs xs) (rx : Vals xs us)
    (hc : C k (vs ++ caps) S Qa (fun _ _ => False)) (cn : Cnt D ι H Qa Q) : wpAny (model X.prog X.w) X.A (call u us) (EP X pins σc Q) X.xe s := by
  obtain ⟨a, cl, co, ws, rfl, n1, n2, h1, h2, h3, h4⟩ := rf
  obtain rfl : u = Value.ref a := ru
  obtain ⟨d, hd⟩ := o.lk.inn _ _ _ _ _ hc
  have ban := o.lk.ban k _ _ _ _ hk hc
  have cell : ∀ b ob, CellA D H k b ob → H b = some (.frz ob (.own k)) := fun b ob e => e.elim id fun e => absurd rfl (ban _ e)
  have t : Told H k cl := fun p hp => by
    obtain ⟨ob, v, e1, e2⟩ := h3.all p hp
    exact ⟨ob, v, cell _ _ e1, e2⟩
  have ok := I.hok
  have e0 := I.env0
  have NF := o.lk.nfn k d (heldC k cl H ++ D.held) hd hk fun p hp => by
    rcases List.mem_append.mp hp with hp | hp
    · obtain ⟨z, hz, ez⟩ := List.mem_filterMap.mp hp
      split at ez
      · cases ez
        exact .inl rfl
      · cases ez
    · exact .inr ⟨p, hp, rfl⟩
  have mh : Mv D { D with held := heldC k cl H ++ D.held } H (hidC cl H) := mv_hid t
  have fr := I.stkFree
  have hn : ∀ b, H b = none → hidC cl H b = none := fun b n => by
    by_cases z : b ∈ cl.map (·.2)
    · exact hid_in z
    · rw [hid_no z]; exact n
  have e0' : Env0 X.prog X.w X.K X.mg X.base X.A X.stack s (hidC cl H) := ⟨e0.frames, e0.mod, fun b ob q => ⟨(e0.bs b ob q).1, hn b (e0.bs b ob q).2⟩, e0.bsz, e0.funs, fun b hb => hn b (e0.frf b hb), hok_hid ok t, e0.bare⟩
  have ext : ∀ b φ, H b = some (.ext φ) → hidC cl H b = some (.ext φ) := fun b φ q => mh.keep b _ q fun _ _ z => nomatch z
  have ca : NdefX.CellsAt cl (D.nf k).fr (ws.map some) s.heap (hidC cl H) := by
    refine ⟨by rw [List.length_map]; exact h3.len, fun y b e => ?_, h3.inj, fun i y e => ?_⟩
    · have hm : b ∈ cl.map (·.2) := List.mem_map.mpr ⟨(y, b), PySem.mem_of_lookup e, rfl⟩
      obtain ⟨ob, v, e1, e2⟩ := t.at_ hm
      obtain ⟨g, _⟩ := ok b _ e1
      exact ⟨hid_in hm, v, ob, g, e2⟩
    · obtain ⟨b, ob, x, uu, e1, e2, e3, e4, e5⟩ := h3.has i y e
      refine ⟨b, e1, fun v ev => ?_⟩
      rw [List.getElem?_map, e3] at ev
      cases ev
      obtain ⟨g, _⟩ := ok b _ (cell _ _ e2)
      exact ⟨uu, e4, ob, g, e5⟩
  have Hk := o.hK
  have run := NF a cl co X.A X.stack s (hidC cl H) us xs ws (fun v H' => (∀ b ∈ cl.map (·.2), H' b = none) → Q v (shwC cl H H')) (o.room.mono (Nat.le_succ _)) o.grd (by rw [← Hk]; exact e0') (ext _ _ h1) (ext _ _ h2) ca rx
    ⟨ι, S, vs ++ caps, Qa, L.mv mh rfl, (ra.mv mh).app (h4.mv mh), hc, fun ι' S' H' v x e l r q nn => cn ι' S' _ v x (ext_shw t l nn e) (l.mv (mv_shw t nn) rfl) (r.mv (mv_shw t nn)) q⟩
  refine wpAny_call (codeAny_mono run fun res s' hq => ?_)
  match res, hq with
  | .error e, hq =>
    obtain ⟨_, _, _, _, _, _, _, _, _, _, _, _, hq⟩ := hq
    exact hq.elim
  | .ok .next, hq => exact False.elim hq
  | .ok .brk, hq => exact False.elim hq
  | .ok .cont, hq => exact False.elim hq
  | .ok (.ret uu), hq =>
    obtain ⟨v, H', os, bare, un, hok', rv, q⟩ := hq
    have nn := hid_none t ok un
    exact I.after ⟨v, shwC cl H H', os, bare, un_shw t ok fr un, hok_shw t ok fr un hok', rv, q nn⟩
theorem wp_callee {Md : Model} {A : Around} {E : Value → Shared → Prop} {Q : Value → Shared → Prop} {s : Shared} {fe : Expr} {as : List Expr} {env : Env} (hc : isCallee fe = true)
    (h : wpAny Md A (eval fe env) (fun f s1 => wpAny Md A (callWith pos f [] (backTo pos (starEach as env)) []) Q E s1) E s) : wpAny Md A (eval (.Call fe as [] pos) env) Q E s := by
  cases fe <;> first
    | exact absurd hc Bool.false_ne_true
    | exact wpAny_bind h
theorem clo_fn {k : Nat} {caps : List PV} {ι : List Addr} {H : Hp} {y : V} {u : Value} {pins : List (Addr × Obj)} {σc : L2.St} {s : Shared} (I : Inv X pins σc H s) (r : RV D ι H (.clo k caps) y) (ru : RelV y u) : ∃ a, u = .ref a ∧ PySem.W.FnAt a s.heap := by
  obtain ⟨a, cl, co, ws, rfl, n1, n2, h1, h2, h3, h4⟩ := r
  obtain ⟨⟨od, sl, doc, pm, ctv, e⟩, _⟩ := I.hok a _ h1
  exact ⟨a, ru, _, od, _, sl, e⟩
theorem s_callE {f : RE} {es : REs} {fe : Expr} {as : List Expr} (o : Okx X D F T M fl C lv W c) (hc : isCallee fe = true) (hf : PE X fe (rdE D T C W f)) (hl : as.length = es.len) (ha : PA X as (rdEs D T C W es)) (hn : noStar as = true) : PE X (.Call fe as [] pos) (rdE D T C W (.callE f es)) := by
  refine ⟨fun pins s σc H Q I z => ?_⟩
  obtain ⟨ι, S, σ, Qa, Ra, L, G, hw, cn, cx⟩ := z
  refine wp_callee hc (thn (hf.run pins s σc H (fun y H1 => ∃ ι1 S1 k caps, Ext ι H ι1 H1 ∧ Ly D ι1 H1 S1 ∧ RV D ι1 H1 (.clo k caps) y ∧ isN T.nst k = true ∧ wpEs T C es σ S1 (fun vs S2 => C k (vs ++ caps) S2 Qa (fun _ _ => False)) Ra) I ⟨ι, S, σ, _, Ra, L, G, hw, fun ι1 S1 H1 v x e1 L1 r1 q1 => ?_, cx⟩) fun u s1 h1 => ?_)
  · obtain ⟨k, caps, rfl, q⟩ := onClo_ex q1
    obtain ⟨hk, q⟩ := onT_ex q
    exact ⟨ι1, S1, k, caps, e1, L1, r1, hk, q⟩
  · obtain ⟨y, H1, I1, ry, ι1, S1, k, caps, e1, L1, r1, hk, q⟩ := h1
    obtain ⟨a, rfl, fa⟩ := clo_fn I1 r1 ry
    cases as with
    | nil =>
      have he0 : es = .nil := by cases es with
        | nil => rfl
        | cons a b => cases hl
      subst he0
      refine PySem.W.callWith_F0 (first := []) fa ?_
      exact run_clo o I1 L1 hk r1 ry .nil .nil (show C k ([] ++ caps) S1 Qa (fun _ _ => False) from q) (cn.ext e1)
    | cons e as =>
      refine PySem.W.callWith_F (first := []) fa (thn (es_run ha I1 L1 (G.ext e1) q (cx.ext e1) pos) fun us s2 h2 => ?_) (noStar_cons hn).1 (noStar_any (noStar_cons (env := X.env) hn).2)
      obtain ⟨xs, H2, ι2, S2, vs, I2, rx, e2, L2', r2, l2, q2⟩ := h2
      have r1' := r1.ext e2
      obtain ⟨a', ea, fa'⟩ := clo_fn I2 r1' ry
      cases ea
      exact ⟨fa', run_clo o I2 L2' hk r1' ry r2 rx q2 (cn.ext (e1.trans e2))⟩
end
end Rp
/-! # Methods, tests -/
namespace Rp
open PySem PySem.Spec PyProof.Rows L2

/-- a method's call: its object first, then the method, then the arguments -/
theorem meth_run {Md : Model} {A : Around} {E : Value → Shared → Prop} {s : Shared} {env : Env} {e : Expr} {name : Str} {apos pos : Pos} {as : List Expr} {kws : List Keyword} {Q : Value → Shared → Prop}
    (hbase : attributeBase e name env (eval e env) = eval e env) (hline : (apos.endLine == pos.line) = true) (hform : methodCallForm (as.length + kws.length) (backTo pos (starEach as env)) (backToKw pos (keywordEach kws env)) = true)
    (h : wpAny Md A (eval e env) (fun ov s1 => wpAny Md A (getMethod ov name (do return (← importBound e env).getD true)) (fun fx s2 => wpAny Md A (callWith pos fx.1 fx.2 (backTo pos (starEach as env)) (backToKw pos (keywordEach kws env))) Q E s2) E s1) E s) :
    wpAny Md A (eval (.Call (.Attribute e name apos) as kws pos) env) Q E s := by
  rw [arm_eval_Call, hbase]
  refine wpAny_bind (wpAny_mono h (fun ov s1 h1 => ?_) fun _ _ z => z)
  refine wpAny_bind (wpAny_standAt ?_)
  have hpos : methodCallPos true e env apos pos = pure pos := by
    unfold methodCallPos
    simp [hline]
  unfold methodCall
  rw [hform]
  refine wpAny_bind (wpAny_holding (wpAny_mono h1 (fun fx s2 h2 => ?_) fun _ _ z => z))
  exact wpAny_bind (wpAny_of_eq hpos h2)

theorem methOf_cases {T : Tab} {S : Store} {v : PV} {m : Nat} {f : Nat} (h : methOf T S v m = some f) : ∃ k fs cd, insOf S v = some (k, fs) ∧ fs.lookup m = none ∧ T.cls[k]? = some cd ∧ cd.ms.lookup m = some f := by
  unfold methOf at h
  simp only [Option.bind_eq_some_iff] at h
  obtain ⟨⟨k, fs⟩, e1, h⟩ := h
  split at h
  · cases h
  · rename_i e2
    simp only [Option.bind_eq_some_iff, Option.map_eq_some_iff] at h
    obtain ⟨ms, ⟨cd, e3, rfl⟩, e4⟩ := h
    exact ⟨k, fs, cd, e1, e2, e3, e4⟩
theorem isLst_cases {S : Store} {v : PV} (h : isLst S v = true) : ∃ i xs, v = .ref i ∧ S[i]? = some (.lst xs) := by
  cases v with
  | ref i =>
    simp only [isLst] at h
    cases e : S[i]? with
    | none => rw [e] at h; cases h
    | some ob =>
      rw [e] at h
      cases ob with
      | lst xs => exact ⟨i, xs, rfl, e⟩
      | _ => cases h
  | _ => cases h
theorem recv_own {T : Tab} {S : Store} {v : PV} {m : Nat} {b : Option BM} {f : Nat} (h : recv T S v m b = some (.inl f)) : methOf T S v m = some f := by
  unfold recv at h
  cases e : methOf T S v m with
  | some g => rw [e] at h; cases h; rfl
  | none =>
    rw [e] at h
    cases b with
    | none => cases h
    | some b' =>
      simp only at h
      split at h <;> cases h
theorem recv_blt {T : Tab} {S : Store} {v : PV} {m : Nat} {b : Option BM} {b' : BM} (h : recv T S v m b = some (.inr b')) : b = some b' ∧ isLst S v = true := by
  unfold recv at h
  cases e : methOf T S v m with
  | some g => rw [e] at h; cases h
  | none =>
    rw [e] at h
    cases b with
    | none => cases h
    | some b2 =>
      simp only at h
      split at h
      · cases h; exact ⟨rfl, by assumption⟩
      · cases h

/-- a list's own methods -/
def BM.id : BM → String
  | .append => "list.append"
  | .pop => "list.pop"
  | .extend => "list.extend"

section
variable {X : Cx} {D : Ad} {F : Fd} {T : Tab} {M : Nm} {fl : List Nat} {C : CS} {lv : Nat} {W : WX} {c : Sc} {pos : Pos}

/-- l.extend(b), b a list that may be locked -/
theorem mt_extendR {pins : List (Addr × Obj)} {σ : L2.St} {s : Shared} {H : Hp} {l b : Addr} {xs zs : List V} {us : List Value} {Q : VK} (I : Inv X pins σ H s) (rv : Vals [V.ref b] us) (hH : H l = some (.lst xs)) (hB : Rd H b (.lst zs)) (hz : xs.length + zs.length ≤ sizeLine) (q : Q .non (upd H l (.lst (xs ++ zs)))) :
    wpAny (model X.prog X.w) X.A (call (.builtin "list.extend") (.ref l :: us)) (EP X pins σ Q) X.xe s := by
  obtain ⟨u, rfl, ru⟩ := rv.one
  cases ru
  obtain ⟨z, its, n, r, hl, e⟩ := I.lstM hH
  obtain ⟨z2, its2, n2, r2, e2⟩ := hB.ok I.hok
  have hl2 := r2.length
  have hsz : its.toArray.size + its2.toArray.size ≤ sizeLine := by rw [List.size_toArray, List.size_toArray]; omega
  have hlong : ¬ (!its.toArray.isEmpty && Builtin.List.listTooLong (its.toArray.size + its2.toArray.size)) = true := by
    rw [notLongL hsz, Bool.and_false]
    exact Bool.false_ne_true
  refine call_meets PySem.F.slot_list_extend ⟨_, e, rfl⟩ PySem.F.entry_list_extend (PySem.F.args_list_extend_2 _ _)
    (AutoSeq1.list_extend_list_list_0 l its.toArray n b its2.toArray n2 hlong (by rw [List.size_toArray]; omega) (by omega)) ⟨e, e2, ?_⟩
  refine ⟨.non, _, I.lset (its' := its ++ its2) hH e (by simp) (r.append r2) ?_, rfl, q⟩
  rw [List.length_append]
  omega
theorem bm_at {b : BM} {pins : List (Addr × Obj)} {σc : L2.St} {s : Shared} {ι : List Addr} {H : Hp} {S : Store} {i : Nat} {a : Addr} {vs : List PV} {xs : List V} {us : List Value} {Qa : QV} {Q : VK}
    (I : Inv X pins σc H s) (L : Ly D ι H S) (hi : ι[i]? = some a) (r : RVs D ι H vs xs) (rx : Vals xs us) (hw : wpBM b (.ref i) vs S Qa) (cn : Cnt D ι H Qa Q) :
    wpAny (model X.prog X.w) X.A (call (.builtin b.id) (.ref a :: us)) (EP X pins σc Q) X.xe s := by
  have rself : RelV (V.ref a) (Value.ref a) := rfl
  cases b with
  | append =>
    match vs, r, hw with
    | [], r, hw => exact (show False from hw).elim
    | [v], r, hw =>
      obtain ⟨ys, hs, hw⟩ := onS_ex (show onS (lstAt S i) fun ys => onT (decide (ys.length < lim)) (Qa .non (S.set i (SO.lst (ys ++ [v])))) from hw)
      obtain ⟨hl, q⟩ := onT_ex hw
      have hl := of_decide_eq_true hl
      have hs := lstAt_ex hs
      obtain ⟨x, rfl, rv⟩ := rvs1 r
      obtain ⟨a', ws, hi', ha, rw'⟩ := L.lst hs
      rw [hi] at hi'; cases hi'
      refine mt_append pins s σc H _ _ _ us Q I rself rx ⟨a, ws, x, rfl, rfl, ha, by rw [rw'.len, lim_eq]; exact hl, ?_⟩
      obtain ⟨e1, l1⟩ := L.setLst (xs := ys ++ [v]) (vs := ws ++ [x]) hi hs (rw'.app (.cons rv .nil))
      exact cn _ _ _ .non .non e1 l1 rfl q
    | _ :: _ :: _, r, hw => exact (show False from hw).elim
  | extend =>
    match vs, r, hw with
    | [], r, hw => exact (show False from hw).elim
    | [v], r, hw =>
      obtain ⟨ys, hs, hw⟩ := onS_ex (show onS (lstAt S i) fun xs => onS (lsOf S v) fun ys => onT (decide (xs.length + ys.length ≤ lim)) (Qa .non (S.set i (SO.lst (xs ++ ys)))) from hw)
      obtain ⟨ws2, hv, hw⟩ := onS_ex hw
      obtain ⟨hl, q⟩ := onT_ex hw
      have hl := of_decide_eq_true hl
      have hs := lstAt_ex hs
      obtain ⟨x, rfl, rv⟩ := rvs1 r
      obtain ⟨a', ws, hi', ha, rw'⟩ := L.lst hs
      rw [hi] at hi'; cases hi'
      obtain ⟨b', vs', rfl, hb, rb⟩ := ls_at L hv rv
      refine mt_extendR I rx ha hb (by rw [rw'.len, rb.len, lim_eq]; exact hl) ?_
      obtain ⟨e1, l1⟩ := L.setLst (xs := ys ++ ws2) (vs := ws ++ vs') hi hs (rw'.app rb)
      exact cn _ _ _ .non .non e1 l1 rfl q
    | _ :: _ :: _, r, hw => exact (show False from hw).elim
  | pop =>
    match vs, r, hw with
    | [], r, hw =>
      obtain ⟨zs, hs, hw⟩ := onS_ex (show onS (lstAt S i) fun xs => onS xs.getLast? fun y => Qa y (S.set i (SO.lst xs.dropLast)) from hw)
      obtain ⟨y, hy, q⟩ := onS_ex hw
      have hs := lstAt_ex hs
      obtain ⟨ys, rfl⟩ : ∃ ys, zs = ys ++ [y] := List.getLast?_eq_some_iff.mp hy
      rw [List.dropLast_concat] at q
      have hx : xs = [] := r
      subst hx
      obtain ⟨a', ws, hi', ha, rw'⟩ := L.lst hs
      rw [hi] at hi'; cases hi'
      obtain ⟨ws', z, rfl, r1, r2⟩ := rw'.snoc
      refine mt_pop pins s σc H _ _ _ us Q I rself rx ⟨a, _, z, rfl, rfl, ha, ?_, ?_⟩
      · rw [List.length_append, List.length_singleton, Nat.add_sub_cancel, List.getElem?_append_right (Nat.le_refl _), Nat.sub_self]
        rfl
      · rw [List.dropLast_concat]
        obtain ⟨e1, l1⟩ := L.setLst (xs := ys) (vs := ws') hi hs r1
        exact cn _ _ _ y z e1 l1 (r2.ext e1) q
    | _ :: _, r, hw => exact (show False from hw).elim

theorem s_meth {o' : RE} {m : Nat} {b : Option BM} {es : REs} {ks : List String} {kes : REs} {arr : List (Nat ⊕ PV)} {e : Expr} {as : List Expr} {kws : List Keyword} {apos : Pos} (o : Okx X D F T M fl C lv W c)
    (hb : notSuper e = true) (hline : (apos.endLine == pos.line) = true) (he : PE X e (rdE D T C W o')) (hl : as.length = es.len) (ha : PA X as (rdEs D T C W es)) (hn : noStar as = true) (hk : PK X kws (rdEs D T C W kes)) (hkl : kws.length = kes.len) (hnm : namesOf kws = ks.map fun k => some (sN k)) (hne : (kws.isEmpty || !as.isEmpty) = true)
    (hfew : as.length + kws.length < 20) (hs : (T.cls.all fun d => match d.ms.lookup m with
        | some f => M.has f true as.length ks arr
        | .none => true) = true) (hbm : (match b with
        | some b' => b'.nm == m && kws.isEmpty
        | .none => true) = true) :
    PE X (.Call (.Attribute e (dN m) apos) as kws pos) (rdE D T C W (.meth o' m b es ks kes arr)) := by
  refine ⟨fun pins st σc H Q I z => ?_⟩
  obtain ⟨ι, S, σ, Qa, Ra, L, G, hw, cn, cx⟩ := z
  obtain ⟨k1, k2, k3⟩ := kw_names (env := X.env) (pos := pos) hnm
  have hform : methodCallForm (as.length + kws.length) (backTo pos (starEach as X.env)) (backToKw pos (keywordEach kws X.env)) = true := by
    unfold methodCallForm
    rw [noStar_all hn, k1]
    simp only [Bool.true_and, decide_eq_true_eq]
    split <;> omega
  refine meth_run (base_of hb _) hline hform (thn (he.run pins st σc H (fun x H1 => ∃ ι1 S1 v, Ext ι H ι1 H1 ∧ Ly D ι1 H1 S1 ∧ RV D ι1 H1 v x ∧ onRecv (recv T S1 v m b) (fun f => wpEs T C es σ S1 (fun vs S2 => wpEs T C kes σ S2 (fun ws S3 => C f (v :: fill arr (vs ++ ws)) S3 Qa Ra) Ra) Ra)
    (fun b' => wpEs T C es σ S1 (fun vs S2 => wpBM b' v vs S2 Qa) Ra)) I ⟨ι, S, σ, _, Ra, L, G, hw, fun ι1 S1 H1 v x e1 L1 r1 q1 => ⟨ι1, S1, v, e1, L1, r1, q1⟩, cx⟩) fun u s1 h1 => ?_)
  obtain ⟨x, H1, I1, rx, ι1, S1, v, e1, L1, r1, q1⟩ := h1
  cases hr : recv T S1 v m b with
  | none => rw [hr] at q1; exact q1.elim
  | some fb =>
    rw [hr] at q1
    cases fb with
    | inl f =>
      obtain ⟨k, fs, cd, es1, en, ec, em⟩ := methOf_cases (recv_own hr)
      obtain ⟨p, dx, fs', rfl, hp, n1, n2⟩ := ins_at L1 es1 r1
      obtain rfl : u = Value.ref p := rx
      obtain ⟨c1, c2, c3⟩ := o.lk.ms k cd ec
      have M1 := c2 m f em
      have hsh : M.has f true as.length ks arr = true := by
        have := List.all_eq_true.mp hs cd (List.mem_of_getElem? ec)
        rw [em] at this
        exact this
      refine getmeth_ok I1 hp (by rw [o.hK]; exact c1) (by rw [o.hK]; exact M1) (fld_none n1 en) ?_
      refine args_run (first := [.ref p]) (P := fun vs ws S3 => C f (v :: fill arr (vs ++ ws)) S3 Qa Ra) (by rw [o.hK]; exact M1.kp) hl ha hn hk hkl hnm hne I1 L1 (G.ext e1) q1 (cx.ext e1) pos fun us u2 s2 xs ys H2 ι2 S2 vs ws I2 rx2 ry e2 L2' r1' r2' l1 l2 q => ?_
      obtain ⟨d, hd⟩ := o.lk.inn _ _ _ _ _ q
      obtain ⟨dv, hdf, hbn⟩ := o.lk.sh _ (Nm.has_mem hsh) d hd
      obtain ⟨zs, rz, vz⟩ := fill_rel (r1'.app r2') (rx2.append ry) arr dv hdf
      have G2 := o.lk.fn f d hd (o.lk.sg _ (Nm.has_mem hsh))
      rw [← o.hK] at G2
      have n1' := vals_len r1' rx2
      have n2' := vals_len r2' ry
      have bb := hbn s2 (.ref p) (us ++ u2) (by rw [← o.hK]; exact I2.kIn) (by rw [List.length_append, n1', n2', l1, l2])
      have bb := binds_at (F := F) (d := d) (dv := dv) (sh := ⟨f, true, as.length, ks, arr⟩) (n1'.trans l1) (n2'.trans l2) bb
      have r0 : RV D ι2 H2 v (.ref p) := r1.ext e2
      refine run_g (vs := .ref p :: zs) (us := .ref p :: fillV arr dv (us ++ u2)) G2 (o.room.mono (Nat.le_succ _)) o.grd o.tk I2 (.cons rfl vz) (by simpa using bb) ?_
      exact ⟨ι2, S2, _, Qa, Ra, L2', .cons r0 rz, q, (cn.ext (e1.trans e2)), fun ι' S' H' y cls dd e l rx q => cx ι' S' H' y cls dd ((e1.trans e2).trans e) l rx q⟩
    | inr b' =>
      obtain ⟨rfl, hls⟩ := recv_blt hr
      obtain ⟨i, xs0, rfl, es1⟩ := isLst_cases hls
      obtain ⟨p, hi, rfl⟩ := rv_ref r1
      obtain ⟨p', ws0, hi', hp, rw0⟩ := L1.lst es1
      rw [hi] at hi'; cases hi'
      obtain rfl : u = Value.ref p := rx
      rw [Bool.and_eq_true] at hbm
      have em : b'.nm = m := eq_of_beq hbm.1
      have ek : kws = [] := List.isEmpty_iff.mp hbm.2
      subst em ek
      obtain ⟨t1, t2⟩ := tyV_is (T := "list") I1 (show RelV (V.ref p) (Value.ref p) from rfl) (.inl ⟨rfl, ws0, SqL.of hp⟩)
      have q1 : wpEs T C es σ S1 (fun vs S2 => wpBM b' (.ref i) vs S2 Qa) Ra := q1
      have body : ∀ us s2, Behind X D pins σc ι1 H1 es.len (fun vs S2 => wpBM b' (.ref i) vs S2 Qa) us s2 → wpAny (model X.prog X.w) X.A (call (.builtin b'.id) (.ref p :: us)) (EP X pins σc Q) X.xe s2 := fun us s2 hz => by
        obtain ⟨xs, H2, ι2, S2, vs, I2, rx2, e2, L2', r2, l2, q2⟩ := hz
        exact bm_at I2 L2' (e2.get hi) r2 rx2 q2 (cn.ext (e1.trans e2))
      have cw : wpAny (model X.prog X.w) X.A (callWith pos (.builtin b'.id) [.ref p] (backTo pos (starEach as X.env)) []) (EP X pins σc Q) X.xe s1 := by
        cases as with
        | nil =>
          have he0 : es = .nil := by cases es with
            | nil => rfl
            | cons a b => cases hl
          subst he0
          refine Calls.callWith_builtin rfl (PySem.evalArgs_none (body [] s1 ⟨[], H1, ι1, S1, [], I1, .nil, Ext.refl, L1, .nil, rfl, q1⟩))
        | cons a as =>
          have hA := es_run ha I1 L1 (G.ext e1) q1 (cx.ext e1) pos
          have hs1 := (noStar_cons (env := X.env) hn).1
          rw [hs1] at hA ⊢
          refine Calls.callWith_builtin (by show (false || (backTo pos (starEach as X.env)).any (·.1)) = false; rw [noStar_any (noStar_cons (env := X.env) hn).2] <;> rfl) (Calls.evalArgs_plain ?_)
          exact thn hA fun us s2 hz => body us s2 hz
      cases b' with
      | append => exact getMethod_builtin t1 PySem.F.plainAttrs_list PySem.F.slot_list_append PySem.F.type_list_append t2 cw
      | pop => exact getMethod_builtin t1 PySem.F.plainAttrs_list PySem.F.slot_list_pop PySem.F.type_list_pop t2 cw
      | extend => exact getMethod_builtin t1 PySem.F.plainAttrs_list PySem.F.slot_list_extend PySem.F.type_list_extend t2 cw
end
end Rp
/-! # Tests; and, or -/
namespace Rp
open PySem PySem.Spec PyProof.Rows L2
section
variable {X : Cx} {D : Ad} {F : Fd} {T : Tab} {M : Nm} {fl : List Nat} {C : CS} {lv : Nat} {W : WX} {c : Sc} {pos : Pos}

theorem CnB.here {ι : List Addr} {H : Hp} {S : Store} {Qb : Bool → Store → Prop} {Q : Bool → Hp → Prop} (cn : CnB D ι H Qb Q) (L : Ly D ι H S) {k : Bool} (q : Qb k S) : Q k H := cn ι S H k Ext.refl L q

theorem t_cmp {op : CmpOp} {a b : RE} {l r : Expr} (o : Okx X D F T M fl C lv W c) (hm : behindInMarks op r = false) (ha : PE X l (rdE D T C W a)) (hb : PE X r (rdE D T C W b)) : PT X (.Compare l [op] [r] pos) (rdT D T C W (.cmp op a b)) := by
  refine PT.imp (pt_cmpR (op_cmpG (D := D) o.hK o.u80) ha hb hm) fun σc H Q z => ?_
  obtain ⟨ι, S, σ, Qb, Ra, L, G, hw, cn, cx⟩ := z
  refine ⟨ι, S, σ, _, Ra, L, G, hw, fun ι1 S1 H1 v x e1 L1 r1 q1 => ?_, cx⟩
  refine ⟨ι1, S1, σ, _, Ra, L1, G.ext e1, q1, fun ι2 S2 H2 w y e2 L2' r2 q2 => ?_, cx.ext e1⟩
  refine ⟨ι2, S2, v, w, (fun u S3 => ∃ k, u = .bl k ∧ Qb k S3), L2', r1.ext e2, r2, cmp_mono (fun k hk => ⟨k, rfl, hk⟩) q2, fun ι3 S3 H3 u y3 e3 L3 r3 q3 => ?_⟩
  obtain ⟨k, rfl, q⟩ := q3
  cases rv_bl r3
  exact ⟨k, rfl, (cn.ext ((e1.trans e2).trans e3)).here L3 q⟩
theorem t_chain {op op' : CmpOp} {a b d : RE} {l r t : Expr} (o : Okx X D F T M fl C lv W c) (hm : lastMarks [op, op'] [r, t] = false) (ha : PE X l (rdE D T C W a)) (hb : PE X r (rdE D T C W b)) (hd : PE X t (rdE D T C W d)) :
    PT X (.Compare l [op, op'] [r, t] pos) (rdT D T C W (.chain op op' a b d)) := by
  refine PT.imp (pt_chain (op_cmpG (D := D) o.hK o.u80) (op_cmpG (D := D) o.hK o.u80) ha hb hd hm) fun σc H Q z => ?_
  obtain ⟨ι, S, σ, Qb, Ra, L, G, hw, cn, cx⟩ := z
  refine ⟨ι, S, σ, _, Ra, L, G, hw, fun ι1 S1 H1 v x e1 L1 r1 q1 => ?_, cx⟩
  refine ⟨ι1, S1, σ, _, Ra, L1, G.ext e1, q1, fun ι2 S2 H2 w y e2 L2' r2 q2 => ?_, cx.ext e1⟩
  have q2' : wpCmp op v w S2 fun k => (if k = true then wpE T C d σ S2 (fun z S3 => wpCmp op' w z S3 fun k' => Qb k' S3) Ra else Qb false S2) := q2
  refine ⟨ι2, S2, v, w, (fun u S3 => S3 = S2 ∧ ∃ k, u = .bl k ∧ (if k = true then wpE T C d σ S2 (fun z S3 => wpCmp op' w z S3 fun k' => Qb k' S3) Ra else Qb false S2)), L2', r1.ext e2, r2, cmp_mono (fun k hk => ⟨rfl, k, rfl, hk⟩) q2', fun ι3 S3 H3 u y3 e3 L3 r3 q3 => ?_⟩
  obtain ⟨rfl, k, rfl, q⟩ := q3
  cases rv_bl r3
  refine ⟨k, rfl, ?_⟩
  have e13 := (e1.trans e2).trans e3
  cases k with
  | true =>
    simp only [if_true] at q ⊢
    refine ⟨ι3, S3, σ, _, Ra, L3, G.ext e13, q, fun ι4 S4 H4 z y4 e4 L4 r4 q4 => ?_, cx.ext e13⟩
    refine ⟨ι4, S4, w, z, (fun u S5 => ∃ k, u = .bl k ∧ Qb k S5), L4, (r2.ext e3).ext e4, r4, cmp_mono (fun k hk => ⟨k, rfl, hk⟩) q4, fun ι5 S5 H5 u y5 e5 L5 r5 q5 => ?_⟩
    obtain ⟨k', rfl, q6⟩ := q5
    cases rv_bl r5
    exact ⟨k', rfl, (cn.ext ((e13.trans e4).trans e5)).here L5 q6⟩
  | false =>
    simp only [Bool.false_eq_true, if_false] at q ⊢
    exact ⟨false, rfl, (cn.ext e13).here L3 q⟩
theorem t_not {a : RE} {e : Expr} (ha : PT X e (rdT D T C W a)) : PT X (.UnaryOp .Not e pos) (rdT D T C W (.not a)) := by
  refine PT.imp (pt_not ha) fun σc H Q z => ?_
  obtain ⟨ι, S, σ, Qb, Ra, L, G, hw, cn, cx⟩ := z
  exact ⟨ι, S, σ, _, Ra, L, G, hw, fun ι1 S1 H1 k e1 L1 q1 => (cn.ext e1).here L1 q1, cx⟩
theorem t_ite {d a b : RE} {t x y : Expr} (hd : PT X t (rdT D T C W d)) (ha : PT X x (rdT D T C W a)) (hb : PT X y (rdT D T C W b)) : PT X (.IfExp t x y pos) (rdT D T C W (.ite d a b)) := by
  refine ⟨fun pins s σc H Q I z => ?_⟩
  obtain ⟨ι, S, σ, Qb, Ra, L, G, hw, cn, cx⟩ := z
  refine isTrue_IfExp (thn (hd.run pins s σc H (fun k H1 => (if k = true then rdT D T C W a σc H1 Q else rdT D T C W b σc H1 Q)) I ⟨ι, S, σ, _, Ra, L, G, hw, fun ι1 S1 H1 k e1 L1 q1 => ?_, cx⟩) fun k s1 h1 => ?_)
  · cases k with
    | true =>
      simp only [if_true] at q1 ⊢
      exact ⟨ι1, S1, σ, Qb, Ra, L1, G.ext e1, q1, cn.ext e1, cx.ext e1⟩
    | false =>
      simp only [Bool.false_eq_true, if_false] at q1 ⊢
      exact ⟨ι1, S1, σ, Qb, Ra, L1, G.ext e1, q1, cn.ext e1, cx.ext e1⟩
  · obtain ⟨H1, I1, q1⟩ := h1
    cases k with
    | true =>
      simp only [if_true] at q1 ⊢
      exact ha.run pins s1 σc H1 Q I1 q1
    | false =>
      simp only [Bool.false_eq_true, if_false] at q1 ⊢
      exact hb.run pins s1 σc H1 Q I1 q1
theorem t_and_nil : PW X (.BoolOp .And [] pos) (rdAnd D T C W .nil) := ⟨fun wh pins s σc H Q I z => by
  obtain ⟨ι, S, σ, Qb, Ra, L, G, hw, cn, cx⟩ := z
  exact isTrue_and_nil ⟨H, I, cn.here L (show Qb true S from hw)⟩⟩
theorem t_or_nil : PW X (.BoolOp .Or [] pos) (rdOr D T C W .nil) := ⟨fun wh pins s σc H Q I z => by
  obtain ⟨ι, S, σ, Qb, Ra, L, G, hw, cn, cx⟩ := z
  exact isTrue_or_nil ⟨H, I, cn.here L (show Qb false S from hw)⟩⟩
theorem t_and_cons {a : RE} {as : REs} {e : Expr} {es : List Expr} (ha : PT X e (rdT D T C W a)) (hs : PW X (.BoolOp .And es pos) (rdAnd D T C W as)) : PW X (.BoolOp .And (e :: es) pos) (rdAnd D T C W (.cons a as)) := ⟨fun wh pins s σc H Q I z => by
  obtain ⟨ι, S, σ, Qb, Ra, L, G, hw, cn, cx⟩ := z
  refine isTrue_and (thn (ha.run pins s σc H (fun k H1 => (if k = true then rdAnd D T C W as σc H1 Q else Q false H1)) I ⟨ι, S, σ, _, Ra, L, G, hw, fun ι1 S1 H1 k e1 L1 q1 => ?_, cx⟩) fun k s1 h1 => ?_)
  · cases k with
    | true =>
      simp only [if_true] at q1 ⊢
      exact ⟨ι1, S1, σ, Qb, Ra, L1, G.ext e1, q1, cn.ext e1, cx.ext e1⟩
    | false =>
      simp only [Bool.false_eq_true, if_false] at q1 ⊢
      exact (cn.ext e1).here L1 q1
  · obtain ⟨H1, I1, q1⟩ := h1
    cases k with
    | true =>
      simp only [if_true] at q1 ⊢
      exact hs.run wh pins s1 σc H1 Q I1 q1
    | false =>
      simp only [Bool.false_eq_true, if_false] at q1 ⊢
      exact ⟨H1, I1, q1⟩⟩
theorem t_or_cons {a : RE} {as : REs} {e : Expr} {es : List Expr} (ha : PT X e (rdT D T C W a)) (hs : PW X (.BoolOp .Or es pos) (rdOr D T C W as)) : PW X (.BoolOp .Or (e :: es) pos) (rdOr D T C W (.cons a as)) := ⟨fun wh pins s σc H Q I z => by
  obtain ⟨ι, S, σ, Qb, Ra, L, G, hw, cn, cx⟩ := z
  refine isTrue_or (thn (ha.run pins s σc H (fun k H1 => (if k = true then Q true H1 else rdOr D T C W as σc H1 Q)) I ⟨ι, S, σ, _, Ra, L, G, hw, fun ι1 S1 H1 k e1 L1 q1 => ?_, cx⟩) fun k s1 h1 => ?_)
  · cases k with
    | false =>
      simp only [Bool.false_eq_true, if_false] at q1 ⊢
      exact ⟨ι1, S1, σ, Qb, Ra, L1, G.ext e1, q1, cn.ext e1, cx.ext e1⟩
    | true =>
      simp only [if_true] at q1 ⊢
      exact (cn.ext e1).here L1 q1
  · obtain ⟨H1, I1, q1⟩ := h1
    cases k with
    | false =>
      simp only [Bool.false_eq_true, if_false] at q1 ⊢
      exact hs.run wh pins s1 σc H1 Q I1 q1
    | true =>
      simp only [if_true] at q1 ⊢
      exact ⟨H1, I1, q1⟩⟩
theorem t_and {es : REs} {vs : List Expr} (h : PW X (.BoolOp .And vs pos) (rdAnd D T C W es)) : PT X (.BoolOp .And vs pos) (rdT D T C W (.and es)) := PT.imp h.pt fun σc H Q z => z
theorem t_or {es : REs} {vs : List Expr} (h : PW X (.BoolOp .Or vs pos) (rdOr D T C W es)) : PT X (.BoolOp .Or vs pos) (rdT D T C W (.or es)) := PT.imp h.pt fun σc H Q z => z
/-- a value's truth -/
theorem t_val {r : RE} {e : Expr} (o : Okx X D F T M fl C lv W c) (ha : PE X e (rdE D T C W r)) (he : ∀ whole, isTrue e X.env whole = (do let v ← whole; standAt e.pos; holding [v] (truthy v)))
    (hi : ∀ σ S Qb Ra, wpT T C r σ S Qb Ra → wpE T C r σ S (fun v S1 => onS (tru S1 v) fun k => Qb k S1) Ra) : PT X e (rdT D T C W r) := by
  refine PT.imp (pt_truth ha he) fun σc H Q z => ?_
  obtain ⟨ι, S, σ, Qb, Ra, L, G, hw, cn, cx⟩ := z
  refine ⟨ι, S, σ, _, Ra, L, G, hi _ _ _ _ hw, fun ι1 S1 H1 v x e1 L1 r1 q1 => ?_, cx⟩
  obtain ⟨k, ek, q⟩ := onS_ex q1
  exact ⟨k, by rw [o.hK]; exact tru_at L1 r1 ek, (cn.ext e1).here L1 q⟩

/-! ### and, or as values -/
theorem s_and_one {a : RE} {e : Expr} (ha : PE X e (rdE D T C W a)) : PE X (.BoolOp .And [e] pos) (rdAndV D T C W (.cons a .nil)) := PE.imp (pe_one ha) fun σc H Q z => z
theorem s_or_one {a : RE} {e : Expr} (ha : PE X e (rdE D T C W a)) : PE X (.BoolOp .Or [e] pos) (rdOrV D T C W (.cons a .nil)) := PE.imp (pe_one ha) fun σc H Q z => z
theorem s_and_cons {a b : RE} {as : REs} {e e2 : Expr} {es : List Expr} (o : Okx X D F T M fl C lv W c) (ha : PE X e (rdE D T C W a)) (hs : PE X (.BoolOp .And (e2 :: es) pos) (rdAndV D T C W (.cons b as))) : PE X (.BoolOp .And (e :: e2 :: es) pos) (rdAndV D T C W (.cons a (.cons b as))) := by
  refine PE.imp (pe_andT ha hs) fun σc H Q z => ?_
  obtain ⟨ι, S, σ, Qa, Ra, L, G, hw, cn, cx⟩ := z
  have hw : wpE T C a σ S (fun v S1 => onS (tru S1 v) fun k => if k = true then wpAndV T C (.cons b as) σ S1 Qa Ra else Qa v S1) Ra := hw
  refine ⟨ι, S, σ, _, Ra, L, G, hw, fun ι1 S1 H1 v x e1 L1 r1 q1 => ?_, cx⟩
  obtain ⟨k, ek, q⟩ := onS_ex q1
  refine ⟨k, by rw [o.hK]; exact tru_at L1 r1 ek, ?_⟩
  cases k with
  | true =>
    simp only [if_true] at q ⊢
    exact ⟨ι1, S1, σ, Qa, Ra, L1, G.ext e1, q, cn.ext e1, cx.ext e1⟩
  | false =>
    simp only [Bool.false_eq_true, if_false] at q ⊢
    exact (cn.ext e1).here L1 r1 q
theorem s_or_cons {a b : RE} {as : REs} {e e2 : Expr} {es : List Expr} (o : Okx X D F T M fl C lv W c) (ha : PE X e (rdE D T C W a)) (hs : PE X (.BoolOp .Or (e2 :: es) pos) (rdOrV D T C W (.cons b as))) : PE X (.BoolOp .Or (e :: e2 :: es) pos) (rdOrV D T C W (.cons a (.cons b as))) := by
  refine PE.imp (pe_orT ha hs) fun σc H Q z => ?_
  obtain ⟨ι, S, σ, Qa, Ra, L, G, hw, cn, cx⟩ := z
  have hw : wpE T C a σ S (fun v S1 => onS (tru S1 v) fun k => if k = true then Qa v S1 else wpOrV T C (.cons b as) σ S1 Qa Ra) Ra := hw
  refine ⟨ι, S, σ, _, Ra, L, G, hw, fun ι1 S1 H1 v x e1 L1 r1 q1 => ?_, cx⟩
  obtain ⟨k, ek, q⟩ := onS_ex q1
  refine ⟨k, by rw [o.hK]; exact tru_at L1 r1 ek, ?_⟩
  cases k with
  | false =>
    simp only [Bool.false_eq_true, if_false] at q ⊢
    exact ⟨ι1, S1, σ, Qa, Ra, L1, G.ext e1, q, cn.ext e1, cx.ext e1⟩
  | true =>
    simp only [if_true] at q ⊢
    exact (cn.ext e1).here L1 r1 q
end
end Rp
/-! # enumerate of a list or a tuple, from 0 or from a start -/
namespace Rp
open PySem PySem.Spec PyProof.Rows L2
/-- the items at each turn, each in a new pair with its number -/
def ItE (P : Hp → List V → Prop) (k : Int) : It :=
  ⟨fun i H => ∃ (xs : List V) (x : V), P H xs ∧ xs[i]? = some x, fun i H v H' => ∃ T x, v = .ref T ∧ H T = none ∧ H' = upd H T (.tup [.int (k + (i : Nat)), x]) ∧ ∀ xs, P H xs → xs[i]? = some x, fun i H => ∃ xs : List V, P H xs ∧ xs.length ≤ i⟩
theorem draws_k {prog : Program} {w : World} {A : Around} (hh : A.handled = none) (k : Bool) (it l : Addr) (hne : l ≠ it) (items : Array Value) :
    Draws prog w A it [it, l] items.size (fun i v => items[i]? = some v) (fun i h => SqI k h it l i ∧ SqV k h l items) := by
  cases k with
  | true => exact Draws.list hh it l hne items
  | false => exact Draws.tuple hh it l hne items
theorem nxt_end {prog : Program} {w : World} {A : Around} {E : Value → Shared → Prop} {s : Shared} {k : Bool} {e it l : Addr} {i : Nat} {c : Int} {items : Array Value} {old : Value} {Q : Option Value → Shared → Prop} (hh : A.handled = none)
    (he : IsEnum s.heap e it c old) (hit : SqI k s.heap it l i) (hl : SqV k s.heap l items) (hx : items[i]? = none)
    (hQ : ∀ h', Heap.ExtBut it s.heap h' → Q none { s with heap := h' }) : wpAny (model prog w) A (pyNext (.ref e)) Q E s := by
  have hT : s.TypeIs (.ref e) "enumerate" := ⟨_, he, rfl⟩
  unfold pyNext
  refine wpAny_bind (wpAny_attempt (wpAny_callSpecial?_slot (name := Str.ofString "__next__") hT F.slot_enumerate_next
    (wpAny_call_entry F.slot_enumerate_next hT F.entry_enumerate_next ?_ (F.args_enumerate_next_1 _))))
  show wpAny _ _ (field (.ref e) 2 >>= _) _ _ _
  refine wpAny_bind (wpAny_field he rfl (x := .ref it) rfl ?_)
  refine wpAny_bind (nx_end hh hit hl hx fun h' x he' hx' => ?_)
  obtain ⟨o, ho, hc⟩ := hx'
  refine wpAny_bind (wpAny_isInstance (T := "StopIteration") (b := true) ⟨o, ho, hc⟩ isSubtype_stop ?_)
  exact wpAny_pure (hQ _ he')
set_option maxHeartbeats 1000000 in
theorem meets_en1 {v : Value} {o : Obj} {H : Heap → Prop} (B : Begins v o H) :
    Meets (Builtin.«enumerate.__new__» ⟨[.type "enumerate", v], []⟩) (fun _ R s => H s.heap ∧
      R (.ok (.ret (.ref (s.heap.push o).objs.size))) { s with heap := (s.heap.push o).push { cls := .type "enumerate", data := .fields #[.none, .bool false, .ref s.heap.objs.size, rawInt 0, .none, .none] } }) :=
  .of_wp fun prog w A R s h => by
    obtain ⟨hp, g, d, tk, os⟩ := s; obtain ⟨h1, h⟩ := h
    have hsub := sub_enumerate
    have q1 : ∀ {A' : Around} {E : Value → Shared → Prop} {Q : Value → Shared → Prop}, Q (.ref hp.objs.size) ⟨hp.push o, g, d, tk, os⟩ → wpAny (model prog w) A' (pyIter v) Q E ⟨hp, g, d, tk, os⟩ :=
      fun q => B.iter prog w _ _ ⟨hp, g, d, tk, os⟩ _ h1 q
    wp_walk using q1
    refine wpAny_stack_any fun st => wpAny_pure ?_
    split
    · rename_i c _ _ _ _ _
      cases (c == Value.type "enumerate")
      · wp_walk using q1
        exact ⟨_, rfl, h⟩
      · wp_walk using q1
        exact ⟨_, rfl, h⟩
    · wp_walk using q1
      exact ⟨_, rfl, h⟩
theorem en_begins1 {prog : Program} {w : World} {A : Around} {E : Value → Shared → Prop} {s : Shared} {v : Value} {o : Obj} {H : Heap → Prop} {Q : Value → Shared → Prop} (B : Begins v o H) (h1 : H s.heap)
    (h : ∀ h', IsEnum h' (s.heap.objs.size + 1) s.heap.objs.size 0 .none → h'.get? s.heap.objs.size = some o → h'.objs.size = s.heap.objs.size + 2 →
      (∀ b o, s.heap.get? b = some o → h'.get? b = some o) → Q (.ref (s.heap.objs.size + 1)) { s with heap := h' }) :
    wpAny (model prog w) A (call (.type "enumerate") [v]) Q E s := by
  refine callType_new F.called_enumerate (by decide) (F.typeCall_enumerate_1 _) (F.newCall_enumerate_1 _) (fun obj => F.args_object_init_2 obj _) F.entry_enumerate_new
    (meets_en1 B) ⟨h1, ?_⟩
  have hz : (s.heap.push o).objs.size = s.heap.objs.size + 1 := Heap.size_push ..
  show _ ∧ _
  rw [hz]
  have he : IsEnum ((s.heap.push o).push { cls := .type "enumerate", data := .fields #[.none, .bool false, .ref s.heap.objs.size, rawInt 0, .none, .none] }) (s.heap.objs.size + 1) s.heap.objs.size 0 .none := by
    have := Heap.get?_push_size (s.heap.push o) (o := { cls := .type "enumerate", data := .fields #[.none, .bool false, .ref s.heap.objs.size, rawInt 0, .none, .none] }) rfl
    rw [hz] at this; exact this
  refine ⟨⟨_, he, rfl⟩, h _ he (Heap.get?_push_of_some _ (Heap.get?_push_size _ B.free)) (by rw [Heap.size_push, hz]) fun b o x => Heap.get?_push_of_some _ (Heap.get?_push_of_some _ x)⟩
theorem begins_k (k : Bool) (l : Addr) (items : Array Value) : Begins (.ref l) (itO k l) fun h => SqV k h l items := by
  cases k with
  | true => exact begins_list l items
  | false => exact begins_tuple l items
theorem turn_en {P : Program} {w : World} {K : PySem.W.Frag} {elts : List Expr} {kk : Nat} {tpos : Pos} {b : Bool} {c : Int} {a e it : Addr} (ae : a ≠ e) (ai : a ≠ it) :
    Turn P w K (.Tuple elts kk tpos) (ItE (SqK b K a) c) [e, it] e (fun i h => (∃ old, IsEnum h e it (c + ((i : Nat) : Int)) old) ∧ SqI b h it a i ∧ e ≠ it) where
  mem := by simp
  obj := fun i h st q hb => by
    obtain ⟨⟨old, he⟩, hi, _⟩ := st
    obtain ⟨o, n, ho, hc, hd⟩ := hi.obj
    have e' : q = e ∨ q = it := by simpa using hb
    rcases e' with z | z
    · rw [z]; exact ⟨_, he, fun v q => nomatch q⟩
    · rw [z]; exact ⟨o, ho, fun v q => by rw [hd] at q; cases q⟩
  keep := fun i h h' st k => let ⟨⟨old, he⟩, hi, hne⟩ := st; ⟨⟨old, k e (by simp) _ he⟩, hi.at' fun o q => k it (by simp) o q, hne⟩
  item := by
    intro X hP hw hK hc i pins s σ H E I hf st hg
    subst hP hw hK
    obtain ⟨⟨old, he⟩, hit, hne⟩ := st
    obtain ⟨xs, x, hq, hx⟩ := hg
    obtain ⟨its, rv, p, la⟩ := hq.at' I
    obtain ⟨u, hu, ru⟩ := rv.get hx
    have hel : e < s.heap.objs.size := Heap.lt_size he
    have hil : it < s.heap.objs.size := by obtain ⟨_, _, q, _⟩ := hit.obj; exact Heap.lt_size q
    have hlt : i < its.toArray.size := by
      have := (List.getElem?_eq_some_iff.mp hu).1
      rw [List.size_toArray]
      exact this
    refine wpAny_pyNext_enum_itemC (draws_k (A := X.A.in1) (I.ok.hd hc) b it a ai its.toArray) he ⟨hit, p⟩ hlt hne (by
      intro z
      have z : e = it ∨ e = a := by simpa using z
      rcases z with z | z
      · exact hne z
      · exact ae z.symm) fun y h' tk hy ho hit' hT hsz hk => ?_
    have ey : y = u := by
      have hy : its.toArray[i]? = some y := hy
      have : its[i]? = some y := by simpa using hy
      rw [hu] at this
      cases this
      rfl
    subst ey
    refine ⟨_, rfl, wpAny_letOwnedTupleGo_enum (s := { s with heap := h', toks := tk + 1 }) ho fun h'' he' sb => ?_⟩
    have hT2 : h''.get? s.heap.objs.size = some { cls := .type "tuple", data := .seq #[.int (c + (i : Nat)) tk, y] } := (sb.2 _ (Nat.ne_of_gt hel)).trans hT
    have new : ObjOk X.prog X.w (upd H s.heap.objs.size (.tup [.int (c + (i : Nat)), x])) h'' s.heap.objs.size (.tup [.int (c + (i : Nat)), x]) :=
      ⟨by show 2 ≤ sizeLine; decide, [.int (c + (i : Nat)) tk, y], .cons ⟨_, rfl⟩ (.cons ru .nil), ⟨_, hT2, rfl, _, rfl⟩⟩
    have I1 : Inv X pins σ (upd H s.heap.objs.size (.tup [.int (c + (i : Nat)), x])) { s with heap := h'', toks := tk + 1 } :=
      I.turnedNew (ch := [e, it]) (fun b ob hb q => (sb.2 b (fun z => hb (by simp [z]))).trans (hk b ob (fun z => hb (by simp [z])) (fun z => hb (by simp [z])) q)) hf (Nat.le_refl _) new
    refine ⟨.ref s.heap.objs.size, _, I1, rfl, ⟨_, x, rfl, I.hok.fresh (Nat.le_refl _), rfl, fun ys hy => by rw [SqK.inj hy hq I]; exact hx⟩, ⟨⟨y, ?_⟩, hit'.1.at' fun o q => (sb.2 it (Ne.symm hne)).trans q, hne⟩, fun b hb => ?_⟩
    · have e1 : c + ((i + 1 : Nat) : Int) = c + (i : Int) + 1 := by omega
      rw [e1]; exact he'
    · have hb' : b < s.heap.objs.size := by
        have e' : b = e ∨ b = it := by simpa using hb
        rcases e' with z | z
        · rw [z]; exact hel
        · rw [z]; exact hil
      rw [upd_ne (Nat.ne_of_lt hb')]
      exact (hf b hb).1
  done := by
    intro X hP hw hK hc i pins s σ H E I hf st hg
    subst hP hw hK
    obtain ⟨⟨old, he⟩, hit, hne⟩ := st
    obtain ⟨xs, hq, hx⟩ := hg
    obtain ⟨its, rv, p, la⟩ := hq.at' I
    obtain ⟨f0, f1, f2, f3, f4, f5⟩ := hf it (by simp)
    have hl := rv.length
    refine nxt_end (I.ok.hd hc) he hit p (by simp; omega) fun h' eb => ⟨rfl, I.turned (t' := s.toks) (fun b o hb q => eb b o hb q) f0 f1 f3 f4 f5⟩
  self := fun A i s Q E st h => let ⟨⟨_, he⟩, _⟩ := st; wpAny_pyIter_enum he h
section
variable {X : Cx}
/-- what enumerate goes through -/
def iEn (K : PySem.W.Frag) (c : Int) (ta : TA) : TI := fun σ H R => ta σ H fun vs H1 => ∃ a k xs, vs = [.ref a] ∧ SqK k K a H1 xs ∧ R (ItE (SqK k K a) c) H1
theorem en_made {pins : List (Addr × Obj)} {σ : L2.St} {H : Hp} {s : Shared} {E : Value → Shared → Prop} {k : Bool} {c : Int} {a : Addr} {R : It → Hp → Prop} {h' : Heap} {elts : List Expr} {kk : Nat} {tpos : Pos} (I : Inv X pins σ H s) (la : a < s.heap.objs.size)
    (he : IsEnum h' (s.heap.objs.size + 1) s.heap.objs.size c .none) (hit : h'.get? s.heap.objs.size = some (itO k a)) (hk : ∀ b o, s.heap.get? b = some o → h'.get? b = some o) (q : R (ItE (SqK k X.K a) c) H) :
    wpAny (model X.prog X.w) X.A (pyIter (.ref (s.heap.objs.size + 1))) (PIE X pins σ (.Tuple elts kk tpos) R) E { s with heap := h' } := by
  refine wpAny_pyIter_enum he ?_
  have I2 : Inv X pins σ H { s with heap := h' } := I.kept (t' := s.toks) hk
  refine ⟨s.heap.objs.size + 1, [s.heap.objs.size + 1, s.heap.objs.size], _, _, H, rfl, I2, turn_en (c := c) (Nat.ne_of_lt (Nat.lt_succ_of_lt la)) (Nat.ne_of_lt la), ⟨⟨.none, by simpa using he⟩, itO_is hit, Nat.succ_ne_self _⟩, fun b hb => ?_, q⟩
  have e' : b = s.heap.objs.size + 1 ∨ b = s.heap.objs.size := by simpa using hb
  have hle : s.heap.objs.size ≤ b := by
    rcases e' with z | z
    · rw [z]; exact Nat.le_add_right _ _
    · rw [z]; exact Nat.le_refl _
  exact I.fpOk hle (I.hok.fresh hle)
theorem pi_en {e : Expr} {ta : TA} {p pos tpos : Pos} {elts : List Expr} {kk : Nat} (hg : Gl X "enumerate") (hm : X.mg "enumerate" = none) (ha : PA X [e] ta) (hs : starEach [e] X.env = [(false, eval e X.env)]) :
    PI X (.Tuple elts kk tpos) (.Call (.Name "enumerate" p) [e] [] pos) (iEn X.K 0 ta) := by
  refine ⟨fun pins s σ H R I h => ?_⟩
  refine Call_ (ld_blt I hg hm boot_enumerate (PyProof.Rows.callWith_type1 (thn (ha.run pos pins s σ H _ I h) fun us s1 ⟨vs, H1, I1, r1, q1⟩ => ?_) hs rfl))
  obtain ⟨a, k, xs, rfl, hq, q⟩ := q1
  obtain ⟨u, rfl, r⟩ : ∃ u, us = [u] ∧ RelV (.ref a) u := by
    cases r1 with
    | cons r rr => cases rr; exact ⟨_, rfl, r⟩
  obtain rfl : u = Value.ref a := r
  obtain ⟨its, rv, p', la⟩ := hq.at' I1
  exact en_begins1 (begins_k k a its.toArray) p' fun h' he hit hsz hk => en_made I1 la he hit hk q
theorem pi_enS {e : Expr} {ta : TA} {p pos tpos kp cp : Pos} {elts : List Expr} {kk ck : Nat} {c : Int} (hg : Gl X "enumerate") (hm : X.mg "enumerate" = none) (ha : PA X [e] ta) (hs : starEach [e] X.env = [(false, eval e X.env)]) (h0 : -(2 ^ 63) ≤ c) (h1 : c < 2 ^ 63) :
    PI X (.Tuple elts kk tpos) (.Call (.Name "enumerate" p) [e] [⟨some (Str.ofString "start"), .Constant (.int c) ck cp, kp⟩] pos) (iEn X.K c ta) := by
  refine ⟨fun pins s σ H R I h => ?_⟩
  refine wpAny_Call_Name_kw (ld_blt I hg hm boot_enumerate ?_)
  have hA := ha.run pos pins s σ H _ I h
  rw [hs] at hA ⊢
  refine callWith_tyKw rfl rfl rfl (thn hA fun us s1 z => ?_)
  obtain ⟨vs, H1, I1, r1, a, k, xs, rfl, hq, q⟩ := z
  obtain ⟨u, rfl, r⟩ : ∃ u, us = [u] ∧ RelV (.ref a) u := by
    cases r1 with
    | cons r rr => cases rr; exact ⟨_, rfl, r⟩
  obtain rfl : u = Value.ref a := r
  refine PyProof.Rows.kws_cons (thn (pe_int.run pins s1 σ H1 (fun v H2 => v = .int c ∧ H2 = H1) I1 ⟨rfl, rfl⟩) fun v s2 h2 => PyProof.Rows.kws_nil ?_)
  obtain ⟨v', H2, I2, rv', rfl, rfl⟩ := h2
  obtain ⟨t, rfl⟩ : ∃ t, v = Value.int c t := rv'
  obtain ⟨its, rv, p', la⟩ := hq.at' I2
  exact enum_begins_start (begins_k k a its.toArray) p' h0 h1 fun h' he hit hsz hk => en_made I2 la he hit hk q
end
end Rp
/-! # What is walked; targets -/
namespace Rp
open PySem PySem.Spec PyProof.Rows L2

/-- an iterator that yields xs, while st is kept -/
structure ItS (D : Ad) (J : It) (ι0 : List Addr) (H0 : Hp) (xs : List PV) (st : Store → Prop) : Prop where
  go : ∀ (i : Nat) (x : PV) (ι : List Addr) (S : Store) (H : Hp), Ext ι0 H0 ι H → Ly D ι H S → st S → xs[i]? = some x → J.go i H
  yld : ∀ (i : Nat) (x : PV) (ι : List Addr) (S : Store) (H : Hp) (v : V) (H' : Hp), Ext ι0 H0 ι H → Ly D ι H S → st S → xs[i]? = some x → J.yld i H v H' → Ext ι H ι H' ∧ Ly D ι H' S ∧ RV D ι H' x v
  stop : ∀ (ι : List Addr) (S : Store) (H : Hp), Ext ι0 H0 ι H → Ly D ι H S → st S → J.stop xs.length H
/-- a list, a tuple that stays -/
def SrcL (D : Ad) (a : Addr) (ι0 : List Addr) (H0 : Hp) (xs : List PV) (st : Store → Prop) : Prop := ∀ ι S H, Ext ι0 H0 ι H → Ly D ι H S → st S → ∃ vs, SqL D.K H a vs ∧ RVs D ι H xs vs
def SrcT (D : Ad) (a : Addr) (ι0 : List Addr) (H0 : Hp) (xs : List PV) (st : Store → Prop) : Prop := ∀ ι S H, Ext ι0 H0 ι H → Ly D ι H S → st S → ∃ vs, SqT D.K H a vs ∧ RVs D ι H xs vs
section
variable {D : Ad} {ι0 : List Addr} {H0 : Hp} {S0 : Store} {xs ys : List PV} {st st' : Store → Prop} {a b : Addr}
theorem SrcL.imp (s : SrcL D a ι0 H0 xs st) (i : ∀ S, st' S → st S) : SrcL D a ι0 H0 xs st' := fun ι S H e L h => s ι S H e L (i S h)
theorem SrcT.imp (s : SrcT D a ι0 H0 xs st) (i : ∀ S, st' S → st S) : SrcT D a ι0 H0 xs st' := fun ι S H e L h => s ι S H e L (i S h)
theorem src_lst (L0 : Ly D ι0 H0 S0) {v : PV} {x : V} (h : lstOf S0 v = some xs) (r : RV D ι0 H0 v x) : ∃ a, x = .ref a ∧ SrcL D a ι0 H0 xs (still S0 v) := by
  rcases lstOf_cases h with rfl | rfl | ⟨i, rfl, hs⟩
  · obtain ⟨a, vs, e, q, t⟩ := rv_scr r
    exact ⟨a, e, fun ι S H ex L _ => ⟨vs, (rf_ext ex.exi q).list, t.ext ex⟩⟩
  · obtain ⟨a, vs, e, ⟨o, q⟩, t⟩ := rv_ls r
    exact ⟨a, e, fun ι S H ex L _ => ⟨vs, .inl (.inr ⟨o, ex.imm a _ q trivial⟩), t.ext ex⟩⟩
  · obtain ⟨a, hi, e⟩ := rv_ref r
    refine ⟨a, e, fun ι S H ex L hst => ?_⟩
    have hst : S[i]? = S0[i]? := hst
    rw [hs] at hst
    obtain ⟨a', vs, hi', ha, t⟩ := L.lst hst
    rw [ex.get hi] at hi'
    cases hi'
    exact ⟨vs, SqL.of ha, t⟩
theorem src_tup {x : V} (r : RV D ι0 H0 (.tup xs) x) : ∃ a, x = .ref a ∧ SrcT D a ι0 H0 xs st := by
  obtain ⟨a, vs, e, q, t⟩ := rv_tup r
  exact ⟨a, e, fun ι S H ex L _ => ⟨vs, rd_ext ex.exi q, t.ext ex⟩⟩
theorem its_l (s : SrcL D a ι0 H0 xs st) : ItS D (Itl D.K a) ι0 H0 xs st := by
  refine ⟨fun i x ι S H e L h hx => ?_, fun i x ι S H v H' e L h hx y => ?_, fun ι S H e L h => ?_⟩
  · obtain ⟨vs, hq, r⟩ := s ι S H e L h
    obtain ⟨v, hv, _⟩ := r.get hx
    exact ⟨vs, v, hq, hv⟩
  · obtain ⟨vs, hq, r⟩ := s ι S H e L h
    obtain ⟨v', hv, rv⟩ := r.get hx
    obtain ⟨e1, f⟩ := y
    have := f vs hq
    rw [hv] at this
    cases this
    rw [e1]
    exact ⟨Ext.refl, L, rv⟩
  · obtain ⟨vs, hq, r⟩ := s ι S H e L h
    exact ⟨vs, hq, by rw [r.len] <;> exact Nat.le_refl _⟩
theorem its_t (s : SrcT D a ι0 H0 xs st) : ItS D (Itt D.K a) ι0 H0 xs st := by
  refine ⟨fun i x ι S H e L h hx => ?_, fun i x ι S H v H' e L h hx y => ?_, fun ι S H e L h => ?_⟩
  · obtain ⟨vs, hq, r⟩ := s ι S H e L h
    obtain ⟨v, hv, _⟩ := r.get hx
    exact ⟨vs, v, hq, hv⟩
  · obtain ⟨vs, hq, r⟩ := s ι S H e L h
    obtain ⟨v', hv, rv⟩ := r.get hx
    obtain ⟨e1, f⟩ := y
    have := f vs hq
    rw [hv] at this
    cases this
    rw [e1]
    exact ⟨Ext.refl, L, rv⟩
  · obtain ⟨vs, hq, r⟩ := s ι S H e L h
    exact ⟨vs, hq, by rw [r.len] <;> exact Nat.le_refl _⟩
theorem rngL_len : ∀ (n : Nat) (lo : Int), (rngL lo n).length = n
  | 0, _ => rfl
  | n + 1, lo => by
    show (rngL (lo + 1) n).length + 1 = n + 1
    rw [rngL_len n]
theorem rngL_get : ∀ (n : Nat) (lo : Int) (i : Nat) {x : PV}, (rngL lo n)[i]? = some x → i < n ∧ x = .int (lo + (i : Nat))
  | 0, _, _, _, h => by simp [rngL] at h
  | n + 1, lo, 0, x, h => by
    have h : some (PV.int lo) = some x := h
    cases h
    exact ⟨Nat.succ_pos _, by simp⟩
  | n + 1, lo, i + 1, x, h => by
    have h : (rngL (lo + 1) n)[i]? = some x := h
    obtain ⟨a, e⟩ := rngL_get n (lo + 1) i h
    refine ⟨Nat.succ_lt_succ a, ?_⟩
    rw [e]
    congr 1
    omega
theorem its_r {lo : Int} {n : Nat} : ItS D (Itr lo n) ι0 H0 (rngL lo n) st := by
  refine ⟨fun i x ι S H e L h hx => (rngL_get n lo i hx).1, fun i x ι S H v H' e L h hx y => ?_, fun ι S H e L h => ?_⟩
  · obtain ⟨e1, e2⟩ := y
    rw [e1, (rngL_get n lo i hx).2, e2]
    exact ⟨Ext.refl, L, rfl⟩
  · show n ≤ (rngL lo n).length
    rw [rngL_len] <;> exact Nat.le_refl _
theorem enumL_len : ∀ (xs : List PV) (k : Int), (enumL k xs).length = xs.length
  | [], _ => rfl
  | x :: r, k => by
    show (enumL (k + 1) r).length + 1 = r.length + 1
    rw [enumL_len r]
theorem enumL_get : ∀ (xs : List PV) (k : Int) (i : Nat) {p : PV}, (enumL k xs)[i]? = some p → ∃ x, xs[i]? = some x ∧ p = .tup [.int (k + (i : Nat)), x]
  | [], _, _, _, h => by simp [enumL] at h
  | x :: r, k, 0, p, h => by
    have h : some (PV.tup [.int k, x]) = some p := h
    cases h
    exact ⟨x, rfl, by simp⟩
  | x :: r, k, i + 1, p, h => by
    have h : (enumL (k + 1) r)[i]? = some p := h
    obtain ⟨y, a, e⟩ := enumL_get r (k + 1) i h
    refine ⟨y, a, ?_⟩
    rw [e]
    congr 3
    omega
theorem its_e {P : Hp → List V → Prop} {c : Int} (s : ∀ ι S H, Ext ι0 H0 ι H → Ly D ι H S → st S → ∃ vs, P H vs ∧ RVs D ι H xs vs) : ItS D (ItE P c) ι0 H0 (enumL c xs) st := by
  refine ⟨fun i x ι S H e L h hx => ?_, fun i x ι S H v H' e L h hx y => ?_, fun ι S H e L h => ?_⟩
  · obtain ⟨vs, hq, r⟩ := s ι S H e L h
    obtain ⟨z, hz, _⟩ := enumL_get xs c i hx
    obtain ⟨v, hv, _⟩ := r.get hz
    exact ⟨vs, v, hq, hv⟩
  · obtain ⟨vs, hq, r⟩ := s ι S H e L h
    obtain ⟨z, hz, rfl⟩ := enumL_get xs c i hx
    obtain ⟨v', hv, rv⟩ := r.get hz
    obtain ⟨Tt, y', e1, hT, e2, f⟩ := y
    have := f vs hq
    rw [hv] at this
    cases this
    subst e1 e2
    have ex := ext_new (o := .tup [.int (c + (i : Nat)), v']) L hT
    exact ⟨ex, ly_new L hT, ⟨Tt, _, rfl, .inl (.inl upd_same), .cons rfl (.cons (rv.ext ex) .nil)⟩⟩
  · obtain ⟨vs, hq, r⟩ := s ι S H e L h
    exact ⟨vs, hq, by rw [r.len, enumL_len] <;> exact Nat.le_refl _⟩
theorem zipL_len : ∀ (xs ys : List PV), (zipL xs ys).length = min xs.length ys.length
  | [], _ => by simp [zipL]
  | _ :: _, [] => by simp [zipL]
  | x :: r, y :: s => by
    show (zipL r s).length + 1 = _
    rw [zipL_len r s, List.length_cons, List.length_cons]
    omega
theorem zipL_get : ∀ (xs ys : List PV) (i : Nat) {p : PV}, (zipL xs ys)[i]? = some p → ∃ x y, xs[i]? = some x ∧ ys[i]? = some y ∧ p = .tup [x, y]
  | [], _, _, _, h => by simp [zipL] at h
  | _ :: _, [], _, _, h => by simp [zipL] at h
  | x :: r, y :: s, 0, p, h => by
    have h : some (PV.tup [x, y]) = some p := h
    cases h
    exact ⟨x, y, rfl, rfl, rfl⟩
  | x :: r, y :: s, i + 1, p, h => zipL_get r s i (show (zipL r s)[i]? = some p from h)
theorem its_z {P1 P2 : Hp → List V → Prop} {k : Bool} (hk : k = true → xs.length = ys.length) (s1 : ∀ ι S H, Ext ι0 H0 ι H → Ly D ι H S → st S → ∃ vs, P1 H vs ∧ RVs D ι H xs vs) (s2 : ∀ ι S H, Ext ι0 H0 ι H → Ly D ι H S → st S → ∃ vs, P2 H vs ∧ RVs D ι H ys vs) : ItS D (ItZ k P1 P2) ι0 H0 (zipL xs ys) st := by
  refine ⟨fun i x ι S H e L h hx => ?_, fun i x ι S H v H' e L h hx y => ?_, fun ι S H e L h => ?_⟩
  · obtain ⟨vs, hq, r⟩ := s1 ι S H e L h
    obtain ⟨ws, hq2, r2⟩ := s2 ι S H e L h
    obtain ⟨z1, z2, h1, h2, rfl⟩ := zipL_get xs ys i hx
    obtain ⟨v, hv, _⟩ := r.get h1
    obtain ⟨w, hw, _⟩ := r2.get h2
    exact ⟨vs, ws, v, w, hq, hq2, hv, hw⟩
  · obtain ⟨vs, hq, r⟩ := s1 ι S H e L h
    obtain ⟨ws, hq2, r2⟩ := s2 ι S H e L h
    obtain ⟨z1, z2, h1, h2, rfl⟩ := zipL_get xs ys i hx
    obtain ⟨v', hv, rv⟩ := r.get h1
    obtain ⟨w', hw, rw'⟩ := r2.get h2
    obtain ⟨Tt, y1, y2, e1, hT, e2, f1, f2⟩ := y
    have t1 := f1 vs hq
    have t2 := f2 ws hq2
    rw [hv] at t1
    rw [hw] at t2
    cases t1; cases t2
    subst e1 e2
    have ex := ext_new (o := .tup [v', w']) L hT
    exact ⟨ex, ly_new L hT, ⟨Tt, _, rfl, .inl (.inl upd_same), .cons (rv.ext ex) (.cons (rw'.ext ex) .nil)⟩⟩
  · obtain ⟨vs, hq, r⟩ := s1 ι S H e L h
    obtain ⟨ws, hq2, r2⟩ := s2 ι S H e L h
    refine ⟨vs, ws, hq, hq2, ?_, fun e => ?_⟩
    · rw [r.len, r2.len, zipL_len]
      omega
    · rw [r.len, r2.len, zipL_len]
      have := hk e
      omega
end

section
variable {X : Cx} {D : Ad} {F : Fd} {T : Tab} {M : Nm} {fl : List Nat} {C : CS} {lv : Nat} {W : WX} {c : Sc} {pos : Pos} {tg : Expr}
def rdI (D : Ad) (T : Tab) (C : CS) (W : WX) (r : RI) : TI := fun σc H R => ∃ ι S σ Qi Ra, Ly D ι H S ∧ RG D ι H σ σc ∧ wpI T C r σ S Qi Ra ∧
  (∀ ι' S' H' xs st J, Ext ι H ι' H' → Ly D ι' H' S' → ItS D J ι' H' xs st → st S' → Qi xs st S' → R J H') ∧ CnX D ι H Ra σc W

theorem still_self {S : Store} {v : PV} : still S v S := by cases v <;> first | trivial | rfl

/-- a list or a tuple is walked -/
def iSeq (K : PySem.W.Frag) (tl : TE) : TI := fun σ H R => tl σ H fun x H1 => ∃ a, x = .ref a ∧ ((∃ xs, SqL K H1 a xs) ∧ R (Itl K a) H1 ∨ (∃ xs, SqT K H1 a xs) ∧ R (Itt K a) H1)
theorem pi_seq {l : Expr} {tl : TE} (hl : PE X l tl) : PI X tg l (iSeq X.K tl) := by
  refine ⟨fun pins s σ H R I h => thn (hl.run pins s σ H _ I h) fun v s1 ⟨x, H1, I1, r1, a, e, q1⟩ => ?_⟩
  subst e
  cases r1
  have new : ∀ b ∈ [s1.heap.objs.size], FpOk X pins H1 b := fun b hb => by
    have e : b = s1.heap.objs.size := by simpa using hb
    subst e
    exact I1.fpOk (Nat.le_refl _) (I1.hok.fresh (Nat.le_refl _))
  rcases q1 with ⟨⟨xs, hq⟩, q⟩ | ⟨⟨xs, hq⟩, q⟩
  · obtain ⟨its, rv, p, hz⟩ := I1.list hq
    exact wpAny_pyIter_list p.isList ⟨_, [_], _, _, H1, rfl, I1.kept (t' := s1.toks) fun b o e => Heap.get?_push_of_some _ e, turn_list a _, ⟨_, Heap.get?_push_size _ rfl, rfl, rfl⟩, new, q⟩
  · obtain ⟨its, rv, p, hz⟩ := I1.tuple hq
    exact wpAny_pyIter_tuple (show s1.heap.IsTuple a its.toArray from p) ⟨_, [_], _, _, H1, rfl, I1.kept (t' := s1.toks) fun b o e => Heap.get?_push_of_some _ e, turn_tuple a _, ⟨_, Heap.get?_push_size _ rfl, rfl, rfl⟩, new, q⟩
theorem PI.imp {e : Expr} {t t' : TI} (h : PI X tg e t) (i : ∀ σ H R, t' σ H R → t σ H R) : PI X tg e t' := ⟨fun pins s σ H R I hw => h.run pins s σ H R I (i σ H R hw)⟩
theorem i_val {r : RE} {e : Expr} (o : Okx X D F T M fl C lv W c) (he : PE X e (rdE D T C W r)) : PI X tg e (rdI D T C W (.val r)) := by
  refine PI.imp (pi_seq he) fun σc H R z => ?_
  obtain ⟨ι, S, σ, Qi, Ra, L, G, hw, cn, cx⟩ := z
  refine ⟨ι, S, σ, _, Ra, L, G, hw, fun ι1 S1 H1 v x e1 L1 r1 q1 => ?_, cx⟩
  obtain ⟨xs, ex, q⟩ := onS_ex q1
  rw [o.hK]
  rcases itemsOf_cases ex with rfl | hl
  · obtain ⟨a, rfl, s⟩ := src_tup (st := still S1 (.tup xs)) r1
    obtain ⟨vs, hq, _⟩ := s ι1 S1 H1 Ext.refl L1 still_self
    exact ⟨a, rfl, .inr ⟨⟨vs, hq⟩, cn ι1 S1 H1 xs _ _ e1 L1 (its_t s) still_self q⟩⟩
  · obtain ⟨a, rfl, s⟩ := src_lst L1 hl r1
    obtain ⟨vs, hq, _⟩ := s ι1 S1 H1 Ext.refl L1 still_self
    exact ⟨a, rfl, .inl ⟨⟨vs, hq⟩, cn ι1 S1 H1 xs _ _ e1 L1 (its_l s) still_self q⟩⟩
theorem its_s {x : Str} {ι0 : List Addr} {H0 : Hp} {st : Store → Prop} : ItS D (Its x) ι0 H0 (signs x) st := by
  have key : ∀ {i : Nat} {y : PV}, (signs x)[i]? = some y → ∃ c, x.cps[i]? = some c ∧ y = .str ⟨#[c]⟩ := fun {i y} h => by
    unfold signs at h
    rw [List.getElem?_map, Array.getElem?_toList] at h
    cases e : x.cps[i]? with
    | none => rw [e] at h; cases h
    | some c => rw [e] at h; cases h; exact ⟨c, rfl, rfl⟩
  refine ⟨fun i y ι S H e L h hx => ?_, fun i y ι S H v H' e L h hx yl => ?_, fun ι S H e L h => ?_⟩
  · obtain ⟨c, hc, _⟩ := key hx
    show i < x.cps.size
    exact (Array.getElem?_eq_some_iff.mp hc).1
  · obtain ⟨c, hc, rfl⟩ := key hx
    obtain ⟨e1, c', hc', rfl⟩ := yl
    rw [hc] at hc'
    cases hc'
    rw [e1]
    exact ⟨Ext.refl, L, rfl⟩
  · show x.cps.size ≤ (signs x).length
    unfold signs
    rw [List.length_map, Array.length_toList]
    exact Nat.le_refl _
theorem i_txt {r : RE} {e : Expr} (he : PE X e (rdE D T C W r)) : PI X tg e (rdI D T C W (.txt r)) := by
  refine PI.imp (pi_str he) fun σc H R z => ?_
  obtain ⟨ι, S, σ, Qi, Ra, L, G, hw, cn, cx⟩ := z
  refine ⟨ι, S, σ, _, Ra, L, G, hw, fun ι1 S1 H1 v x e1 L1 r1 q1 => ?_, cx⟩
  cases v with
  | str s =>
    obtain rfl := rv_str r1
    exact ⟨s, rfl, cn ι1 S1 H1 _ _ _ e1 L1 its_s trivial q1⟩
  | _ => exact q1.elim
theorem rng_cases {vs : List PV} {S1 : Store} {Qi : List PV → (Store → Prop) → Store → Prop} (h : match vs with
      | [.int j] => onT (decide (okR j)) (Qi (rngL 0 j.toNat) (fun _ => True) S1)
      | [.int i, .int j] => onT (decide (okR i ∧ okR j)) (Qi (rngL i (j - i).toNat) (fun _ => True) S1)
      | _ => False) : (∃ j, vs = [.int j] ∧ okR j ∧ Qi (rngL 0 j.toNat) (fun _ => True) S1) ∨ ∃ i j, vs = [.int i, .int j] ∧ okR i ∧ okR j ∧ Qi (rngL i (j - i).toNat) (fun _ => True) S1 := by
  split at h
  · obtain ⟨a, q⟩ := onT_ex h
    exact .inl ⟨_, rfl, of_decide_eq_true a, q⟩
  · obtain ⟨a, q⟩ := onT_ex h
    have a := of_decide_eq_true a
    exact .inr ⟨_, _, rfl, a.1, a.2, q⟩
  · exact h.elim
theorem i_range1 {es : REs} {a : Expr} {p : Pos} (o : Okx X D F T M fl C lv W c) (hx : Gl X "range") (hm : X.mg "range" = none) (hn : noStar [a] = true) (hl : 1 = es.len) (ha : PA X [a] (rdEs D T C W es)) : PI X tg (.Call (.Name "range" p) [a] [] pos) (rdI D T C W (.range es)) := by
  refine PI.imp (pi_range1 hx hm ha (noStar_cons hn).1) fun σc H R z => ?_
  obtain ⟨ι, S, σ, Qi, Ra, L, G, hw, cn, cx⟩ := z
  refine ⟨ι, S, σ, _, Ra, L, G, hw, fun ι1 S1 H1 vs xs e1 L1 r1 l1 q1 => ?_, cx⟩
  rcases rng_cases q1 with ⟨j, rfl, hj, q⟩ | ⟨i, j, rfl, hi, hj, q⟩
  · obtain ⟨x, rfl, rx⟩ := rvs1 r1
    cases rv_int rx
    exact ⟨j, rfl, hj.1, hj.2, cn ι1 S1 H1 _ _ _ e1 L1 its_r trivial q⟩
  · exfalso
    rw [← hl] at l1
    simp at l1
theorem i_range2 {es : REs} {a b : Expr} {p : Pos} (o : Okx X D F T M fl C lv W c) (hx : Gl X "range") (hm : X.mg "range" = none) (hn : noStar [a, b] = true) (hl : 2 = es.len) (ha : PA X [a, b] (rdEs D T C W es)) : PI X tg (.Call (.Name "range" p) [a, b] [] pos) (rdI D T C W (.range es)) := by
  refine PI.imp (pi_range2 hx hm ha (by rw [(noStar_cons hn).1, (noStar_cons (noStar_cons (env := X.env) hn).2).1] <;> rfl) (noStar_cons (noStar_cons (env := X.env) hn).2).1) fun σc H R z => ?_
  obtain ⟨ι, S, σ, Qi, Ra, L, G, hw, cn, cx⟩ := z
  refine ⟨ι, S, σ, _, Ra, L, G, hw, fun ι1 S1 H1 vs xs e1 L1 r1 l1 q1 => ?_, cx⟩
  rcases rng_cases q1 with ⟨j, rfl, hj, q⟩ | ⟨i, j, rfl, hi, hj, q⟩
  · exfalso
    rw [← hl] at l1
    simp at l1
  · obtain ⟨x, y, rfl, rx, ry⟩ := rvs2 r1
    cases rv_int rx
    cases rv_int ry
    exact ⟨i, j, rfl, ⟨hi.1, hi.2, hj.1, hj.2⟩, cn ι1 S1 H1 _ _ _ e1 L1 its_r trivial q⟩
theorem wpEs_two {a b : RE} {σ : Sg} {S : Store} {P : PV → PV → Store → Prop} {R : QX} (h : wpE T C a σ S (fun v S1 => wpE T C b σ S1 (fun w S2 => P v w S2) R) R) :
    wpEs T C (.cons a (.cons b .nil)) σ S (fun vs S2 => ∀ v w, vs = [v, w] → P v w S2) R := by
  show wpE T C a σ S (fun v S1 => wpE T C b σ S1 (fun w S2 => ∀ v' w', [v, w] = [v', w'] → P v' w' S2) R) R
  have e : (fun (v w : PV) (S2 : Store) => ∀ v' w', [v, w] = [v', w'] → P v' w' S2) = P := by
    funext v w S2
    refine propext ⟨fun h => h v w rfl, fun h v' w' e => ?_⟩
    cases e
    exact h
  have e2 : (fun (v : PV) (S1 : Store) => wpE T C b σ S1 (fun w S2 => ∀ v' w', [v, w] = [v', w'] → P v' w' S2) R) = fun v S1 => wpE T C b σ S1 (fun w S2 => P v w S2) R := by
    funext v S1
    have e3 : (fun (w : PV) (S2 : Store) => ∀ v' w', [v, w] = [v', w'] → P v' w' S2) = P v := congrFun e v
    rw [e3]
  rw [e2]
  exact h
/-- the row at a value -/
theorem src_any {ι0 : List Addr} {H0 : Hp} {S0 : Store} {v : PV} {xs : List PV} {x : V} (L0 : Ly D ι0 H0 S0) (h : itemsOf S0 v = some xs) (r : RV D ι0 H0 v x) :
    ∃ a k, x = .ref a ∧ ∀ ι S H, Ext ι0 H0 ι H → Ly D ι H S → still S0 v S → ∃ vs, SqK k D.K a H vs ∧ RVs D ι H xs vs := by
  rcases itemsOf_cases h with rfl | hl
  · obtain ⟨a, e, s⟩ := src_tup (st := still S0 (.tup xs)) r
    exact ⟨a, false, e, s⟩
  · obtain ⟨a, e, s⟩ := src_lst L0 hl r
    exact ⟨a, true, e, s⟩
theorem en_imp {r : RE} {k : Int} (o : Okx X D F T M fl C lv W c) (σc : L2.St) (H : Hp) (R : It → Hp → Prop) (z : rdI D T C W (.enum r k) σc H R) : iEn X.K k (rdEs D T C W (.cons r .nil)) σc H R := by
  obtain ⟨ι, S, σ, Qi, Ra, L, G, hw, cn, cx⟩ := z
  refine ⟨ι, S, σ, (fun vs S1 => one vs fun v => onS (itemsOf S1 v) fun xs => Qi (enumL k xs) (still S1 v) S1), Ra, L, G, hw, fun ι1 S1 H1 vs xs e1 L1 r1 l1 q1 => ?_, cx⟩
  match vs, r1, q1 with
  | [], _, q1 => exact q1.elim
  | _ :: _ :: _, _, q1 => exact q1.elim
  | [v], r1, q1 =>
    obtain ⟨ys, ey, q⟩ := onS_ex (show onS (itemsOf S1 v) fun xs => Qi (enumL k xs) (still S1 v) S1 from q1)
    obtain ⟨x, rfl, rx⟩ := rvs1 r1
    obtain ⟨a', b, rfl, s⟩ := src_any L1 ey rx
    obtain ⟨ws, hq, _⟩ := s ι1 S1 H1 Ext.refl L1 still_self
    rw [o.hK]
    exact ⟨a', b, ws, rfl, hq, cn ι1 S1 H1 _ _ _ e1 L1 (its_e s) still_self q⟩
theorem i_enum {r : RE} {k : Int} {a : Expr} {p tpos : Pos} {elts : List Expr} {kk : Nat} {kws : List Keyword} (o : Okx X D F T M fl C lv W c) (hx : Gl X "enumerate") (hm : X.mg "enumerate" = none) (hn : noStar [a] = true) (hkw : enumKw k kws = true) (ha : PE X a (rdE D T C W r)) :
    PI X (.Tuple elts kk tpos) (.Call (.Name "enumerate" p) [a] kws pos) (rdI D T C W (.enum r k)) := by
  unfold enumKw at hkw
  split at hkw
  · obtain rfl : k = 0 := of_decide_eq_true hkw
    exact PI.imp (pi_en hx hm (s_cons hn ha s_nil) (noStar_cons hn).1) fun σc H R z => en_imp o σc H R z
  · simp only [Bool.and_eq_true, decide_eq_true_eq] at hkw
    obtain ⟨⟨⟨rfl, rfl⟩, h0⟩, h1⟩ := hkw
    exact PI.imp (pi_enS hx hm (s_cons hn ha s_nil) (noStar_cons hn).1 (by omega) (by omega)) fun σc H R z => en_imp o σc H R z
  · cases hkw
theorem zip_imp {a b : RE} {st : Bool} (o : Okx X D F T M fl C lv W c) (σc : L2.St) (H : Hp) (R : It → Hp → Prop) (z : rdI D T C W (.zip a b st) σc H R) : iZZ X.K st (rdEs D T C W (.cons a (.cons b .nil))) σc H R := by
  obtain ⟨ι, S, σ, Qi, Ra, L, G, hw, cn, cx⟩ := z
  refine ⟨ι, S, σ, _, Ra, L, G, wpEs_two (P := fun v w S2 => onS (itemsOf S2 v) fun xs => onS (itemsOf S2 w) fun ys => onT (!st || decide (xs.length = ys.length)) (Qi (zipL xs ys) (fun S' => still S2 v S' ∧ still S2 w S') S2)) hw, fun ι1 S1 H1 vs xs e1 L1 r1 l1 q1 => ?_, cx⟩
  obtain ⟨v, w, rfl⟩ : ∃ v w, vs = [v, w] := by
    match vs, l1 with
    | [v, w], _ => exact ⟨v, w, rfl⟩
  obtain ⟨ys, ey, q⟩ := onS_ex (q1 v w rfl)
  obtain ⟨zs, ez, q⟩ := onS_ex q
  obtain ⟨hl, q⟩ := onT_ex q
  have hl : st = true → ys.length = zs.length := fun e => by
    subst e
    simpa using hl
  obtain ⟨x, y, rfl, rx, ry⟩ := rvs2 r1
  obtain ⟨p1, k1, rfl, s1⟩ := src_any L1 ey rx
  obtain ⟨p2, k2, rfl, s2⟩ := src_any L1 ez ry
  obtain ⟨vs1, h1, _⟩ := s1 ι1 S1 H1 Ext.refl L1 still_self
  obtain ⟨vs2, h2, _⟩ := s2 ι1 S1 H1 Ext.refl L1 still_self
  rw [o.hK]
  exact ⟨p1, p2, k1, k2, vs1, vs2, rfl, h1, h2, cn ι1 S1 H1 _ _ _ e1 L1 (its_z (st := fun S' => still S1 v S' ∧ still S1 w S') hl (fun ι S H e L h => s1 ι S H e L h.1) fun ι S H e L h => s2 ι S H e L h.2) ⟨still_self, still_self⟩ q⟩
theorem i_zip {a b : RE} {e e2 : Expr} {p tpos : Pos} {elts : List Expr} {kk : Nat} (o : Okx X D F T M fl C lv W c) (hx : Gl X "zip") (hm : X.mg "zip" = none) (hn : noStar [e, e2] = true) (ha : PE X e (rdE D T C W a)) (hb : PE X e2 (rdE D T C W b)) :
    PI X (.Tuple elts kk tpos) (.Call (.Name "zip" p) [e, e2] [] pos) (rdI D T C W (.zip a b false)) :=
  PI.imp (pi_zz0 hx hm (s_cons hn ha (s_cons (noStar_cons (env := X.env) hn).2 hb s_nil)) (noStar_cons hn).1 (noStar_any (noStar_cons (env := X.env) hn).2)) fun σc H R z => zip_imp o σc H R z
theorem i_zipS {a b : RE} {e e2 : Expr} {p tpos kp cp : Pos} {elts : List Expr} {kk ck : Nat} (o : Okx X D F T M fl C lv W c) (hx : Gl X "zip") (hm : X.mg "zip" = none) (hn : noStar [e, e2] = true) (ha : PE X e (rdE D T C W a)) (hb : PE X e2 (rdE D T C W b)) :
    PI X (.Tuple elts kk tpos) (.Call (.Name "zip" p) [e, e2] [⟨some (sN "strict"), .Constant (.bool true) ck cp, kp⟩] pos) (rdI D T C W (.zip a b true)) :=
  PI.imp (pi_zz1 hx hm (s_cons hn ha (s_cons (noStar_cons (env := X.env) hn).2 hb s_nil)) (noStar_cons hn).1 (noStar_any (noStar_cons (env := X.env) hn).2)) fun σc H R z => zip_imp o σc H R z
end
end Rp
/-! # Targets; comprehensions -/
namespace Rp
open PySem PySem.Spec PyProof.Rows L2

abbrev W0 : WX := fun _ _ _ _ => False
theorem wipe_get (σ : L2.St) (i : Nat) : ∀ vs : List Nat, (L2.wipe σ vs)[i]? = if i ∈ vs then (σ[i]?).map (fun _ => none) else σ[i]?
  | [] => by simp [L2.wipe]
  | v :: vs => by
    show ((L2.wipe σ vs).set v none)[i]? = _
    by_cases h : v = i
    · subst h
      rw [List.getElem?_set_self', wipe_get σ v vs]
      by_cases m : v ∈ vs
      · rw [if_pos m, if_pos (by simp)]
        cases σ[v]? <;> rfl
      · rw [if_neg m, if_pos (by simp)]
        cases σ[v]? <;> rfl
    · rw [List.getElem?_set_ne h, wipe_get σ i vs]
      have e : (i ∈ v :: vs) = (i ∈ vs) := by
        rw [List.mem_cons]
        exact propext ⟨fun q => q.resolve_left fun z => h z.symm, .inr⟩
      simp only [e]
theorem wipe_wipe (σ : L2.St) (vs : List Nat) : L2.wipe (L2.wipe σ vs) vs = L2.wipe σ vs := by
  apply List.ext_getElem?
  intro i
  rw [wipe_get, wipe_get]
  by_cases m : i ∈ vs
  · rw [if_pos m, if_pos m]
    cases σ[i]? <;> rfl
  · rw [if_neg m, if_neg m]
theorem wipe_set (σ : L2.St) {i : Nat} {x : Option V} {vs : List Nat} (h : vs.contains i = true) : L2.wipe (σ.set i x) vs = L2.wipe σ vs := by
  apply List.ext_getElem?
  intro j
  rw [wipe_get, wipe_get]
  have hm : i ∈ vs := by simpa using h
  by_cases m : j ∈ vs
  · rw [if_pos m, if_pos m]
    by_cases e : i = j
    · subst e
      rw [List.getElem?_set_self']
      cases σ[i]? <;> rfl
    · rw [List.getElem?_set_ne e]
  · rw [if_neg m, if_neg m]
    rw [List.getElem?_set_ne (fun e => m (by rw [← e]; exact hm))]

section
variable {X : Cx} {D : Ad} {F : Fd} {T : Tab} {M : Nm} {fl : List Nat} {C : CS} {lv : Nat} {W : WX} {c : Sc} {pos : Pos} {tg : Expr}
def CnG (D : Ad) (ι : List Addr) (H : Hp) (σc : L2.St) (tin : List Nat → Bool) (Qt : Sg → Store → Prop) (Q : L2.St → Hp → Prop) : Prop :=
  ∀ ι' S' H' σ' σc', Ext ι H ι' H' → Ly D ι' H' S' → RG D ι' H' σ' σc' → (∀ vs, tin vs = true → L2.wipe σc' vs = L2.wipe σc vs) → Qt σ' S' → Q σc' H'
def rdTg (D : Ad) (T : Tab) (C : CS) (r : RT) : TG := fun v σc H Q => ∃ ι S σ Qt w, Ly D ι H S ∧ RG D ι H σ σc ∧ RV D ι H w v ∧ wpTg T C r w σ S Qt (fun _ _ => False) ∧ CnG D ι H σc (tgIn r) Qt Q
def rdTgs (D : Ad) (T : Tab) (C : CS) (r : RTs) : TGs := fun vs σc H Q => ∃ ι S σ Qt ws, Ly D ι H S ∧ RG D ι H σ σc ∧ RVs D ι H ws vs ∧ wpTgs T C r ws σ S Qt (fun _ _ => False) ∧ CnG D ι H σc (tgsIn r) Qt Q
theorem cnx_no {ι : List Addr} {H : Hp} {σc : L2.St} : CnX D ι H (fun _ _ => False) σc W := fun _ _ _ _ _ _ _ _ _ q => q.elim
theorem t_name {i : Nat} {x : Str} (o : Okx X D F T M fl C lv W c) (h : okPut c i x = true) : PG X (.Name x pos) (rdTg D T C (.name i)) := by
  unfold okPut at h
  rw [Bool.and_eq_true] at h
  have hi : X.N[i]? = some x := by rw [o.hN]; exact of_decide_eq_true h.1
  have hp := h.2
  unfold Sc.put at hp
  rw [← o.hsc] at hp
  have key : Loc X.env.scope x ∧ (X.fn x = true ∨ X.env.scope.names.lookup x = some .local) := by
    split at hp
    · exact ⟨.inl (by assumption), .inr (by assumption)⟩
    · exact ⟨.inr (by assumption), .inl (o.hfn hp x (by assumption))⟩
    · cases hp
  refine PG.imp (pg_name o.nd hi key.1 key.2) fun v σc H Q z => ?_
  obtain ⟨ι, S, σ, Qt, w, L, G, r, hw, cn⟩ := z
  exact cn ι S H _ _ Ext.refl L (G.set i r) (fun vs hv => wipe_set σc hv) (show Qt (σ.set i (some w)) S from hw)
theorem ts_nil : PGs X [] (rdTgs D T C .nil) := ⟨fun pins s σc H vs us Q I r z => by
  obtain ⟨ι, S, σ, Qt, ws, L, G, rv, hw, cn⟩ := z
  obtain ⟨rfl, q⟩ : ws = [] ∧ Qt σ S := by
    cases ws with
    | nil => exact ⟨rfl, hw⟩
    | cons a b => exact (show False from hw).elim
  have rv : vs = [] := rv
  exact pgs_nil.run pins s σc H vs us Q I r ⟨rv, cn ι S H σ σc Ext.refl L G (fun _ _ => rfl) q⟩⟩
theorem noStarT_cons {e : Expr} {es : List Expr} {env : Env} (h : noStarT (e :: es) = true) : assignEach (e :: es) env = (false, assign e env) :: assignEach es env ∧ noStarT es = true := by
  have hr : noStarT es = true := by cases e <;> first | exact h | cases h
  refine ⟨?_, hr⟩
  cases e <;> first
    | rfl
    | cases h
theorem noStarT_len : ∀ {es : List Expr} {env : Env}, noStarT es = true → (assignEach es env).length = es.length ∧ (assignEach es env).findIdx? (·.1) = none
  | [], _, _ => ⟨rfl, rfl⟩
  | e :: es, env, h => by
    obtain ⟨h1, h2⟩ := noStarT_cons (env := env) h
    obtain ⟨a, b⟩ := noStarT_len (env := env) h2
    rw [h1]
    refine ⟨by rw [List.length_cons, List.length_cons, a], ?_⟩
    rw [List.findIdx?_cons, b]
    rfl
theorem ts_cons {t : RT} {ts : RTs} {e : Expr} {es : List Expr} (hn : noStarT (e :: es) = true) (h1 : PG X e (rdTg D T C t)) (h2 : PGs X es (rdTgs D T C ts)) : PGs X (e :: es) (rdTgs D T C (.cons t ts)) := ⟨fun pins s σc H vs us Q I r z => by
  refine (pgs_cons h1 h2 (by rw [(noStarT_cons hn).1] <;> rfl)).run pins s σc H vs us Q I r ?_
  obtain ⟨ι, S, σ, Qt, ws, L, G, rv, hw, cn⟩ := z
  obtain ⟨v, rr, rfl, hw⟩ : ∃ v rr, ws = v :: rr ∧ wpTg T C t v σ S (fun σ1 S1 => wpTgs T C ts rr σ1 S1 Qt (fun _ _ => False)) (fun _ _ => False) := by
    cases ws with
    | nil => exact (show False from hw).elim
    | cons a b => exact ⟨a, b, rfl, hw⟩
  obtain ⟨y, ys, rfl, ry, rys⟩ := rv
  refine ⟨y, ys, rfl, ι, S, σ, _, v, L, G, ry, hw, fun ι1 S1 H1 σ1 σc1 e1 L1 G1 sm1 q1 => ?_⟩
  refine ⟨ι1, S1, σ1, Qt, rr, L1, G1, rys.ext e1, q1, fun ι2 S2 H2 σ2 σc2 e2 L2' G2 sm2 q2 => ?_⟩
  refine cn ι2 S2 H2 σ2 σc2 (e1.trans e2) L2' G2 (fun vs hv => ?_) q2
  have hv : (tgIn t vs && tgsIn ts vs) = true := hv
  rw [Bool.and_eq_true] at hv
  rw [sm2 vs hv.2, sm1 vs hv.1]⟩
/-- a tuple or a list is unpacked -/
theorem pg_any {es : List Expr} {k : Nat} {t : TGs} {n : Nat} (hc : X.calm = true) (h : PGs X es t) (hn : (assignEach es X.env).length = n) (hst : (assignEach es X.env).findIdx? (·.1) = none) : PG X (.Tuple es k pos) (fun v σ H Q => gTup X.K n t v σ H Q ∨ gLst X.K n t v σ H Q) := by
  refine ⟨fun pins s σ H v u Q I r hw => ?_⟩
  rcases hw with hw | hw
  · exact (pg_tup (pos := pos) (k := k) hc h hn hst).run pins s σ H v u Q I r hw
  · exact (pg_lst (pos := pos) (k := k) hc h hn hst).run pins s σ H v u Q I r hw
theorem t_tup {ts : RTs} {es : List Expr} {k : Nat} (o : Okx X D F T M fl C lv W c) (hn : noStarT es = true) (hl : es.length = ts.len ∧ ∀ n, ts.cnt n = ts.len) (h : PGs X es (rdTgs D T C ts)) : PG X (.Tuple es k pos) (rdTg D T C (.tup ts)) := by
  obtain ⟨l1, l2⟩ := noStarT_len (env := X.env) hn
  refine PG.imp (pg_any o.calm h (l1.trans hl.1) l2) fun v σc H Q z => ?_
  obtain ⟨ι, S, σ, Qt, w, L, G, r, hw, cn⟩ := z
  obtain ⟨xs, ex, hw⟩ := onS_ex (show onS (itemsOf S w) fun xs => onT (cntOk ts xs.length) (wpTgs T C ts xs σ S Qt (fun _ _ => False)) from hw)
  obtain ⟨el, hw⟩ := onT_ex hw
  have el : xs.length = ts.cnt xs.length := of_decide_eq_true el
  obtain ⟨a, k, rfl, s⟩ := src_any L ex r
  obtain ⟨vs, hq, rv⟩ := s ι S H Ext.refl L still_self
  have fin : rdTgs D T C ts vs σc H Q := ⟨ι, S, σ, Qt, xs, L, G, rv, hw, cn⟩
  cases k
  · exact .inl ⟨a, vs, rfl, by rw [o.hK]; exact hq, by rw [rv.len, el, hl.2], fin⟩
  · exact .inr ⟨a, vs, rfl, by rw [o.hK]; exact hq, by rw [rv.len, el, hl.2], fin⟩
theorem t_sub {o' i' : RE} {e k : Expr} (o : Okx X D F T M fl C lv W c) (hk : isSlice k = false) (ha : PE X e (rdE D T C W o')) (hb : PE X k (rdE D T C W i')) : PG X (.Subscript e k pos) (rdTg D T C (.sub o' i')) := by
  refine PG.imp (pg_sub ha hb (set_G (D := D)) (fun v => by cases k <;> first | rfl | cases hk)) fun v σc H Q z => ?_
  obtain ⟨ι, S, σ, Qt, w, L, G, r, hw, cn⟩ := z
  refine ⟨ι, S, σ, _, _, L, G, hw, fun ι1 S1 H1 v1 x1 e1 L1 r1 q1 => ?_, cnx_no⟩
  refine ⟨ι1, S1, σ, _, _, L1, G.ext e1, q1, fun ι2 S2 H2 v2 x2 e2 L2' r2 q2 => ?_, cnx_no⟩
  have e12 := e1.trans e2
  exact ⟨ι2, S2, v1, v2, w, _, L2', r1.ext e2, r2, r.ext e12, q2, fun ι3 S3 H3 e3 L3 q3 => cn ι3 S3 H3 σ σc (e12.trans e3) L3 (G.ext (e12.trans e3)) (fun _ _ => rfl) q3⟩

theorem t_subK {o' : RE} {f : Nat} {e k : Expr} (o : Okx X D F T M fl C lv W c) (hk : isKey f k = true) (ha : PE X e (rdE D T C W o')) : PG X (.Subscript e k pos) (rdTg D T C (.subK o' f)) := by
  obtain ⟨j, p, rfl⟩ := isKey_is hk
  refine PG.imp (pg_sub ha pe_str (set_K (D := D) (by have := o.u64; omega) f) (fun v => rfl)) fun v σc H Q z => ?_
  obtain ⟨ι, S, σ, Qt, w, L, G, r, hw, cn⟩ := z
  refine ⟨ι, S, σ, _, _, L, G, hw, fun ι1 S1 H1 v1 x1 e1 L1 r1 q1 => ?_, cnx_no⟩
  exact ⟨ι1, S1, v1, w, _, L1, r1, rfl, r.ext e1, q1, fun ι3 S3 H3 e3 L3 q3 => cn ι3 S3 H3 σ σc (e1.trans e3) L3 (G.ext (e1.trans e3)) (fun _ _ => rfl) q3⟩

/-! ### comprehensions -/
def rdTs (D : Ad) (T : Tab) (C : CS) (r : REs) : TT := fun σc H Q => ∃ ι S σ Qb, Ly D ι H S ∧ RG D ι H σ σc ∧ wpTs T C r σ S Qb (fun _ _ => False) ∧ CnB D ι H Qb Q
theorem PTs.imp {es : List Expr} {t t' : TT} (h : PTs X es t) (i : ∀ σ H Q, t' σ H Q → t σ H Q) : PTs X es t' := ⟨fun pins s σ H Q I hw => h.run pins s σ H Q I (i σ H Q hw)⟩
theorem fs_nil : PTs X [] (rdTs D T C .nil) := PTs.imp pts_nil fun σc H Q z => by
  obtain ⟨ι, S, σ, Qb, L, G, hw, cn⟩ := z
  exact cn.here L (show Qb true S from hw)
theorem fs_one {r : RE} {e : Expr} (h : PT X e (rdT D T C W r)) : PTs X [e] (rdTs D T C (.cons r .nil)) := PTs.imp (pts_one h) fun σc H Q z => by
  obtain ⟨ι, S, σ, Qb, L, G, hw, cn⟩ := z
  exact ⟨ι, S, σ, Qb, _, L, G, hw, cn, cnx_no⟩
theorem not_mem_ext {ι ι' : List Addr} {H H' : Hp} {a : Addr} {o : HO} (e : Ext ι H ι' H') (h : H a = some o) (n : a ∉ ι) : a ∉ ι' := by
  obtain ⟨l, rfl, q⟩ := e.pre
  intro m
  rcases List.mem_append.mp m with m | m
  · exact n m
  · rw [q a m] at h
    cases h
theorem ext_none {ι ι' : List Addr} {H H' : Hp} {a : Addr} (e : Ext ι H ι' H') (h : H' a = none) : H a = none := by
  cases q : H a with
  | none => rfl
  | some o =>
    obtain ⟨o', e'⟩ := e.trk a o q
    rw [h] at e'
    cases e'
/-- the wish of a comprehension, turned into the hand layer's -/
theorem lc_imp {mu : Bool} {elt : RE} {tg' : RT} {it : RI} {ifs : REs} {own : List Nat} (hin : tgIn tg' own = true) (σc : L2.St) (H : Hp) (Q KQ : VK) (hKQ : ∀ x H, lockB mu Q x H → KQ x H) (z : rdE D T C W (.lc mu elt tg' it ifs own) σc H Q) :
    tLc (rdI D T C W it) (rdTg D T C tg') (rdTs D T C ifs) (rdE D T C W0 elt) own σc H KQ := by
  obtain ⟨ι0, S0, σ, Qa, Ra, L0, G, hw, cn, cx⟩ := z
  refine ⟨ι0, S0, σ, _, Ra, L0, G, hw, fun ι1 S1 H1 xs st J e1 L1 its st1 q1 Dn hD => ?_, cx⟩
  obtain ⟨hlen, run⟩ := onT_ex q1
  have hlen := of_decide_eq_true hlen
  have hD0 : H Dn = none := ext_none e1 hD
  refine ⟨fun i m H' => m = xs.length - i ∧ i ≤ xs.length ∧ ∃ ι S accP acc, H' Dn = some (.lst acc) ∧ RVs D ι H' accP acc ∧ Dn ∉ ι ∧ Ext ι1 H1 ι H' ∧ Ly D ι H' S ∧ st S ∧ acc.length ≤ i ∧
    lcRun (fun x S2 Q2 => wpTg T C tg' x (wipeG σ own) S2 (fun σ3 S3 => wpTs T C ifs σ3 S3 (fun k S4 =>
        if k = true then wpE T C elt σ3 S4 (fun v S5 => Q2 (some v) S5) (fun _ _ => False) else Q2 .none S4) (fun _ _ => False)) (fun _ _ => False)) st (xs.drop i) accP S (fun acc S2 => newL mu acc S2 Qa),
    ⟨xs.length, by simp, Nat.zero_le _, ι1, S1, [], [], upd_same, .nil, not_mem_of_none L1 hD, ext_new L1 hD, ly_new L1 hD, st1, Nat.zero_le _, run⟩, ?_⟩
  rintro i m H2 ⟨rfl, hi, ι, S, accP, acc, hDn, racc, nD, e2, L2', st2, hacc, run2⟩
  by_cases hlt : i < xs.length
  · have hx : xs[i]? = some xs[i] := List.getElem?_eq_getElem hlt
    rw [List.drop_eq_getElem_cons hlt] at run2
    refine .inr ⟨its.go i _ ι S H2 e2 L2' st2 hx, _, fun H' p => ⟨xs.length - (i + 1), by omega, p⟩, fun v H3 y => ?_⟩
    obtain ⟨e3, L3, rv⟩ := its.yld i _ ι S H2 v H3 e2 L2' st2 hx y
    have hD3 := e3.out Dn _ nD hDn fun _ z => nomatch z
    have e13 := e1.trans (e2.trans e3)
    refine ⟨ι, S, _, _, _, L3, (G.ext e13).wipe own, rv, run2, fun ι4 S4 H4 σ4 σc4 e4 L4 G4 sm q4 => ?_⟩
    refine ⟨by rw [sm own hin, wipe_wipe], ι4, S4, σ4, _, L4, G4, q4, fun ι5 S5 H5 k e5 L5 q5 => ?_⟩
    have hD4 := e4.out Dn _ nD hD3 fun _ z => nomatch z
    have nD4 := not_mem_ext e4 hD3 nD
    have hD5 := e5.out Dn _ nD4 hD4 fun _ z => nomatch z
    have nD5 := not_mem_ext e5 hD4 nD4
    have e25 := e2.trans (e3.trans (e4.trans e5))
    have racc5 := racc.ext (e3.trans (e4.trans e5))
    cases k with
    | false =>
      simp only [Bool.false_eq_true, if_false] at q5 ⊢
      obtain ⟨st5, q5⟩ := q5
      exact ⟨trivial, hlt, ι5, S5, accP, acc, hD5, racc5, nD5, e25, L5, st5, Nat.le_succ_of_le hacc, q5⟩
    | true =>
      simp only [if_true] at q5 ⊢
      refine ⟨ι5, S5, σ4, _, _, L5, G4.ext e5, q5, fun ι6 S6 H6 u y6 e6 L6 r6 q6 => ?_, cnx_no⟩
      obtain ⟨st6, q6⟩ := q6
      have hD6 := e6.out Dn _ nD5 hD5 fun _ z => nomatch z
      have nD6 := not_mem_ext e6 hD5 nD5
      have xo : Exi ι6 H6 ι6 (upd H6 Dn (.lst (acc ++ [y6]))) := exi_out hD6
      refine ⟨acc, hD6, by rw [lim_eq]; show acc.length < 16777216; have : xs.length ≤ 16777216 := hlen; omega, trivial, hlt, ι6, S6, accP ++ [u], acc ++ [y6], upd_same, ((racc5.ext e6).exi xo).app (.cons (r6.exi xo) .nil), nD6, ?_, ly_out L6 nD6 hD6, st6, ?_, q6⟩
      · refine ext_out (e25.trans e6) hD fun u' hu => ?_
        rw [hD6] at hu
        cases hu
        exact fun z => z
      · rw [List.length_append, List.length_singleton]
        omega
  · have he : i = xs.length := by omega
    subst he
    rw [List.drop_length] at run2
    refine .inl ⟨its.stop ι S H2 e2 L2' st2, hKQ _ _ ?_⟩
    have run3 : newL mu accP S Qa := run2
    cases mu with
    | true =>
      refine cn (ι ++ [Dn]) (S ++ [SO.lst accP]) H2 (.ref S.length) (.ref Dn) (ext_adopt (e1.trans e2) hD0) (ly_adopt (o := .lst accP) (ho := .lst acc) L2' nD hDn (fun _ _ _ z => nomatch z) ⟨acc, rfl, racc.exi (exi_adopt hDn (fun _ _ _ z => nomatch z))⟩) ⟨Dn, ?_, rfl⟩ run3
      rw [← L2'.len, List.getElem?_append_right (Nat.le_refl _), Nat.sub_self]
      rfl
    | false =>
      refine ⟨Dn, .lst acc, rfl, hDn, trivial, fun od => ?_⟩
      have xo : Exi ι H2 ι (upd H2 Dn (.frz od (.lst acc))) := exi_out hDn
      refine cn ι S (upd H2 Dn (.frz od (.lst acc))) (.ls accP) (.ref Dn) (ext_out (e1.trans e2) hD0 fun u' hu => ?_) (ly_out L2' nD hDn) ⟨Dn, acc, rfl, ⟨od, upd_same⟩, racc.exi xo⟩ run3
      rw [hDn] at hu
      cases hu
      exact fun z => z
end
end Rp
/-! # a, b, *c = a list or a tuple -/
namespace Rp
open PySem PySem.Spec PyProof.Rows L2
section
variable {prog : Program} {w : World} {A : Around} {E : Value → Shared → Prop} {s : Shared}
/-- what is left behind the first items, when the walk over it began -/
def StarQ (s : Shared) (first rest : List Value) (Q : List Value → Shared → Prop) : Prop :=
  ∀ (h2 : Heap) (tk : Tok), (∀ b o, s.heap.get? b = some o → h2.get? b = some o) → Q (first ++ [.ref h2.objs.size]) { s with heap := h2.push { cls := .type "list", data := .seq rest.toArray }, toks := tk }
theorem star_tail {bad : Sem (List Value)} {k : Nat} {first rest : List Value} {items : Array Value} {Q : List Value → Shared → Prop} {h2 : Heap} {tk : Tok} (he : items.toList = first ++ rest) (hk : first.length = k) (kk : ∀ b o, s.heap.get? b = some o → h2.get? b = some o) (hz : items.size ≤ 16384) (h : StarQ s first rest Q) :
    wpAny (model prog w) A (if (items.toList.drop k).length < k + 1 - 1 - k then bad else
      (do let d ← newList ((items.toList.drop k).take ((items.toList.drop k).length - (k + 1 - 1 - k))); pure (items.toList.take k ++ [d] ++ (items.toList.drop k).drop ((items.toList.drop k).length - (k + 1 - 1 - k))))) Q E { s with heap := h2, toks := tk } := by
  have ed : items.toList.drop k = rest := by rw [he, ← hk, List.drop_left]
  have et : items.toList.take k = first := by rw [he, ← hk, List.take_left]
  have e0 : k + 1 - 1 - k = 0 := by omega
  rw [ed, et, e0, if_neg (by omega)]
  have e1 : rest.take (rest.length - 0) = rest := List.take_of_length_le (by omega)
  have e2 : rest.drop (rest.length - 0) = [] := List.drop_eq_nil_of_le (by omega)
  rw [e1, e2]
  have hn : first.length + rest.length = items.size := by
    have := congrArg List.length he
    rw [List.length_append] at this
    simpa using this.symm
  refine wpAny_bind (wpAny_newList (wpAny_pure ?_) (by rw [sizeLine_eq]; omega))
  rw [List.append_nil]
  exact h h2 tk kk
theorem star_list {l : Addr} {items : Array Value} {k : Nat} {first rest : List Value} {Q : List Value → Shared → Prop} (hl : s.heap.IsList l items) (hh : A.handled = none) (he : items.toList = first ++ rest) (hk : first.length = k) (hz : items.size ≤ 16384) (h : StarQ s first rest Q) :
    wpAny (model prog w) A (unpackItems (.ref l) (k + 1) (some k)) Q E s := by
  have hs : k ≤ items.size := by
    have := congrArg List.length he
    simp at this
    omega
  have et : items.toList.take k = first := by rw [he, ← hk, List.take_left]
  have hn : l ≠ s.heap.objs.size := by
    obtain ⟨o, ho, _⟩ := hl
    exact Nat.ne_of_lt (Heap.lt_size ho)
  unfold unpackItems notIterableAtAll
  refine wpAny_bind (wpAny_bind (wpAny_specialOf hl.typeIs slot_list_iter.lookup (wpAny_pure ?_)))
  simp only [Bool.false_eq_true, if_false]
  refine wpAny_bind (wpAny_holding (wpAny_pyIter_list hl (wpAny_bind (wpAny_holding (PySem.W.kun_draw hn k 0 _ _ ⟨_, Heap.get?_push_size _ rfl, rfl, rfl⟩ (hl.push _) (by omega) fun h1 i1 s1 => ?_)))))
  have l1 : h1.IsList l items := (hl.push _).extBut s1.extBut hn
  obtain ⟨oi, hoi, _⟩ := id i1
  obtain ⟨ol, hol, _⟩ := id l1
  rw [List.drop_zero, if_neg (show ¬ (items.toList.take k).length < k by rw [et, hk]; omega)]
  refine wpAny_bind (wpAny_holding (PySem.W.kun_collect (s := { s with heap := h1 }) (T := "list_iterator") (.inr (.inr (.inl rfl))) (Walks.list (A := A.in1) hh s.heap.objs.size l hn items) (fun j u st => st.1.typeIs) (k := k) hs ⟨by rw [Nat.zero_add] at i1; exact i1, l1⟩ (Heap.lt_size hoi) (Heap.lt_size hol) (fun h2 tk hk => ?_) (by rw [sizeLine_eq]; omega)))
  have kk : ∀ b o, s.heap.get? b = some o → h2.get? b = some o := fun b o e => hk b o (Nat.ne_of_lt (Heap.lt_size e)) (s1.extBut b o (Nat.ne_of_lt (Heap.lt_size e)) (Heap.get?_push_of_some _ e))
  exact star_tail (s := s) he (by assumption) kk hz h
theorem star_tup {l : Addr} {items : Array Value} {k : Nat} {first rest : List Value} {Q : List Value → Shared → Prop} (hl : IsTup s.heap l items) (hh : A.handled = none) (he : items.toList = first ++ rest) (hk : first.length = k) (hz : items.size ≤ 16384) (h : StarQ s first rest Q) :
    wpAny (model prog w) A (unpackItems (.ref l) (k + 1) (some k)) Q E s := by
  have hs : k ≤ items.size := by
    have := congrArg List.length he
    simp at this
    omega
  have et : items.toList.take k = first := by rw [he, ← hk, List.take_left]
  have hn : l ≠ s.heap.objs.size := by
    obtain ⟨o, ho, _⟩ := hl
    exact Nat.ne_of_lt (Heap.lt_size ho)
  unfold unpackItems notIterableAtAll
  refine wpAny_bind (wpAny_bind (wpAny_specialOf hl.typeIs slot_tuple_iter.lookup (wpAny_pure ?_)))
  simp only [Bool.false_eq_true, if_false]
  refine wpAny_bind (wpAny_holding (iter_tuple hl (wpAny_bind (wpAny_holding (draw_tuple hn k 0 _ _ ⟨_, Heap.get?_push_size _ rfl, rfl, rfl⟩ (hl.push _) (by omega) fun h1 i1 s1 => ?_)))))
  have l1 : IsTup h1 l items := (hl.push _).extBut s1.extBut hn
  obtain ⟨oi, hoi, _⟩ := id i1
  obtain ⟨ol, hol, _⟩ := id l1
  rw [List.drop_zero, if_neg (show ¬ (items.toList.take k).length < k by rw [et, hk]; omega)]
  refine wpAny_bind (wpAny_holding (PySem.W.kun_collect (s := { s with heap := h1 }) (T := "tuple_iterator") (.inr (.inr (.inr rfl))) (Walks.tuple (A := A.in1) hh s.heap.objs.size l hn items) (fun j u st => st.1.typeIs) (k := k) hs ⟨by rw [Nat.zero_add] at i1; exact i1, l1⟩ (Heap.lt_size hoi) (Heap.lt_size hol) (fun h2 tk hk => ?_) (by rw [sizeLine_eq]; omega)))
  have kk : ∀ b o, s.heap.get? b = some o → h2.get? b = some o := fun b o e => hk b o (Nat.ne_of_lt (Heap.lt_size e)) (s1.extBut b o (Nat.ne_of_lt (Heap.lt_size e)) (Heap.get?_push_of_some _ e))
  exact star_tail (s := s) he (by assumption) kk hz h
end
/-- the slots is, by the values -/
def setAll {α : Type} (σ : List (Option α)) : List Nat → List α → List (Option α)
  | i :: is, x :: xs => setAll (σ.set i (some x)) is xs
  | _, _ => σ
def stars : List Nat → Nat → RTs
  | [], j => .star j
  | i :: is, j => .cons (.name i) (stars is j)
section
variable {X : Cx} {pos : Pos}
/-- the targets are stored in order, the last one starred -/
def StarRun (X : Cx) (es : List Expr) (is : List Nat) (j : Nat) : Prop := ∀ (pins : List (Addr × Obj)) (s : Shared) (σ : L2.St) (H : Hp) (xs : List V) (us : List Value) (w : Value) (z : V) (Q : L2.St → Hp → Prop), Inv X pins σ H s → Vals xs us → RelV z w → xs.length = is.length →
  Q ((setAll σ is xs).set j (some z)) H → wpAny (model X.prog X.w) X.A (assignInOrder ((assignEach es X.env).map (·.2)) (us ++ [w])) (fun _ s' => ∃ σ' H', Inv X pins σ' H' s' ∧ Q σ' H') X.xe s
theorem sr_nil {j : Nat} {y : Str} {q r : Pos} (hy : PG X (.Name y q) (gName j)) : StarRun X [.Starred (.Name y q) r] [] j := by
  intro pins s σ H xs us w z Q I rv rz hl hq
  obtain rfl : xs = [] := List.eq_nil_of_length_eq_zero hl
  cases rv
  show wpAny _ _ (assignInOrder [assign (.Name y q) X.env] [w]) _ _ _
  refine assignInOrder_cons (thn (hy.run pins s σ _ _ _ _ I rz (show gName j z σ _ Q from hq)) fun _ s1 h => ?_)
  exact wpAny_pure h
theorem sr_cons {i j : Nat} {is : List Nat} {x : Str} {p : Pos} {es : List Expr} (hx : PG X (.Name x p) (gName i)) (hs : StarRun X es is j) : StarRun X (.Name x p :: es) (i :: is) j := by
  intro pins s σ H xs us w z Q I rv rz hl hq
  cases rv with
  | nil => simp at hl
  | @cons a b xs us r1 r2 =>
    show wpAny _ _ (assignInOrder (assign (.Name x p) X.env :: (assignEach es X.env).map (·.2)) (b :: (us ++ [w]))) _ _ _
    refine assignInOrder_cons (thn (hx.run pins s σ _ _ _ _ I r1 (show gName i a σ _ (fun σ' H' => σ' = σ.set i (some a) ∧ H' = H) from ⟨rfl, rfl⟩)) fun _ s1 ⟨σ1, H1, I2, e1, e2⟩ => ?_)
    subst e1 e2
    exact hs pins s1 _ _ xs us w z Q I2 r2 rz (by simpa using hl) hq
/-- a, b, *c = .. -/
def gStar (K : PySem.W.Frag) (is : List Nat) (j : Nat) : TG := fun v σ H Q => ∃ a xs ys, v = .ref a ∧ (SqL K H a (xs ++ ys) ∨ SqT K H a (xs ++ ys)) ∧ xs.length = is.length ∧ is.length ≤ 100 ∧ ys.length ≤ 16000 ∧ ∀ p od, H p = none → Q ((setAll σ is xs).set j (some (.ref p))) (upd H p (.frz od (.lst ys)))
theorem vals_app {xs ys : List V} {its : List Value} (r : Vals (xs ++ ys) its) : ∃ us vs, its = us ++ vs ∧ Vals xs us ∧ Vals ys vs := by
  induction xs generalizing its with
  | nil => exact ⟨[], its, rfl, .nil, r⟩
  | cons x xs ih =>
    cases r with
    | cons r1 r2 =>
      obtain ⟨us, vs, rfl, a, b⟩ := ih r2
      exact ⟨_ :: us, vs, rfl, .cons r1 a, b⟩
theorem pg_star {is : List Nat} {j k : Nat} {es : List Expr} (hc : X.calm = true) (hr : StarRun X es is j) (h1 : (assignEach es X.env).length = is.length + 1) (h2 : (assignEach es X.env).findIdx? (·.1) = some is.length) : PG X (.Tuple es k pos) (gStar X.K is j) := by
  refine ⟨fun pins s σ H v u Q I rv hw => ?_⟩
  obtain ⟨a, xs, ys, rfl, hq, hlx, hli, hl, fin⟩ := hw
  obtain rfl : u = Value.ref a := rv
  rw [PyProof.Rows.assign_Tuple]
  refine wpAny_bind (wpAny_standAt ?_)
  have go : ∀ us vs : List Value, Vals xs us → Vals ys vs → StarQ s us vs fun vs s' => wpAny (model X.prog X.w) X.A (assignInOrder ((assignEach es X.env).map (·.2)) vs) (fun _ s' => ∃ σ' H', Inv X pins σ' H' s' ∧ Q σ' H') X.xe s' := by
    intro us vs r1 r2 h2 tk kk
    have I0 : Inv X pins σ H { s with heap := h2, toks := tk } := I.kept kk
    generalize hD : h2.objs.size = D
    have I1 : Inv X pins σ (upd H D (.lst ys)) { s with heap := h2.push { cls := .type "list", data := .seq vs.toArray }, toks := tk } := I0.laid (fun b o q => Heap.get?_push_of_some _ q) (Nat.le_of_eq hD) ⟨by rw [sizeLine_eq]; omega, _, 0, r2, by rw [← hD]; exact Heap.get?_push_size _ rfl⟩
    obtain ⟨od, I2⟩ := I1.lock upd_same trivial
    rw [upd_upd] at I2
    exact hr pins _ σ _ xs us (.ref D) (.ref D) Q I2 r1 rfl hlx (fin D od (I0.hok.fresh (Nat.le_of_eq hD)))
  unfold unpack
  refine wpAny_bind (wpAny_holding ?_)
  rw [h1, h2]
  rcases hq with hq | hq
  · obtain ⟨its, ri, ht, _⟩ := I.list hq
    have hlen := ri.length
    rw [List.length_append] at hlen
    obtain ⟨us, vs, rfl, r1, r2⟩ := vals_app ri
    exact star_list ht.isList (I.ok.hd hc) rfl (by rw [← hlx, r1.length]) (by rw [List.size_toArray, ← hlen]; omega) (go us vs r1 r2)
  · obtain ⟨its, ri, ht, _⟩ := I.tuple hq
    have hlen := ri.length
    rw [List.length_append] at hlen
    obtain ⟨us, vs, rfl, r1, r2⟩ := vals_app ri
    exact star_tup ht (I.ok.hd hc) rfl (by rw [← hlx, r1.length]) (by rw [List.size_toArray, ← hlen]; omega) (go us vs r1 r2)
end
section
variable {X : Cx} {D : Ad} {F : Fd} {T : Tab} {M : Nm} {fl : List Nat} {C : CS} {lv : Nat} {W : WX} {c : Sc} {pos : Pos}
theorem put_name {i : Nat} {x : Str} {p : Pos} (o : Okx X D F T M fl C lv W c) (h : okPut c i x = true) : PG X (.Name x p) (gName i) := by
  unfold okPut at h
  rw [Bool.and_eq_true] at h
  have hi : X.N[i]? = some x := by rw [o.hN]; exact of_decide_eq_true h.1
  have hp : Sc.put ⟨c.N, X.env.scope, c.all⟩ x = true := by rw [o.hsc]; exact h.2
  unfold Sc.put at hp
  have key : Loc X.env.scope x ∧ (X.fn x = true ∨ X.env.scope.names.lookup x = some .local) := by
    split at hp
    · exact ⟨.inl (by assumption), .inr (by assumption)⟩
    · exact ⟨.inr (by assumption), .inl (o.hfn hp x (by assumption))⟩
    · cases hp
  exact pg_name o.nd hi key.1 key.2
theorem star_is (o : Okx X D F T M fl C lv W c) : ∀ {ts : RTs} {es : List Expr}, okStar c ts es = true → ∃ is j, ts = stars is j ∧ StarRun X es is j ∧ (assignEach es X.env).length = is.length + 1 ∧ (assignEach es X.env).findIdx? (·.1) = some is.length
  | .nil, es, h => by cases h
  | .star j, es, h => by
    match es, h with
    | [.Starred (.Name y q) r], h => exact ⟨[], j, rfl, sr_nil (put_name o h), rfl, rfl⟩
    | [], h => cases h
    | .Starred (.Name _ _) _ :: _ :: _, h => cases h
  | .cons t ts, es, h => by
    cases t with
    | name i =>
      cases es with
      | nil => cases h
      | cons e es =>
        cases e with
        | Name x p =>
          have h' : (okPut c i x && okStar c ts es) = true := h
          rw [Bool.and_eq_true] at h'
          obtain ⟨is, j, rfl, h1, h2, h3⟩ := star_is o h'.2
          refine ⟨i :: is, j, rfl, sr_cons (put_name o h'.1) h1, ?_, ?_⟩
          · show (assignEach es X.env).length + 1 = _
            rw [h2] <;> rfl
          · show List.findIdx? (·.1) ((false, assign (.Name x p) X.env) :: assignEach es X.env) = _
            rw [List.findIdx?_cons, h3]
            rfl
        | _ => cases h
    | _ => cases h
theorem stars_wp {S : Store} {Qt : Sg → Store → Prop} {R : QX} : ∀ {is : List Nat} {j : Nat} {ws : List PV} {σ : Sg}, wpTgs T C (stars is j) ws σ S Qt R → ∃ xs ys, ws = xs ++ ys ∧ xs.length = is.length ∧ ys.length ≤ 16000 ∧ Qt ((setAll σ is xs).set j (some (.ls ys))) S
  | [], j, ws, σ, h => by
    obtain ⟨hl, q⟩ := onT_ex (show onT (decide (ws.length ≤ 16000)) (Qt (σ.set j (some (.ls ws))) S) from h)
    exact ⟨[], ws, rfl, rfl, of_decide_eq_true hl, q⟩
  | i :: is, j, [], σ, h => (show False from h).elim
  | i :: is, j, w :: ws, σ, h => by
    obtain ⟨xs, ys, rfl, h1, h2, q⟩ := stars_wp (is := is) (j := j) (ws := ws) (σ := σ.set i (some w)) (show wpTgs T C (stars is j) ws (σ.set i (some w)) S Qt R from h)
    exact ⟨w :: xs, ys, rfl, by simp [h1], h2, q⟩
theorem stars_in {vs : List Nat} : ∀ {is : List Nat} {j : Nat}, tgsIn (stars is j) vs = true → (∀ i ∈ is, vs.contains i = true) ∧ vs.contains j = true
  | [], j, h => ⟨fun i hi => by simp at hi, h⟩
  | i :: is, j, h => by
    have h' : (vs.contains i && tgsIn (stars is j) vs) = true := h
    rw [Bool.and_eq_true] at h'
    obtain ⟨a, b⟩ := stars_in h'.2
    exact ⟨fun k hk => by
      rcases List.mem_cons.mp hk with rfl | hk
      · exact h'.1
      · exact a k hk, b⟩
theorem setAll_wipe {vs : List Nat} : ∀ {is : List Nat} {xs : List V} {σ : L2.St}, (∀ i ∈ is, vs.contains i = true) → L2.wipe (setAll σ is xs) vs = L2.wipe σ vs
  | [], xs, σ, _ => by cases xs <;> rfl
  | i :: is, [], σ, _ => rfl
  | i :: is, x :: xs, σ, h => by
    show L2.wipe (setAll (σ.set i (some x)) is xs) vs = _
    rw [setAll_wipe (fun k hk => h k (List.mem_cons_of_mem _ hk)), wipe_set σ (h i (List.mem_cons_self ..))]
theorem setAll_rg {ι : List Addr} {H : Hp} : ∀ {is : List Nat} {xs : List PV} {vs : List V} {σ : Sg} {σc : L2.St}, RG D ι H σ σc → RVs D ι H xs vs → RG D ι H (setAll σ is xs) (setAll σc is vs)
  | [], xs, vs, σ, σc, G, r => by cases xs <;> cases vs <;> exact G
  | i :: is, [], vs, σ, σc, G, r => by rw [show vs = [] from r]; exact G
  | i :: is, x :: xs, vs, σ, σc, G, r => by
    obtain ⟨v, r', rfl, a, b⟩ := r
    show RG D ι H (setAll (σ.set i (some x)) is xs) (setAll (σc.set i (some v)) is r')
    exact setAll_rg (G.set i a) b
theorem rvs_split {ι : List Addr} {H : Hp} : ∀ {xs ys : List PV} {vs : List V}, RVs D ι H (xs ++ ys) vs → ∃ us ws, vs = us ++ ws ∧ RVs D ι H xs us ∧ RVs D ι H ys ws
  | [], ys, vs, r => ⟨[], vs, rfl, .nil, r⟩
  | x :: xs, ys, vs, r => by
    obtain ⟨v, r', rfl, a, b⟩ := r
    obtain ⟨us, ws, rfl, c, d⟩ := rvs_split b
    exact ⟨v :: us, ws, rfl, .cons a c, d⟩
theorem t_star {ts : RTs} {es : List Expr} {k : Nat} (o : Okx X D F T M fl C lv W c) (h : okStar c ts es = true) (hl : es.length ≤ 100) : PG X (.Tuple es k pos) (rdTg D T C (.tup ts)) := by
  obtain ⟨is, j, rfl, h1, h2, h3⟩ := star_is o h
  have hn : is.length ≤ 100 := by
    have : (assignEach es X.env).length = es.length := by
      have : ∀ l : List Expr, (assignEach l X.env).length = l.length := fun l => by
        induction l with
        | nil => rfl
        | cons e l ih =>
          have : (assignEach (e :: l) X.env).length = (assignEach l X.env).length + 1 := by cases e <;> rfl
          rw [this, ih] <;> rfl
      exact this es
    omega
  refine PG.imp (pg_star o.calm h1 h2 h3) fun v σc H Q z => ?_
  obtain ⟨ι, S, σ, Qt, w, L, G, r, hw, cn⟩ := z
  obtain ⟨ws, ex, hw⟩ := onS_ex (show onS (itemsOf S w) fun xs => onT (cntOk (stars is j) xs.length) (wpTgs T C (stars is j) xs σ S Qt (fun _ _ => False)) from hw)
  obtain ⟨_, hw⟩ := onT_ex hw
  obtain ⟨xs, ys, rfl, k1, k2, q⟩ := stars_wp hw
  obtain ⟨a, vs, rfl, hq, rv⟩ := seq_at L ex r
  obtain ⟨us, ws, rfl, r1, r2⟩ := rvs_split rv
  refine ⟨a, us, ws, rfl, by rw [o.hK]; exact hq, by rw [r1.len, k1], hn, by rw [r2.len]; exact k2, fun pp od hp => ?_⟩
  have e1 : Ext ι H ι (upd H pp (.frz od (.lst ws))) := ext_new L hp
  refine cn ι S _ _ _ e1 (ly_new L hp) ((setAll_rg (G.ext e1) (r1.ext e1)).set j (show RV D _ _ (.ls ys) (.ref pp) from ⟨pp, ws, rfl, ⟨od, upd_same⟩, r2.ext e1⟩)) (fun vs hv => ?_) q
  obtain ⟨a1, a2⟩ := stars_in (is := is) (j := j) hv
  rw [wipe_set _ a2, setAll_wipe a1]
end
end Rp
namespace PySem.SeqAt
open PySem PySem.Calls
theorem rf_none (l : Addr) : Gives (Builtin.«NoneType.__eq__» ⟨[.none, .ref l], []⟩) (.val (Value.notImplemented)) := NoneType___eq___none_ref_0 l
theorem rf_bool (b : Bool) (l : Addr) (C dx : Addr) :
    Meets (Builtin.«int.__eq__» ⟨[.bool b, .ref l], []⟩) (fun _ R s => s.heap.get? l = some (PySem.W.instObj C dx) ∧ R (.ok (.ret .notImplemented)) s) :=
  .of_wp fun prog w A R s h => by obtain ⟨hp, g, d, tk, os⟩ := s; obtain ⟨hl, h⟩ := h; wp_walk using AutoSeq1.wpAny_loadPart' hl, wpAny_load hl; exact ⟨_, rfl, h⟩
theorem rf_int (b : Int) (u : Tok) (l : Addr) (C dx : Addr) :
    Meets (Builtin.«int.__eq__» ⟨[.int b u, .ref l], []⟩) (fun _ R s => s.heap.get? l = some (PySem.W.instObj C dx) ∧ R (.ok (.ret .notImplemented)) s) :=
  .of_wp fun prog w A R s h => by obtain ⟨hp, g, d, tk, os⟩ := s; obtain ⟨hl, h⟩ := h; wp_walk using AutoSeq1.wpAny_loadPart' hl, wpAny_load hl; exact ⟨_, rfl, h⟩
theorem rf_str (b : Str) (u : Tok) (l : Addr) (C dx : Addr) :
    Meets (Builtin.«str.__eq__» ⟨[.str b u, .ref l], []⟩) (fun _ R s => s.heap.get? l = some (PySem.W.instObj C dx) ∧ R (.ok (.ret .notImplemented)) s) :=
  .of_wp fun prog w A R s h => by obtain ⟨hp, g, d, tk, os⟩ := s; obtain ⟨hl, h⟩ := h; wp_walk using AutoSeq1.wpAny_loadPart' hl, wpAny_load hl; exact ⟨_, rfl, h⟩
theorem rf_list (l b : Addr) (items : Array Value) (n : Nat) (dd : Option Addr) (sl : Array (Option Value)) :
    Meets (Builtin.«list.__eq__» ⟨[.ref l, .ref b], []⟩) (fun _ R s => s.heap.get? l = some { cls := .type "list", dict := dd, data := .seq items n, slots := sl } ∧ (∀ M : Model, PySem.W.Looks M s.heap (isInstance (.ref b) (.type "list")) false) ∧ R (.ok (.ret .notImplemented)) s) :=
  .of_wp fun prog w A R s h => by
    obtain ⟨hp, g, d, tk, os⟩ := s
    obtain ⟨hl, hi, h⟩ := h
    wp_walk using AutoSeq1.wpAny_loadPart' hl, (hi _).here
    exact ⟨_, rfl, h⟩
theorem rf_tuple (l b : Addr) (items : Array Value) (n : Nat) (dd : Option Addr) (sl : Array (Option Value)) :
    Meets (Builtin.«tuple.__eq__» ⟨[.ref l, .ref b], []⟩) (fun _ R s => s.heap.get? l = some { cls := .type "tuple", dict := dd, data := .seq items n, slots := sl } ∧ (∀ M : Model, PySem.W.Looks M s.heap (isInstance (.ref b) (.type "tuple")) false) ∧ R (.ok (.ret .notImplemented)) s) :=
  .of_wp fun prog w A R s h => by
    obtain ⟨hp, g, d, tk, os⟩ := s
    obtain ⟨hl, hi, h⟩ := h
    wp_walk using AutoSeq1.wpAny_loadPart' hl, (hi _).here
    exact ⟨_, rfl, h⟩
theorem rf_dict (l b : Addr) :
    Meets (Builtin.«dict.__eq__» ⟨[.ref l, .ref b], []⟩) (fun _ R s => s.TypeIs (.ref l) "dict" ∧ (∀ M : Model, PySem.W.Looks M s.heap (isInstance (.ref b) (.type "dict")) false) ∧ R (.ok (.ret .notImplemented)) s) :=
  .of_wp fun prog w A R s h => by
    obtain ⟨hp, g, d, tk, os⟩ := s
    obtain ⟨hl, hi, h⟩ := h
    wp_walk using (hi _).here
    exact ⟨_, rfl, h⟩
/-- a thing that has nothing to say to an instance: the instance's own == is asked -/
theorem rc_refl {prog : Program} {w : World} {A : Around} {E : Value → Shared → Prop} {s : Shared} {K : PySem.W.Frag} {q C f : Addr} {ox : Obj} {od : Option Obj} {a : Value} {Ta id : String} {Q : Value → Shared → Prop}
    (ha : s.TypeIs a Ta) (h1 : Slot Ta (cmpInfo .Eq).2.1 id) (hu : A.units < cLine) (KI : K.In s.heap) (I : PySem.W.InstAt s.heap q ox C od) (hsub : PySem.W.subIn K (.ref C) (.type Ta) = some false)
    (hc1 : ∀ Q' : Value → Shared → Prop, Q' .notImplemented s → wpAny (model prog w) A (call (.builtin id) [a, .ref q]) Q' E s)
    (hs : PySem.W.findIn K (.ref C) (cmpInfo .Eq).2.2 = some (some (.ref f))) (hf : PySem.W.isFn K (.ref f) = true)
    (h : wpAny (model prog w) A (call (.ref f) [.ref q, a]) (PySem.W.CmpBack Q) E s) : wpAny (model prog w) A (richCompare .Eq a (.ref q)) Q E s := by
  rcases hi : cmpInfo CmpOp.Eq with ⟨sym, f', r⟩
  rw [hi] at h1 hs
  simp only [richCompare, hi, ha.oneThing_none]
  try with_reducible refine wpAny_holding ?_
  refine wpAny_bind (wpAny_cRoomFor hu ?_)
  refine wpAny_bind (wpAny_typeOf ha (wpAny_bind (I.type.here ?_)))
  simp only [show (Value.type Ta != Value.ref C) = true from rfl, if_true]
  refine wpAny_bind ((PySem.W.looks_subIn KI hsub).here ?_)
  simp only [Bool.false_eq_true, if_false, Bool.not_false, if_true]
  refine wpAny_bind (m := tryCompare a _ (.ref q)) (wpAny_tryCompare_declines ha h1 (hc1 _ ⟨rfl, ?_⟩))
  have one : wpAny (model prog w) A (tryCompare (.ref q) r a) (fun r s' => ∃ v, r = some v ∧ Q v s') E s := by
    unfold tryCompare
    refine wpAny_bind (PySem.W.ifBound_K KI I hs hf (wpAny_mono h (fun v s' hv => ?_) fun _ _ e => e))
    cases v <;> first | exact hv.elim | exact wpAny_pure ⟨_, rfl, hv⟩
  refine wpAny_bind (wpAny_mono one (fun r s' z => ?_) fun _ _ e => e)
  obtain ⟨v, rfl, hq⟩ := z
  exact wpAny_pure hq
theorem no_inst {s : Shared} {K : PySem.W.Frag} {q C : Addr} {ox : Obj} {od : Option Obj} {T : String} (KI : K.In s.heap) (I : PySem.W.InstAt s.heap q ox C od) (hsub : PySem.W.subIn K (.ref C) (.type T) = some false) : ∀ M : Model, PySem.W.Looks M s.heap (isInstance (.ref q) (.type T)) false :=
  fun M => I.type.andThen (PySem.W.looks_subIn KI hsub)
end PySem.SeqAt
/-! # An object's own ==, !=, len, str -/
namespace Rp
open PySem PySem.Spec PySem.Calls PyProof.Rows L2
section
variable {prog : Program} {w : World} {A : Around} {E : Value → Shared → Prop} {s : Shared} {K : PySem.W.Frag} {x C f : Addr} {ox : Obj} {od : Option Obj} {b tb : Value}
/-- a special method that is built in, if it is there -/
theorem bound_b {M : Model} {name : Str} {id : String} {args : List Value} {Q : Option Value → Shared → Prop} (KI : K.In s.heap) (I : PySem.W.InstAt s.heap x ox C od) (hs : PySem.W.findIn K (.ref C) name = some (some (.builtin id))) (hb : ∀ self, bindSpecial (.builtin id) self = pure (.builtin id, [self]))
    (h : wpAny M A (call (.builtin id) (.ref x :: args)) (fun v => Q (some v)) E s) : wpAny M A (callSpecialIfBound? (.ref x) name args) Q E s := by
  simp only [callSpecialIfBound?, bindSpecialIfBound?]
  refine wpAny_holding (wpAny_bind (wpAny_bind (wpAny_bind (I.type.here ((PySem.W.looks_findIn KI hs).here ?_)))))
  refine wpAny_bind (wpAny_askSetting (wpAny_ite ?_))
  have fin : wpAny M A (call (.builtin id) ([.ref x] ++ args) >>= fun v => pure (some v)) Q E s := wpAny_bind (wpAny_mono h (fun v s' h' => wpAny_pure h') fun _ _ h' => h')
  split
  · exact wpAny_bind ((PySem.W.Looks.of_pure (hb _)).here (wpAny_pure fin))
  · exact wpAny_tryCatch (wpAny_bind ((PySem.W.Looks.of_pure (hb _)).here (wpAny_pure fin)))
/-- x != y of an object with an == of its own -/
theorem ne_own {Q : Value → Shared → Prop} (hu : A.units + 1 < cLine) (KI : K.In s.heap) (I : PySem.W.InstAt s.heap x ox C od) (hb : PySem.W.Looks (model prog w) s.heap (typeOf b) tb) (hn : PySem.W.notFirst K C tb = true) (hm : PySem.W.mroIn K C (.type "object") = some true)
    (hne : PySem.W.findIn K (.ref C) "__ne__" = some (some (.builtin "object.__ne__"))) (hs : PySem.W.findIn K (.ref C) "__eq__" = some (some (.ref f))) (hf : PySem.W.isFn K (.ref f) = true)
    (h : wpAny (model prog w) A.in1 (call (.ref f) [.ref x, b]) (fun v s' => ∃ r, v = .bool r ∧ Q (.bool (!r)) s') E s) : wpAny (model prog w) A (richCompare .NotEq (.ref x) b) Q E s := by
  have body : wpAny (model prog w) A (tryCompare (.ref x) (cmpInfo .NotEq).2.1 b) (fun r s' => ∃ v, r = some v ∧ Q v s') E s := by
    unfold tryCompare
    refine wpAny_bind (bound_b KI I hne PySem.F.slot_object_ne.bind ?_)
    refine wpAny_call (codeAny_call_builtin PySem.F.slot_object_ne.plain PySem.F.entry_object_ne (PySem.W.check_slot (i := "object.__ne__") (owner := "object") (n := "__ne__") (by decide +kernel) (by decide +kernel) (I.type.andThen (PySem.W.looks_mroIn KI hm)) (PySem.F.args_object_ne_2 _ _) ?_))
    unfold Builtin.«object.__ne__»
    refine wpAny_bind (m := slotArgs "__ne__" 1 _) (wpAny_pure ?_)
    refine wpAny_bind (m := cRoomFor _ _) (wpAny_cRoomFor (by show A.units + 1 < cLine; exact hu) ?_)
    refine wpAny_bind (m := callSpecialIfBound? (.ref x) (Str.ofString "__eq__") _) (PySem.W.ifBound_K KI I hs hf (wpAny_mono h (fun v s' hv => ?_) fun _ _ e => e))
    obtain ⟨r, rfl, hq⟩ := hv
    refine wpAny_bind (m := truthy (.bool r)) (wpAny_truthy_bool ?_)
    exact wpAny_pure (wpAny_pure ⟨_, rfl, hq⟩)
  unfold richCompare
  simp only [oneThing_ref]
  refine wpAny_holding (wpAny_bind (wpAny_cRoomFor (by omega) ?_))
  refine wpAny_bind (I.type.here (wpAny_bind (hb.here ?_)))
  split
  · rename_i q
    have e : PySem.W.subIn K tb (.ref C) = some false := by
      rcases Bool.or_eq_true_iff.mp hn with e | e
      · rw [beq_iff_eq.mp e] at q
        simp at q
      · exact beq_iff_eq.mp e
    refine wpAny_bind ((PySem.W.looks_subIn KI e).here ?_)
    simp only [Bool.false_eq_true, if_false]
    refine wpAny_bind (wpAny_mono body (fun r s' z => ?_) fun _ _ e => e)
    obtain ⟨v, rfl, hq⟩ := z
    exact wpAny_pure hq
  · refine wpAny_bind (wpAny_pure ?_)
    simp only [Bool.false_eq_true, if_false]
    refine wpAny_bind (wpAny_mono body (fun r s' z => ?_) fun _ _ e => e)
    obtain ⟨v, rfl, hq⟩ := z
    exact wpAny_pure hq
/-- len(x) of an object with a __len__ of its own -/
theorem len_own {Q : Value → Shared → Prop} (KI : K.In s.heap) (I : PySem.W.InstAt s.heap x ox C od) (hs : PySem.W.findIn K (.ref C) "__len__" = some (some (.ref f))) (hf : PySem.W.isFn K (.ref f) = true)
    (h : wpAny (model prog w) A.in1 (call (.ref f) [.ref x]) (fun v s' => ∃ (n : Nat) (t : Tok), v = .int n t ∧ n ≤ 1000000 ∧ ∀ (u tk : Tok), Q (.int n u) { s' with toks := tk }) E s) : wpAny (model prog w) A (call (.builtin "len") [.ref x]) Q E s := by
  refine Calls.call_function_entry kind_len plain_len entry_len (args_len1 _) ?_
  unfold Builtin.«len»
  refine wpAny_bind (m := oneArg "len" _) (wpAny_pure ?_)
  refine wpAny_bind (m := callSpecial? (.ref x) (Str.ofString "__len__")) (PySem.W.special_fn KI I hs (beq_iff_eq.mp hf) (wpAny_mono h (fun v s' hv => ?_) fun _ _ e => e))
  obtain ⟨n, t, rfl, hn, hq⟩ := hv
  refine wpAny_bind (wpAny_holding (wpAny_pure ?_))
  refine wpAny_bind (wpAny_letGo ?_)
  show wpAny _ _ (if ((n : Nat) : Int) < 0 then _ else _) _ _ _
  rw [if_neg (by omega)]
  show wpAny _ _ (if ((n : Nat) : Int) ≥ 2 ^ 63 then _ else _) _ _ _
  rw [if_neg (by omega)]
  exact wpAny_bind (wpAny_mkInt (wpAny_pure ⟨_, rfl, hq _ _⟩))
/-- repr(x) of an object with a __repr__ of its own -/
theorem repr_ownK {Q : Value → Shared → Prop} (hu : A.in1.units < cLine) (KI : K.In s.heap) (I : PySem.W.InstAt s.heap x ox C od) (hs : PySem.W.findIn K (.ref C) "__repr__" = some (some (.ref f))) (hf : PySem.W.isFn K (.ref f) = true)
    (h : wpAny (model prog w) A.in1 (call (.ref f) [.ref x]) (fun v s' => ∃ (y : Str) (t : Tok), v = .str y t ∧ Q (.str y t) s') E s) : wpAny (model prog w) A (call (.builtin "repr") [.ref x]) Q E s := by
  refine Calls.call_function_entry F.kind_repr F.plain_repr F.entry_repr (F.args_repr1 _) ?_
  unfold Builtin.«repr»
  refine wpAny_bind (m := oneArg "repr" _) (wpAny_pure ?_)
  refine wpAny_bind (wpAny_cRoomFor hu ?_)
  refine wpAny_bind (m := specialOf _ _) (wpAny_bind (I.type.here ((PySem.W.looks_findIn KI hs).here ?_)))
  show wpAny _ _ (if (some (Value.ref f)).isNone = true then _ else _) _ _ _
  rw [if_neg (by simp)]
  refine wpAny_bind (m := callSpecialIfBound? (.ref x) (Str.ofString "__repr__") _) (PySem.W.ifBound_K KI I hs hf (wpAny_mono h (fun r s' hr => ?_) fun _ _ y => y))
  obtain ⟨m, tk, rfl, hq⟩ := hr
  refine wpAny_bind (wpAny_isInstance (typeIs_str _ _ _) isSubtype_str_str ?_)
  first
    | exact wpAny_pure ⟨_, rfl, hq⟩
    | (rw [if_pos rfl]; exact wpAny_pure ⟨_, rfl, hq⟩)
    | (simp only [if_true]; exact wpAny_pure ⟨_, rfl, hq⟩)
end
section
variable {X : Cx} {D : Ad} {F : Fd} {T : Tab} {M : Nm} {fl : List Nat} {C : CS} {lv : Nat} {W : WX} {c : Sc} {pos : Pos}
theorem dN_nRepr : dN nRepr = ("__repr__" : Str) := by decide +kernel
theorem dN_nEq : dN nEq = ("__eq__" : Str) := by decide +kernel
theorem dN_nLen : dN nLen = ("__len__" : Str) := by decide +kernel
theorem dN_nStr : dN nStr = ("__str__" : Str) := by decide +kernel
/-- a method of the object's own, run around A -/
theorem own_run {A : Around} {m : Nat} {np k f : Nat} {cd : CDef} {pins : List (Addr × Obj)} {σc : L2.St} {s : Shared} {ι : List Addr} {H : Hp} {S : Store} {v0 : PV} {p : Addr} {vs : List PV} {xs : List V} {us : List Value} {Qa : QV} {Q : VK} {arr : List (Nat ⊕ PV)}
    (o : Okx X D F T M fl C lv W c) (hs : (T.cls.all fun d => match d.ms.lookup m with
      | some f => M.has f true np [] arr
      | .none => true) = true) (ec : T.cls[k]? = some cd) (em : cd.ms.lookup m = some f) (rm : Room lv A) (hg : A.guards = some []) (e0 : Env0 X.prog X.w X.K X.mg X.base A X.stack s H) (I : Inv X pins σc H s) (L : Ly D ι H S) (r0 : RV D ι H v0 (.ref p)) (r1 : RVs D ι H vs xs) (x1 : Vals xs us) (l1 : vs.length = np)
    (hc : C f (v0 :: fill arr vs) S Qa (fun _ _ => False)) (cn : Cnt D ι H Qa Q) : wpAny (model X.prog X.w) A (call (.ref (D.fa f)) (.ref p :: us)) (EP X pins σc Q) X.xe s := by
  have hsh : M.has f true np [] arr = true := by
    have := List.all_eq_true.mp hs cd (List.mem_of_getElem? ec)
    rw [em] at this
    exact this
  obtain ⟨d, hd⟩ := o.lk.inn _ _ _ _ _ hc
  obtain ⟨dv, hdf, hbn⟩ := o.lk.sh _ (Nm.has_mem hsh) d hd
  obtain ⟨zs, rz, vz⟩ := fill_rel r1 x1 arr dv hdf
  have G := o.lk.fn f d hd (o.lk.sg _ (Nm.has_mem hsh))
  rw [← o.hK] at G
  have n1 := vals_len r1 x1
  have bb := hbn s (.ref p) us (by rw [← o.hK]; exact I.kIn) (by rw [n1, l1]; rfl)
  have e1 : us.take np = us := List.take_of_length_le (by omega)
  have bb : BindsTo s (F.fd f) ⟨.ref p :: us, []⟩ (((d.N.map sN).take d.np).zip (.ref p :: fillV arr dv us)) := by simpa [e1] using bb
  refine wpAny_call (codeAny_mono (G.run A X.stack s H ⟨.ref p :: us, []⟩ (.ref p :: fillV arr dv us) (.ref p :: zs) Q (fun _ _ _ => False) rm hg e0 bb (.cons rfl vz) ?_) fun res s' hq => ?_)
  · exact ⟨ι, S, _, Qa, _, L, .cons r0 rz, hc, cn, fun ι' S' H' x cls dd e l rx q => q.elim⟩
  · match res, hq with
    | .error e, hq =>
      obtain ⟨_, _, _, _, _, _, _, _, _, _, _, _, z⟩ := hq
      exact z.elim
    | .ok (.ret u), hq => exact I.after hq
    | .ok .next, hq => exact False.elim hq
    | .ok .brk, hq => exact False.elim hq
    | .ok .cont, hq => exact False.elim hq
theorem ins_knd {S : Store} {v : PV} {k : Nat} {fs : List (Nat × PV)} (h : insOf S v = some (k, fs)) : knd S v = some (.ins k) := by
  cases v with
  | obj c ks vs => cases h; rfl
  | ref i =>
    simp only [insOf] at h
    split at h
    · rename_i c f e
      cases h
      simp only [knd]
      rw [e]
    · cases h
  | _ => cases h
theorem not_first {K : PySem.W.Frag} {C : Addr} {t : Value} (h : PySem.W.kitOne K t (.ref C) = some false) : PySem.W.notFirst K C t = true := by
  unfold PySem.W.kitOne PySem.W.kitCls at h
  split at h
  · cases h
  · simp only at h
    split at h
    · unfold PySem.W.notFirst
      rw [h]
      simp
    · cases h
theorem eq_kind {S : Store} {a b : PV} {k : Nat} {cd : CDef} (o : Okx X D F T M fl C lv W c) (ec : T.cls[k]? = some cd) (ka : knd S a = some (.ins k)) (hk : eqKind T S a b = true) :
    ∃ kd, knd S b = some kd ∧ PySem.W.notFirst D.K (D.ca k) (kd.val D) = true ∧ ∀ c, kd = .ins c → ∃ cd, T.cls[c]? = some cd := by
  unfold eqKind at hk
  rw [ka] at hk
  cases e : knd S b with
  | none => rw [e] at hk; cases hk
  | some kd =>
    rw [e] at hk
    cases kd with
    | ty t => exact ⟨_, rfl, not_first (o.lk.is.ib k t (by rw [ec]; rfl)), fun c z => by cases z⟩
    | ins d =>
      simp only [Bool.or_eq_true] at hk
      rcases hk with hk | hk
      · have hk : k = d := of_decide_eq_true hk
        subst hk
        refine ⟨_, rfl, ?_, fun c z => by cases z; exact ⟨cd, ec⟩⟩
        unfold PySem.W.notFirst
        show (Value.ref (D.ca k) == .ref (D.ca k) || _) = true
        simp
      · split at hk
        · rename_i cd' e'
          refine ⟨_, rfl, not_first ?_, fun c z => by cases z; exact ⟨cd', e'⟩⟩
          have := o.lk.is.ii d k cd' e' (by rw [ec]; rfl)
          rw [show cd'.up.contains k = false from by simpa using hk] at this
          exact this
        · cases hk
/-- a thing that is none, against an instance with an == of its own -/
theorem rfl_at {A : Around} {pins : List (Addr × Obj)} {σ : L2.St} {s : Shared} {ι : List Addr} {H : Hp} {S : Store} {a b : PV} {x y : V} {v u : Value} {f : Nat} {Qa : QV} {Q : VK} (o : Okx X D F T M fl C lv W c) (hs : (T.cls.all fun d => match d.ms.lookup nEq with
      | some f => M.has f true 1 [] [.inl 0]
      | .none => true) = true) (rm : Room lv A) (hg : A.guards = some []) (e0 : Env0 X.prog X.w X.K X.mg X.base A X.stack s H) (hu : A.units + 1 < cLine) (I : Inv X pins σ H s) (L : Ly D ι H S) (ra : RV D ι H a x) (rb : RV D ι H b y) (rx : RelV x v) (ry : RelV y u)
    (hk : rflKind S a = true) (hm : methOf T S b nEq = some f) (hc : C f [b, a] S (fun v S' => isBool v fun k => Qa (.bl k) S') (fun _ _ => False)) (cn : Cnt D ι H Qa Q) : wpAny (model X.prog X.w) A (richCompare .Eq v u) (fun r s' => ∃ k, r = .bool k ∧ EP X pins σ Q r s') X.xe s := by
  obtain ⟨k, fs, cd, es1, en, ec, em⟩ := methOf_cases hm
  obtain ⟨p, dx, fs', rfl, hp, n1, n2⟩ := ins_at L es1 rb
  obtain rfl : u = Value.ref p := ry
  have ho : s.heap.get? p = some (PySem.W.instObj (D.ca k) dx) := (I.hok _ _ hp).2.2.2.1
  obtain ⟨mA, J, _⟩ := ins_get I.hok hp
  obtain ⟨od, J, _⟩ := J.look
  obtain ⟨c1, c2, c3⟩ := o.lk.ms k cd ec
  have M1 := c2 nEq f em
  rw [dN_nEq] at M1
  have su : ∀ b : BT, PySem.W.subIn X.K (.ref (D.ca k)) (.type b.nm) = some false := fun b => by rw [o.hK]; exact o.lk.is.su k cd b ec
  have cn2 : Cnt D ι H (fun v S3 => isBool v fun k => Qa (.bl k) S3) (fun x H' => ∃ k, x = .bl k ∧ Q (.bl k) H') := by
    intro ι' S' H' v x e l r q
    obtain ⟨k, rfl, q⟩ := isBool_ex q
    exact ⟨k, rv_bl r, cn ι' S' H' (.bl k) _ e l rfl q⟩
  have run : wpAny (model X.prog X.w) A (call (.ref (D.fa f)) [.ref p, v]) (PySem.W.CmpBack (fun r s' => ∃ k, r = .bool k ∧ EP X pins σ Q r s')) X.xe s := by
    refine wpAny_mono (own_run (A := A) o hs ec em rm hg e0 I L rb (.cons ra .nil) (.cons rx .nil) rfl hc cn2) (fun w s' z => ?_) fun _ _ e => e
    obtain ⟨x', H', I', r', k', rfl, q⟩ := z
    obtain rfl : w = Value.bool k' := r'
    exact ⟨k', rfl, .bl k', H', I', rfl, q⟩
  have go : ∀ {t : BT} {id : String}, s.TypeIs v t.nm → Slot t.nm (cmpInfo .Eq).2.1 id → (∀ Q' : Value → Shared → Prop, Q' .notImplemented s → wpAny (model X.prog X.w) A (call (.builtin id) [v, .ref p]) Q' X.xe s) → wpAny (model X.prog X.w) A (richCompare .Eq v (.ref p)) (fun r s' => ∃ k, r = .bool k ∧ EP X pins σ Q r s') X.xe s :=
    fun h1 h2 h3 => SeqAt.rc_refl (C := D.ca k) h1 h2 (by omega) I.kIn J (su _) h3 (by rw [o.hK]; exact M1.at_) (by rw [o.hK]; exact M1.fn) run
  have lst : ∀ xs, lstOf S a = some xs → wpAny (model X.prog X.w) A (richCompare .Eq v (.ref p)) (fun r s' => ∃ k, r = .bool k ∧ EP X pins σ Q r s') X.xe s := fun xs e => by
    obtain ⟨a', vs, rfl, hq, t⟩ := lst_at L e ra
    obtain rfl : v = Value.ref a' := rx
    obtain ⟨its, r, hl, hz⟩ := I.list (by rw [o.hK]; exact hq)
    obtain ⟨⟨cls, dd, data, sl⟩, h1, hcl, n, hd⟩ := id hl.isList
    simp only at hcl hd
    subst hcl hd
    exact go (t := .list) ⟨_, h1, rfl⟩ PySem.F.slot_list_eq fun _ hq => call_meets PySem.F.slot_list_eq ⟨_, h1, rfl⟩ PySem.F.entry_list_eq (PySem.F.args_list_eq_2 _ _) (SeqAt.rf_list a' p _ n dd sl) ⟨h1, SeqAt.no_inst I.kIn J (su .list), hq⟩
  have hk0 := hk
  cases a with
  | non =>
    obtain rfl := rv_non ra
    obtain rfl : v = Value.none := rx
    exact go (t := .non) rfl PySem.F.slot_NoneType_eq fun _ hq => call_gives PySem.F.slot_NoneType_eq rfl PySem.F.entry_NoneType_eq (PySem.F.args_NoneType_eq_2 _ _) (SeqAt.rf_none p) hq
  | bl b =>
    obtain rfl := rv_bl ra
    obtain rfl : v = Value.bool b := rx
    exact go (t := .bool) rfl PySem.F.slot_bool_eq fun _ hq => call_meets PySem.F.slot_bool_eq rfl PySem.F.entry_int_eq (PySem.F.args_int_eq_2 _ _) (SeqAt.rf_bool b p _ _) ⟨ho, hq⟩
  | int i =>
    obtain rfl := rv_int ra
    obtain ⟨t, rfl⟩ : ∃ t, v = Value.int i t := rx
    exact go (t := .int) (typeIs_int s i t) PySem.F.slot_int_eq fun _ hq => call_meets PySem.F.slot_int_eq (typeIs_int s i t) PySem.F.entry_int_eq (PySem.F.args_int_eq_2 _ _) (SeqAt.rf_int i t p _ _) ⟨ho, hq⟩
  | str z =>
    obtain rfl := rv_str ra
    obtain ⟨t, rfl⟩ : ∃ t, v = Value.str z t := rx
    exact go (t := .str) (typeIs_str s z t) PySem.F.slot_str_eq fun _ hq => call_meets PySem.F.slot_str_eq (typeIs_str s z t) PySem.F.entry_str_eq (PySem.F.args_str_eq_2 _ _) (SeqAt.rf_str z t p _ _) ⟨ho, hq⟩
  | tup xs =>
    obtain ⟨a', vs, rfl, hq, t⟩ := rv_tup ra
    obtain rfl : v = Value.ref a' := rx
    obtain ⟨its, r, ht, hz⟩ := I.tuple (by rw [o.hK]; exact hq)
    obtain ⟨⟨cls, dd, data, sl⟩, h1, hcl, n, hd⟩ := ht
    simp only at hcl hd
    subst hcl hd
    exact go (t := .tuple) ⟨_, h1, rfl⟩ PySem.F.slot_tuple_eq fun _ hq => call_meets PySem.F.slot_tuple_eq ⟨_, h1, rfl⟩ PySem.F.entry_tuple_eq (PySem.F.args_tuple_eq_2 _ _) (SeqAt.rf_tuple a' p _ n dd sl) ⟨h1, SeqAt.no_inst I.kIn J (su .tuple), hq⟩
  | dct ks ws =>
    obtain ⟨a', kvs', rfl, ⟨od', hq⟩, _, _⟩ := ra
    obtain rfl : v = Value.ref a' := rx
    have ty : s.TypeIs (.ref a') "dict" := by
      obtain ⟨_, _, _, vs, _, hd⟩ := I.hok _ _ hq
      exact hd.typeIs
    exact go (t := .dict) ty PySem.F.slot_dict_eq fun _ hq => call_meets PySem.F.slot_dict_eq ty PySem.F.entry_dict_eq (PySem.F.args_dict_eq_2 _ _) (SeqAt.rf_dict a' p) ⟨ty, SeqAt.no_inst I.kIn J (su .dict), hq⟩
  | scr xs => exact lst xs rfl
  | ls xs => exact lst xs rfl
  | ref i =>
    obtain ⟨xs, e⟩ := Option.isSome_iff_exists.mp (show (lstOf S (.ref i)).isSome = true from hk0)
    exact lst xs e
  | fn i => cases hk0
  | cls i => cases hk0
  | ty n => cases hk0
  | obj c ks vs => cases hk0
  | clo k vs => cases hk0
theorem op_eqO {neg : Bool} (o : Okx X D F T M fl C lv W c) (hs : (T.cls.all fun d => match d.ms.lookup nEq with
      | some f => M.has f true 1 [] [.inl 0]
      | .none => true) = true) : OpR X (compareOp (if neg = true then .NotEq else .Eq)) (rdV2 D (wpEqO T C neg)) := by
  intro pins s σ H x y v u Q I rx ry h
  obtain ⟨ι, S, a, b, Qa, L, ra, rb, hw, cn⟩ := h
  have hu := o.room.un
  have hw : wpEqO T C neg a b S Qa := hw
  unfold wpEqO at hw
  cases hm : methOf T S a nEq with
  | none =>
    rw [hm] at hw
    obtain ⟨hk, hw⟩ := onT_ex hw
    obtain ⟨f, hm, hc⟩ := onS_ex hw
    cases neg with
    | true => cases hk
    | false =>
      refine wpAny_mono (rfl_at o hs (o.room.mono (Nat.le_succ _)) o.grd I.env0 (by omega) I L ra rb rx ry hk hm hc cn) (fun w s' z => ?_) fun _ _ e => e
      obtain ⟨_, _, q⟩ := z
      exact q
  | some f =>
  rw [hm] at hw
  obtain ⟨hk, hc⟩ := onT_ex hw
  obtain ⟨k, fs, cd, es1, en, ec, em⟩ := methOf_cases hm
  obtain ⟨p, dx, fs', rfl, hp, n1, n2⟩ := ins_at L es1 ra
  obtain rfl : v = Value.ref p := rx
  obtain ⟨mA, J, _⟩ := ins_get I.hok hp
  obtain ⟨od, J, _⟩ := J.look
  obtain ⟨c1, c2, c3⟩ := o.lk.ms k cd ec
  have M1 := c2 nEq f em
  rw [dN_nEq] at M1
  have ka : knd S a = some (.ins k) := ins_knd es1
  obtain ⟨kd, ekd, hfst, hcl⟩ := eq_kind o ec ka hk
  obtain ⟨P, Z, pz, _⟩ := kit_of I ry (tyx_of o.hK L o.lk.is ekd hcl rb)
  have lk := Z.ty (model X.prog X.w) _ I.kIn pz
  obtain ⟨m, hF⟩ := I.fr
  have cn2 : Cnt D ι H (fun v S3 => isBool v fun k => Qa (.bl (if neg = true then !k else k)) S3) (fun x H' => ∃ k, x = .bl k ∧ Q (.bl (if neg = true then !k else k)) H') := by
    intro ι' S' H' v x e l r q
    obtain ⟨k, rfl, q⟩ := isBool_ex q
    exact ⟨k, rv_bl r, cn ι' S' H' (.bl (if neg = true then !k else k)) _ e l rfl q⟩
  have hu := o.room.un
  cases neg with
  | false =>
    show wpAny (model X.prog X.w) X.A (richCompare .Eq (.ref p) u) (EP X pins σ Q) X.xe s
    refine PySem.W.cmp_K (op := .Eq) (tb := kd.val D) (by omega) hF I.ok.mod.kin J lk (by rw [o.hK]; exact hfst) (by rw [o.hK]; exact M1.at_) (by rw [o.hK]; exact M1.fn) ?_
    refine wpAny_mono (own_run o hs ec em (o.room.mono (Nat.le_succ _)) o.grd I.env0 I L ra (.cons rb .nil) (.cons ry .nil) rfl hc cn2) (fun w s' z => ?_) fun _ _ e => e
    obtain ⟨x', H', I', r', k', rfl, q⟩ := z
    obtain rfl : w = Value.bool k' := r'
    exact ⟨.bl k', H', I', rfl, q⟩
  | true =>
    show wpAny (model X.prog X.w) X.A (richCompare .NotEq (.ref p) u) (EP X pins σ Q) X.xe s
    refine ne_own (tb := kd.val D) (by omega) I.kIn J lk (by rw [o.hK]; exact hfst) (by rw [o.hK]; exact (o.lk.is.ha k cd ec).2) (by rw [o.hK]; exact o.lk.is.ne k cd ec (by rw [em]; rfl)) (by rw [o.hK]; exact M1.at_) (by rw [o.hK]; exact M1.fn) ?_
    refine wpAny_mono (own_run (A := X.A.in1) o hs ec em o.room.in1 o.grd I.env0.in1 I L ra (.cons rb .nil) (.cons ry .nil) rfl hc cn2) (fun w s' z => ?_) fun _ _ e => e
    obtain ⟨x', H', I', r', k', rfl, q⟩ := z
    obtain rfl : w = Value.bool k' := r'
    exact ⟨k', rfl, .bl (!k'), H', I', rfl, q⟩
theorem s_eqO {neg : Bool} {op : CmpOp} {a b : RE} {l r : Expr} (o : Okx X D F T M fl C lv W c) (ho : op = if neg = true then .NotEq else .Eq) (hm : behindInMarks op r = false) (hs : (T.cls.all fun d => match d.ms.lookup nEq with
      | some f => M.has f true 1 [] [.inl 0]
      | .none => true) = true) (ha : PE X l (rdE D T C W a)) (hb : PE X r (rdE D T C W b)) : PE X (.Compare l [op] [r] pos) (rdE D T C W (.eqO neg a b)) := by
  subst ho
  refine PE.imp (pe_cmpR (op_eqO (neg := neg) o hs) ha hb hm) fun σc H Q z => ?_
  obtain ⟨ι, S, σ, Qa, Ra, L, G, hw, cn, cx⟩ := z
  refine ⟨ι, S, σ, _, Ra, L, G, hw, fun ι1 S1 H1 v x e1 L1 r1 q1 => ?_, cx⟩
  refine ⟨ι1, S1, σ, _, Ra, L1, G.ext e1, q1, fun ι2 S2 H2 w y e2 L2' r2 q2 => ?_, cx.ext e1⟩
  exact ⟨ι2, S2, v, w, Qa, L2', r1.ext e2, r2, q2, cn.ext (e1.trans e2)⟩
theorem t_eqO {neg : Bool} {op : CmpOp} {a b : RE} {l r : Expr} (o : Okx X D F T M fl C lv W c) (ho : op = if neg = true then .NotEq else .Eq) (hm : behindInMarks op r = false) (hs : (T.cls.all fun d => match d.ms.lookup nEq with
      | some f => M.has f true 1 [] [.inl 0]
      | .none => true) = true) (ha : PE X l (rdE D T C W a)) (hb : PE X r (rdE D T C W b)) : PT X (.Compare l [op] [r] pos) (rdT D T C W (.eqO neg a b)) := by
  subst ho
  refine PT.imp (pt_cmpR (op_eqO (neg := neg) o hs) ha hb hm) fun σc H Q z => ?_
  obtain ⟨ι, S, σ, Qb, Ra, L, G, hw, cn, cx⟩ := z
  refine ⟨ι, S, σ, _, Ra, L, G, hw, fun ι1 S1 H1 v x e1 L1 r1 q1 => ?_, cx⟩
  refine ⟨ι1, S1, σ, _, Ra, L1, G.ext e1, q1, fun ι2 S2 H2 w y e2 L2' r2 q2 => ?_, cx.ext e1⟩
  refine ⟨ι2, S2, v, w, (fun u S3 => isBool u fun k => Qb k S3), L2', r1.ext e2, r2, q2, fun ι3 S3 H3 u y3 e3 L3 r3 q3 => ?_⟩
  obtain ⟨k, rfl, q⟩ := isBool_ex q3
  obtain rfl := rv_bl r3
  exact ⟨k, rfl, (cn.ext ((e1.trans e2).trans e3)).here L3 q⟩
theorem call_strO (o : Okx X D F T M fl C lv W c) (hs : (T.cls.all fun d => match d.ms.lookup nStr with
      | some f => M.has f true 0 [] []
      | .none => true) = true) : CallR X (.type "str") (rdVs D fun vs S Q => one vs fun x => wpBltO T C .str x S Q) := by
  intro pins s σ H xs us Q I r h
  obtain ⟨ι, S, vs, Qa, L, rv, hw, cn⟩ := h
  match vs, rv, hw with
  | [], rv, hw => exact (show False from hw).elim
  | _ :: _ :: _, rv, hw => exact (show False from hw).elim
  | [a], rv, hw =>
    obtain ⟨x, rfl, ra⟩ := rvs1 rv
    obtain ⟨u, rfl, ru⟩ := vals1 r
    obtain ⟨m0, e0, hw⟩ := onS_ex (show wpBltO T C .str a S Qa from hw)
    cases e0
    obtain ⟨f, hm, hc⟩ := onS_ex hw
    obtain ⟨k, fs, cd, es1, en, ec, em⟩ := methOf_cases hm
    obtain ⟨p, dx, fs', rfl, hp, n1, n2⟩ := ins_at L es1 ra
    obtain rfl : u = Value.ref p := ru
    obtain ⟨mA, J, _⟩ := ins_get I.hok hp
    obtain ⟨od, J, _⟩ := J.look
    obtain ⟨c1, c2, c3⟩ := o.lk.ms k cd ec
    have M1 := c2 nStr f em
    rw [dN_nStr] at M1
    have cn2 : Cnt D ι H (fun v S3 => match v with
      | .str z => Qa (.str z) S3
      | _ => False) (fun x H' => ∃ z, x = .str z ∧ Q x H') := by
      intro ι' S' H' v x e l r q
      cases v <;> first
        | exact q.elim
        | skip
      rename_i z
      have ez := rv_str r
      subst ez
      exact ⟨z, rfl, cn ι' S' H' (.str z) _ e l rfl q⟩
    have hu := o.room.un
    have rm : Room lv X.A.in1.in1 := ⟨o.room.hd, by have := o.room.dp; show X.A.depth + 3 * lv + 5 < _; omega, by show X.A.units + 1 + 1 + 16 * lv + 200 < _; omega⟩
    refine PySem.W.kso_call (by show X.A.units + 1 + 1 < _; omega) I.kIn J (by rw [o.hK]; exact M1.at_) (by rw [o.hK]; exact M1.fn) ?_
    refine wpAny_mono (own_run (A := X.A.in1.in1) o hs ec em rm o.grd I.env0.in1.in1 I L ra .nil .nil rfl hc cn2) (fun w s' z => ?_) fun _ _ e => e
    obtain ⟨x', H', I', r', z, rfl, q⟩ := z
    obtain ⟨t, rfl⟩ : ∃ t, w = Value.str z t := r'
    exact ⟨.str z, H', I', ⟨t, rfl⟩, q⟩
theorem s_strO {a : RE} {x : Str} {e : Expr} {p : Pos} (o : Okx X D F T M fl C lv W c) (hx : okGl c "str" x = true) (hb : (M.nb.any (· == "str")) = true) (ha : PA X [e] (rdEs D T C W (.cons a .nil))) (hn : noStar [e] = true) (hs : (T.cls.all fun d => match d.ms.lookup nStr with
      | some f => M.has f true 0 [] []
      | .none => true) = true) : PE X (.Call (.Name x p) [e] [] pos) (rdE D T C W (.bltO .str a)) := by
  obtain ⟨e', hg, hd, hnn⟩ := gl_of o hx
  subst e'
  obtain ⟨y, hy, ey⟩ := List.any_eq_true.mp hb
  have ey : y = "str" := eq_of_beq ey
  subst ey
  have hm := o.lk.nb _ hy
  have s1 := (noStar_cons (env := X.env) hn).1
  have s2 := noStar_any (env := X.env) (pos := pos) (noStar_cons (env := X.env) hn).2
  refine PE.imp (pe_callTy (call_strO o hs) hg hm (boot_blt .str) ha hnn hd s1 s2) fun σc H Q z => ?_
  obtain ⟨ι, S, σ, Qa, Ra, L, G, hw, cn, cx⟩ := z
  refine ⟨ι, S, σ, fun vs S' => one vs fun x => wpBltO T C .str x S' Qa, Ra, L, G, hw, fun ι1 S1 H1 vs xs e1 L1 r1 l1 q1 => ⟨ι1, S1, vs, Qa, L1, r1, q1, cn.ext e1⟩, cx⟩
theorem s_fOwn {a : RE} {e : Expr} {p1 : Pos} (o : Okx X D F T M fl C lv W c) (ha : PE X e (rdE D T C W a)) (hs : (T.cls.all fun d => match d.ms.lookup nStr with
      | some f => M.has f true 0 [] []
      | .none => true) = true) : PE X (.JoinedStr [.FormattedValue e (-1) none p1] pos) (rdE D T C W (.fOwn a)) := by
  refine pe_joined1 ⟨fun pins s σc H Q I z => ?_⟩
  obtain ⟨ι, S, σ, Qa, Ra, L, G, hw, cn, cx⟩ := z
  refine wpAny_FormattedValue_plain (thn (ha.run pins s σc H (fun x H1 => ∃ ι1 S1 v, Ext ι H ι1 H1 ∧ Ly D ι1 H1 S1 ∧ RV D ι1 H1 v x ∧ wpBltO T C .str v S1 Qa) I ⟨ι, S, σ, _, Ra, L, G, hw, fun ι1 S1 H1 v x e1 L1 r1 q1 => ⟨ι1, S1, v, e1, L1, r1, q1⟩, cx⟩) fun u s1 hv => ?_)
  obtain ⟨x, H1, I1, ru, ι1, S1, v, e1, L1, ra, hw⟩ := hv
  have cn := cn.ext e1
  obtain ⟨m0, e0, hw⟩ := onS_ex (show wpBltO T C .str v S1 Qa from hw)
  cases e0
  obtain ⟨f, hm, hc⟩ := onS_ex hw
  obtain ⟨k, fs, cd, es1, en, ec, em⟩ := methOf_cases hm
  obtain ⟨p, dx, fs', rfl, hp, n1, n2⟩ := ins_at L1 es1 ra
  obtain rfl : u = Value.ref p := ru
  obtain ⟨mA, J, _⟩ := ins_get I1.hok hp
  obtain ⟨od, J, _⟩ := J.look
  obtain ⟨c1, c2, c3⟩ := o.lk.ms k cd ec
  have M1 := c2 nStr f em
  rw [dN_nStr] at M1
  have cn2 : Cnt D ι1 H1 (fun v S3 => match v with
    | .str z => Qa (.str z) S3
    | _ => False) (fun x H' => ∃ z, x = .str z ∧ Q x H') := by
    intro ι' S' H' v x e l r q
    cases v <;> first
      | exact q.elim
      | skip
    rename_i z
    have ez := rv_str r
    subst ez
    exact ⟨z, rfl, cn ι' S' H' (.str z) _ e l rfl q⟩
  have hu := o.room.un
  have I2 := I1.tok (s1.toks + 1)
  refine PySem.W.kfo_fieldS (by show X.A.units + 1 < _; omega) I1.kIn J (by rw [o.hK]; exact o.lk.is.fm k cd ec (by rw [em]; rfl)) (by rw [o.hK]; exact (o.lk.is.ha k cd ec).2) (by rw [o.hK]; exact M1.at_) (by rw [o.hK]; exact M1.fn) ?_
  refine wpAny_mono (own_run (A := X.A.in1) o hs ec em o.room.in1 o.grd I2.env0.in1 I2 L1 ra .nil .nil rfl hc cn2) (fun w s' z => ?_) fun _ _ e => e
  obtain ⟨x', H', I', r', z, rfl, q⟩ := z
  obtain ⟨t, rfl⟩ : ∃ t, w = Value.str z t := r'
  exact ⟨.str z, H', I', ⟨t, rfl⟩, q⟩
theorem call_lenO (o : Okx X D F T M fl C lv W c) (hs : (T.cls.all fun d => match d.ms.lookup nLen with
      | some f => M.has f true 0 [] []
      | .none => true) = true) : CallR X (.builtin "len") (rdVs D fun vs S Q => one vs fun x => wpBltO T C .len x S Q) := by
  intro pins s σ H xs us Q I r h
  obtain ⟨ι, S, vs, Qa, L, rv, hw, cn⟩ := h
  match vs, rv, hw with
  | [], rv, hw => exact (show False from hw).elim
  | _ :: _ :: _, rv, hw => exact (show False from hw).elim
  | [a], rv, hw =>
    obtain ⟨x, rfl, ra⟩ := rvs1 rv
    obtain ⟨u, rfl, ru⟩ := vals1 r
    obtain ⟨m0, e0, hw⟩ := onS_ex (show wpBltO T C .len a S Qa from hw)
    cases e0
    obtain ⟨f, hm, hc⟩ := onS_ex hw
    obtain ⟨k, fs, cd, es1, en, ec, em⟩ := methOf_cases hm
    obtain ⟨p, dx, fs', rfl, hp, n1, n2⟩ := ins_at L es1 ra
    obtain rfl : u = Value.ref p := ru
    obtain ⟨mA, J, _⟩ := ins_get I.hok hp
    obtain ⟨od, J, _⟩ := J.look
    obtain ⟨c1, c2, c3⟩ := o.lk.ms k cd ec
    have M1 := c2 nLen f em
    rw [dN_nLen] at M1
    have cn2 : Cnt D ι H (fun v S3 => isInt v fun n => onT (decide (0 ≤ n ∧ n ≤ 1000000)) (Qa (.int n) S3)) (fun x H' => ∃ n : Nat, x = .int n ∧ n ≤ 1000000 ∧ Q x H') := by
      intro ι' S' H' v x e l r q
      obtain ⟨n, rfl, q⟩ := isInt_ex q
      obtain ⟨hn, q⟩ := onT_ex q
      have hn := of_decide_eq_true hn
      obtain rfl := rv_int r
      obtain ⟨m, rfl⟩ : ∃ m : Nat, n = m := ⟨n.toNat, by omega⟩
      exact ⟨m, rfl, by omega, cn ι' S' H' (.int m) _ e l rfl q⟩
    refine len_own I.kIn J (by rw [o.hK]; exact M1.at_) (by rw [o.hK]; exact M1.fn) ?_
    refine wpAny_mono (own_run (A := X.A.in1) o hs ec em o.room.in1 o.grd I.env0.in1 I L ra .nil .nil rfl hc cn2) (fun w s' z => ?_) fun _ _ e => e
    obtain ⟨x', H', I', r', n, rfl, hn, q⟩ := z
    obtain ⟨t, rfl⟩ : ∃ t, w = Value.int n t := r'
    exact ⟨n, t, rfl, hn, fun u tk => ⟨.int n, H', I'.tok tk, ⟨u, rfl⟩, q⟩⟩
theorem s_lenO {a : RE} {x : Str} {e : Expr} {p : Pos} (o : Okx X D F T M fl C lv W c) (hx : okGl c "len" x = true) (hb : (M.nb.any (· == "len")) = true) (ha : PA X [e] (rdEs D T C W (.cons a .nil))) (hn : noStar [e] = true) (hs : (T.cls.all fun d => match d.ms.lookup nLen with
      | some f => M.has f true 0 [] []
      | .none => true) = true) : PE X (.Call (.Name x p) [e] [] pos) (rdE D T C W (.bltO .len a)) := by
  obtain ⟨e', hg, hd, hnn⟩ := gl_of o hx
  subst e'
  obtain ⟨y, hy, ey⟩ := List.any_eq_true.mp hb
  have ey : y = "len" := eq_of_beq ey
  subst ey
  have hm := o.lk.nb _ hy
  have s1 := (noStar_cons (env := X.env) hn).1
  have s2 := noStar_any (env := X.env) (pos := pos) (noStar_cons (env := X.env) hn).2
  refine PE.imp (pe_callB (call_lenO o hs) hg hm (boot_blt .len) ha hnn hd s1 s2) fun σc H Q z => ?_
  obtain ⟨ι, S, σ, Qa, Ra, L, G, hw, cn, cx⟩ := z
  refine ⟨ι, S, σ, fun vs S' => one vs fun x => wpBltO T C .len x S' Qa, Ra, L, G, hw, fun ι1 S1 H1 vs xs e1 L1 r1 l1 q1 => ⟨ι1, S1, vs, Qa, L1, r1, q1, cn.ext e1⟩, cx⟩
theorem call_reprO (o : Okx X D F T M fl C lv W c) (hs : (T.cls.all fun d => match d.ms.lookup nRepr with
      | some f => M.has f true 0 [] []
      | .none => true) = true) : CallR X (.builtin "repr") (rdVs D fun vs S Q => one vs fun x => wpBltO T C .repr x S Q) := by
  intro pins s σ H xs us Q I r h
  obtain ⟨ι, S, vs, Qa, L, rv, hw, cn⟩ := h
  match vs, rv, hw with
  | [], rv, hw => exact (show False from hw).elim
  | _ :: _ :: _, rv, hw => exact (show False from hw).elim
  | [a], rv, hw =>
    obtain ⟨x, rfl, ra⟩ := rvs1 rv
    obtain ⟨u, rfl, ru⟩ := vals1 r
    obtain ⟨m0, e0, hw⟩ := onS_ex (show wpBltO T C .repr a S Qa from hw)
    cases e0
    obtain ⟨f, hm, hc⟩ := onS_ex hw
    obtain ⟨k, fs, cd, es1, en, ec, em⟩ := methOf_cases hm
    obtain ⟨p, dx, fs', rfl, hp, n1, n2⟩ := ins_at L es1 ra
    obtain rfl : u = Value.ref p := ru
    obtain ⟨mA, J, _⟩ := ins_get I.hok hp
    obtain ⟨od, J, _⟩ := J.look
    obtain ⟨c1, c2, c3⟩ := o.lk.ms k cd ec
    have M1 := c2 nRepr f em
    rw [dN_nRepr] at M1
    have cn2 : Cnt D ι H (fun v S3 => match v with
      | .str z => Qa (.str z) S3
      | _ => False) (fun x H' => ∃ z, x = .str z ∧ Q x H') := by
      intro ι' S' H' v x e l r q
      cases v <;> first
        | exact q.elim
        | skip
      rename_i z
      have ez := rv_str r
      subst ez
      exact ⟨z, rfl, cn ι' S' H' (.str z) _ e l rfl q⟩
    have hu := o.room.un
    refine repr_ownK (by show X.A.units + 1 < _; omega) I.kIn J (by rw [o.hK]; exact M1.at_) (by rw [o.hK]; exact M1.fn) ?_
    refine wpAny_mono (own_run (A := X.A.in1) o hs ec em o.room.in1 o.grd I.env0.in1 I L ra .nil .nil rfl hc cn2) (fun w s' z => ?_) fun _ _ e => e
    obtain ⟨x', H', I', r', z, rfl, q⟩ := z
    obtain ⟨t, rfl⟩ : ∃ t, w = Value.str z t := r'
    exact ⟨z, t, rfl, .str z, H', I', ⟨t, rfl⟩, q⟩
theorem s_reprO {a : RE} {x : Str} {e : Expr} {p : Pos} (o : Okx X D F T M fl C lv W c) (hx : okGl c "repr" x = true) (hb : (M.nb.any (· == "repr")) = true) (ha : PA X [e] (rdEs D T C W (.cons a .nil))) (hn : noStar [e] = true) (hs : (T.cls.all fun d => match d.ms.lookup nRepr with
      | some f => M.has f true 0 [] []
      | .none => true) = true) : PE X (.Call (.Name x p) [e] [] pos) (rdE D T C W (.bltO .repr a)) := by
  obtain ⟨e', hg, hd, hnn⟩ := gl_of o hx
  subst e'
  obtain ⟨y, hy, ey⟩ := List.any_eq_true.mp hb
  have ey : y = "repr" := eq_of_beq ey
  subst ey
  have hm := o.lk.nb _ hy
  have s1 := (noStar_cons (env := X.env) hn).1
  have s2 := noStar_any (env := X.env) (pos := pos) (noStar_cons (env := X.env) hn).2
  refine PE.imp (pe_callB (call_reprO o hs) hg hm (boot_blt .repr) ha hnn hd s1 s2) fun σc H Q z => ?_
  obtain ⟨ι, S, σ, Qa, Ra, L, G, hw, cn, cx⟩ := z
  refine ⟨ι, S, σ, fun vs S' => one vs fun x => wpBltO T C .repr x S' Qa, Ra, L, G, hw, fun ι1 S1 H1 vs xs e1 L1 r1 l1 q1 => ⟨ι1, S1, vs, Qa, L1, r1, q1, cn.ext e1⟩, cx⟩
/-- {x!r} of data -/
theorem s_fmtR {a : RE} {e : Expr} {p : Pos} (o : Okx X D F T M fl C lv W c) (ha : PE X e (rdE D T C W a)) : PE X (.FormattedValue e 114 none p) (rdE D T C W (.fmtR a)) := by
  refine ⟨fun pins s σc H Q I z => ?_⟩
  obtain ⟨ι, S, σ, Qa, Ra, L, G, hw, cn, cx⟩ := z
  refine wpAny_FormattedValue_repr (thn (ha.run pins s σc H (fun x H1 => ∃ ι1 S1 v, Ext ι H ι1 H1 ∧ Ly D ι1 H1 S1 ∧ RV D ι1 H1 v x ∧ wpRepr v S1 Qa) I ⟨ι, S, σ, _, Ra, L, G, hw, fun ι1 S1 H1 v x e1 L1 r1 q1 => ⟨ι1, S1, v, e1, L1, r1, q1⟩, cx⟩) fun u s1 hv => ?_)
  obtain ⟨x, H1, I1, ru, ι1, S1, v, e1, L1, ra, hw⟩ := hv
  have cn := cn.ext e1
  obtain ⟨d, h1, hw⟩ := onS_ex (show onS (datS S1 v) fun d => onT (shOk d) (Qa (.str (shS 0 d)) S1) from hw)
  obtain ⟨hz, q⟩ := onT_ex hw
  rw [shS_eq] at q
  have h1 := datS_of h1
  unfold shOk at hz
  rw [shS_eq] at hz
  simp only [Bool.and_eq_true, decide_eq_true_eq] at hz
  obtain ⟨⟨h2, h4⟩, h5⟩ := hz
  have q := cn.here L1 (show RV D ι1 H1 (.str d.shown) (.str d.shown) from rfl) q
  have hz : d.shown.length ≤ sizeLine := by rw [lim_eq]; exact h5
  have fin : ∀ (h' : Heap) (t : Tok) (tk : Nat), (∀ b o, s1.heap.get? b = some o → h'.get? b = some o) → wpAny (model X.prog X.w) X.A (formatField (.str d.shown t) Str.empty) (EP X pins σc Q) X.xe { s1 with heap := h', toks := tk } := fun h' t tk hk => by
    have I2 : Inv X pins σc H1 { s1 with heap := h', toks := tk } := I1.kept hk
    exact wpAny_formatField_str ⟨.str d.shown, H1, I2, ⟨t, rfl⟩, q⟩ ⟨.str d.shown, H1, I2.tok _, ⟨_, rfl⟩, q⟩ hz
  obtain ⟨⟨as, _, hr, _, _⟩, top⟩ := dat_sh o.hK I1 L1 h1 ra ru h2 hz
  have hu := o.u80
  have obj : ∀ p, u = .ref p → wpAny (model X.prog X.w) X.A (pyReprObj u) (fun r s₂ => wpAny (model X.prog X.w) X.A (formatField r Str.empty) (EP X pins σc Q) X.xe s₂) X.xe s1 := fun p e => by
    subst e
    obtain ⟨T, idr, B⟩ := top p rfl
    have hu2 := depth_units h4 hu
    exact wpAny_pyReprObj_slot (by omega) (B.typeIs s1 fun _ _ e => e) B.slotRepr (B.call X.A X.xe s1 _ o.grd (by omega) (fun _ _ e => e) fun h' u tk hk => ⟨_, _, rfl, fin h' u tk hk⟩)
  cases hr with
  | none => exact pyReprObj_none (fin s1.heap _ _ fun _ _ e => e)
  | bool b => exact pyReprObj_bool (fin s1.heap _ _ fun _ _ e => e)
  | int i t => exact pyReprObj_int (by simpa [PyData.showable] using h2) (fin s1.heap _ _ fun _ _ e => e)
  | str z t => exact pyReprObj_str (fin s1.heap _ _ fun _ _ e => e) hz
  | list _ _ _ _ => exact obj _ rfl
  | tuple _ _ _ _ => exact obj _ rfl
  | dict _ _ _ _ _ => exact obj _ rfl
/-- .. as a part of a text put together -/
theorem fmt_R {a : RE} {e : Expr} (h : PE X e (rdE D T C W (.fmtR a))) : PE X e (tFmt (rdE D T C W (.fmtR a))) := by
  refine PE.imp h fun σc H Q z => ?_
  obtain ⟨ι, S, σ, Qa, Ra, L, G, hw, cn, cx⟩ := z
  refine ⟨ι, S, σ, fun v S' => ∃ y, v = .str y ∧ Qa v S', Ra, L, G, ?_, fun ι1 S1 H1 v x e1 L1 r1 q1 => ?_, cx⟩
  · have e1 : (fun (x : PV) (S1 : Store) => wpRepr x S1 fun v S' => ∃ y, v = .str y ∧ Qa v S') = fun x S1 => wpRepr x S1 Qa := by
      funext x S1
      unfold wpRepr
      have : ∀ y, (∃ y', PV.str y = .str y' ∧ Qa (.str y) S1) = Qa (.str y) S1 := fun y => propext ⟨fun ⟨_, _, q⟩ => q, fun q => ⟨y, rfl, q⟩⟩
      simp only [this]
    show wpE T C a σ S (fun x S1 => wpRepr x S1 fun v S' => ∃ y, v = .str y ∧ Qa v S') Ra
    rw [e1]
    exact hw
  · obtain ⟨y, rfl, q⟩ := q1
    have ez := rv_str r1
    subst ez
    rcases cn ι1 S1 H1 (.str y) _ e1 L1 r1 q with ⟨y', e, _, q⟩ | ⟨i, e, _⟩
    · cases e
      exact q
    · cases e
end
end Rp
/-! # x in a list, a tuple, where == may be a text's own: the state goes on from turn to turn -/
namespace Rp
namespace InG
open PySem PySem.SeqAt
open AutoSeq1 (wpAny_loadPart')
open MeetsSeq MeetsSeq2 MeetsSeq3 SeqRoads2
open GQ (FinOf)
section
variable {prog : Program} {w : World} {A : Around} {R : Result → Shared → Prop}
/-- at each turn the list is read anew: N items -/
def ListT (prog : Program) (w : World) (A : Around) (R : Result → Shared → Prop) (l : Addr) (N : Nat) (x : Value) (I : Nat → Shared → Prop) : Prop :=
  ∀ i s, I i s → ∃ (items : Array Value) (n : Nat) (dd : Option Addr) (sl : Array (Option Value)), s.heap.get? l = some { cls := .type "list", dict := dd, data := .seq items n, slots := sl } ∧ items.size = N ∧
    ∀ (h1 : i < items.size), wpAny (model prog w) A.in1 (eqBool items[i] x) (fun r s' => (r = true → R (.ok (.ret (.bool true))) s') ∧ (r = false → I (i + 1) s')) (fun e s' => R (.error e) s') s
theorem in_loopG (l : Addr) (N : Nat) (x : Value) (I : Nat → Shared → Prop) (turn : ListT prog w A R l N x I)
    (fin : ∀ s, I N s → R (.ok (.ret (.bool false))) s) (k : Nat) :
    ∀ i : Nat, N - i = k → i ≤ N → ∀ s, I i s →
      wpAny (model prog w) A.in1 (Builtin.«list.__contains__.loop» ⟨[.ref l, x, rawInt i], []⟩) (FinOf prog w A R) (fun e s' => R (.error e) s') s := by
  induction k with
  | zero =>
    intro i hk hi s h
    obtain ⟨items, n, dd, sl, hl, hs, _⟩ := turn _ _ h
    have hi' : i = N := by omega
    have hR : R (.ok (.ret (.bool false))) s := fin s (hi' ▸ h)
    obtain ⟨hp, g, d, tk, os⟩ := s
    wp_walk using wpAny_loadPart' hl
    have hi1 : items[((i : Nat) : Int).toNat]? = none := by simp; omega
    rw [hi1]
    wp_walk
    exact hR
  | succ k ih =>
    intro i hk hi s h
    obtain ⟨items, n, dd, sl, hl, hs, ht⟩ := turn _ _ h
    have hlt : i < items.size := by omega
    have ht := ht hlt
    obtain ⟨hp, g, d, tk, os⟩ := s
    wp_walk using wpAny_loadPart' hl
    have hi1 : items[((i : Nat) : Int).toNat]? = some items[i] := by simp [hlt]
    have hc : ((i : Int) + 1) = ((i + 1 : Nat) : Int) := by omega
    rw [hi1]
    refine wpAny_bind (wpAny_mono ht (fun r s2 h2 => ?_) fun _ _ x => x)
    obtain ⟨hr, h2⟩ := h2
    cases r with
    | true =>
      have hR := hr rfl
      obtain ⟨hp2, g2, d2, tk2, os2⟩ := s2
      wp_walk
      exact hR
    | false =>
      have hrec := ih (i + 1) (by omega) (by omega) s2 (h2 rfl)
      obtain ⟨hp2, g2, d2, tk2, os2⟩ := s2
      wp_walk
      rw [hc]
      exact ⟨plainId_quiet plain_contains_loop _, codeAny_builtin entry_contains_loop (by
        rw [Around.under_plainId plain_contains_loop _]
        exact hrec)⟩
theorem list_inG (l : Addr) (N : Nat) (x : Value) (I : Nat → Shared → Prop) (turn : ListT prog w A R l N x I)
    (fin : ∀ s, I N s → R (.ok (.ret (.bool false))) s) {s : Shared} (h : I 0 s) :
    wpAny (model prog w) A.in1 (Builtin.«list.__contains__» ⟨[.ref l, x], []⟩) (FinOf prog w A R) (fun e s' => R (.error e) s') s := by
  obtain ⟨items, n, dd, sl, hl, hs, _⟩ := turn _ _ h
  have hrec := in_loopG (A := A) (R := R) l N x I turn fin _ 0 rfl (Nat.zero_le _) s h
  obtain ⟨hp, g, d, tk, os⟩ := s
  wp_walk using wpAny_loadPart' hl
  exact ⟨plainId_quiet plain_contains_loop _, codeAny_builtin entry_contains_loop (by
    rw [Around.under_plainId plain_contains_loop _]
    exact hrec)⟩
theorem tuple_inG (l : Addr) (items : Array Value) (n : Nat) (dd : Option Addr) (sl : Array (Option Value)) (x : Value) (I : Nat → Shared → Prop)
    (turn : ∀ i (h1 : i < items.size) s, I i s → wpAny (model prog w) A.in1 (eqBool items[i] x) (fun r s' => (r = true → R (.ok (.ret (.bool true))) s') ∧ (r = false → I (i + 1) s')) (fun e s' => R (.error e) s') s)
    (fin : ∀ s, I items.size s → R (.ok (.ret (.bool false))) s) {s : Shared} (hl : s.heap.get? l = some { cls := .type "tuple", dict := dd, data := .seq items n, slots := sl }) (h : I 0 s) :
    wpAny (model prog w) A.in1 (Builtin.«tuple.__contains__» ⟨[.ref l, x], []⟩) (FinOf prog w A R) (fun e s' => R (.error e) s') s := by
  have h0 := h
  obtain ⟨hp, g, d, tk, os⟩ := s
  wp_walk using wpAny_loadPart' hl, wpAny_forIn_array _ (fun rest b s' => b.1 = none ∧ ∃ i, rest = items.toList.drop i ∧ i ≤ items.size ∧ I i s') _
  case turn =>
    rintro y rest b s' ⟨hb, i, hz, hi, hI⟩
    have hlt : i < items.toList.length := by
      rcases Nat.lt_or_ge i items.toList.length with h' | h'
      · exact h'
      · rw [List.drop_of_length_le h'] at hz; cases hz
    have h1 : i < items.size := by simpa using hlt
    rw [List.drop_eq_getElem_cons hlt] at hz
    injection hz with hy hrest
    have hy : y = items[i] := by simpa using hy
    subst hy
    refine wpAny_bind (wpAny_mono (turn i h1 s' hI) (fun r s2 h2 => ?_) fun _ _ x => x)
    obtain ⟨hr, h2⟩ := h2
    cases r with
    | true =>
      have hR := hr rfl
      wp_walk
      exact hR
    | false =>
      wp_walk
      exact ⟨rfl, i + 1, hrest, h1, h2 rfl⟩
  case fin =>
    rintro ⟨b1, b2⟩ s' ⟨hb, i, hz, hi, hI⟩
    simp only at hb
    subst hb
    have hge : items.size ≤ i := by
      rcases Nat.lt_or_ge i items.toList.length with h' | h'
      · rw [List.drop_eq_getElem_cons h'] at hz; cases hz
      · simpa using h'
    have hi' : i = items.size := by omega
    have hR := fin s' (hi' ▸ hI)
    wp_walk
    exact hR
  case h => exact ⟨rfl, 0, by simp, Nat.zero_le _, h0⟩
end
section
variable {prog : Program} {w : World} {A : Around} {E : Value → Shared → Prop} {s : Shared}
/-- .. as an operator, by what is said of the container's own method -/
theorem in_own {T id : String} {B : Builtin} {c x : Value} {Q : Value → Shared → Prop} (hT : s.TypeIs c T) (slot : Slot T "__contains__" id)
    (entry : entryFor table id = some B) (args : argsOk id ⟨[c, x], []⟩)
    (h : wpAny (model prog w) A.in1 (B ⟨[c, x], []⟩) (FinOf prog w A (wants (fun v s' => ∃ b, v = .bool b ∧ Q (.bool b) s') E)) (fun e s' => wants (fun v s' => ∃ b, v = .bool b ∧ Q (.bool b) s') E (.error e) s') s) :
    wpAny (model prog w) A (compareOp .In x c) Q E s := by
  show wpAny _ _ (do return .bool (← contains c x)) Q E s
  refine wpAny_bind (wpAny_contains_slot hT slot (wpAny_mono (GQ.call_here slot hT entry args h) (fun v s' q => ?_) fun _ _ e => e))
  obtain ⟨b, rfl, q⟩ := q
  exact wpAny_pure (wpAny_pure q)
theorem notIn_own {T id : String} {B : Builtin} {c x : Value} {Q : Value → Shared → Prop} (hT : s.TypeIs c T) (slot : Slot T "__contains__" id)
    (entry : entryFor table id = some B) (args : argsOk id ⟨[c, x], []⟩)
    (h : wpAny (model prog w) A.in1 (B ⟨[c, x], []⟩) (FinOf prog w A (wants (fun v s' => ∃ b, v = .bool b ∧ Q (.bool (!b)) s') E)) (fun e s' => wants (fun v s' => ∃ b, v = .bool b ∧ Q (.bool (!b)) s') E (.error e) s') s) :
    wpAny (model prog w) A (compareOp .NotIn x c) Q E s := by
  show wpAny _ _ (do return .bool (!(← contains c x))) Q E s
  refine wpAny_bind (wpAny_contains_slot hT slot (wpAny_mono (GQ.call_here slot hT entry args h) (fun v s' q => ?_) fun _ _ e => e))
  obtain ⟨b, rfl, q⟩ := q
  exact wpAny_pure (wpAny_pure q)
end
end InG
end Rp
/-! # x in a list, a tuple of instances, by their own == -/
namespace Rp
open PySem PySem.Spec PySem.Calls PyProof.Rows L2
/-- the same value, or standing for the same one -/
def smV (a b : V) : Prop := a = b ∨ ∃ u, RelV a u ∧ RelV b u
theorem sm_ref {p q : Addr} (h : smV (.ref p) (.ref q)) : p = q := by
  rcases h with h | ⟨u, h1, h2⟩
  · cases h; rfl
  · have e1 : u = Value.ref p := h1
    have e2 : u = Value.ref q := h2
    rw [e1] at e2
    cases e2; rfl
section
variable {X : Cx} {D : Ad} {pins : List (Addr × Obj)} {σ : L2.St} {H : Hp} {s : Shared} {ι : List Addr}
mutual
theorem alk_of (I : Inv X pins σ H s) (hK : X.K = D.K) (hn : ι.Nodup) : ∀ (y x : PV) (a b : V), RV D ι H y a → RV D ι H x b → smV a b → alk y x
  | .int i, x, a, b, ry, rx, h => by
    cases x with
    | int j =>
      have e1 : a = .int i := ry
      have e2 : b = .int j := rx
      subst e1 e2
      rcases h with h | ⟨u, ⟨t1, h1⟩, ⟨t2, h2⟩⟩
      · cases h; exact rfl
      · rw [h1] at h2; cases h2; exact rfl
    | _ => exact trivial
  | .bl i, x, a, b, ry, rx, h => by
    cases x with
    | bl j =>
      have e1 : a = .bl i := ry
      have e2 : b = .bl j := rx
      subst e1 e2
      rcases h with h | ⟨u, h1, h2⟩
      · cases h; exact rfl
      · have h1 : u = Value.bool i := h1
        have h2 : u = Value.bool j := h2
        rw [h1] at h2; cases h2; exact rfl
    | _ => exact trivial
  | .str i, x, a, b, ry, rx, h => by
    cases x with
    | str j =>
      have e1 : a = .str i := ry
      have e2 : b = .str j := rx
      subst e1 e2
      rcases h with h | ⟨u, ⟨t1, h1⟩, ⟨t2, h2⟩⟩
      · cases h; exact rfl
      · rw [h1] at h2; cases h2; exact rfl
    | _ => exact trivial
  | .tup xs, x, a, b, ry, rx, h => by
    cases x with
    | tup ys =>
      obtain ⟨p, vs, rfl, hp, rvs⟩ := ry
      obtain ⟨q, ws, rfl, hq, rws⟩ := rx
      obtain rfl := sm_ref h
      rw [← hK] at hp hq
      obtain ⟨its, v1, ⟨o1, g1, c1, n1, e1⟩, _⟩ := I.tuple hp
      obtain ⟨its2, v2, ⟨o2, g2, c2, n2, e2⟩, _⟩ := I.tuple hq
      rw [g1] at g2
      cases g2
      rw [e1] at e2
      have e3 : its = its2 := by
        injection e2 with e2 _
        simpa using e2
      subst e3
      exact alks_of I hK hn xs ys vs ws rvs rws (.inr ⟨its, v1, v2⟩)
    | _ => exact trivial
  | .obj c ks vs, x, a, b, ry, rx, h => by
    cases x with
    | obj d js ws =>
      obtain ⟨p, dx, fs, rfl, np, hp, _, r1⟩ := ry
      obtain ⟨q, dy, gs, rfl, nq, hq, _, r2⟩ := rx
      obtain rfl := sm_ref h
      rw [hp] at hq
      have e : fs = gs := by
        injection hq with hq
        injection hq
      subst e
      exact alks_of I hK hn vs ws _ _ r1 r2 (.inl rfl)
    | _ => exact trivial
  | .ref i, x, a, b, ry, rx, h => by
    cases x with
    | ref j =>
      obtain ⟨p, hi, rfl⟩ := ry
      obtain ⟨q, hj, rfl⟩ := rx
      obtain rfl := sm_ref h
      obtain ⟨li, ei⟩ := List.getElem?_eq_some_iff.mp hi
      obtain ⟨lj, ej⟩ := List.getElem?_eq_some_iff.mp hj
      exact (List.getElem_inj hn).mp (ei.trans ej.symm)
    | _ => exact trivial
  | .non, _, _, _, _, _, _ => trivial
  | .scr _, _, _, _, _, _, _ => trivial
  | .ls _, _, _, _, _, _, _ => trivial
  | .fn _, _, _, _, _, _, _ => trivial
  | .cls _, _, _, _, _, _, _ => trivial
  | .ty _, _, _, _, _, _, _ => trivial
  | .dct _ _, _, _, _, _, _, _ => trivial
  | .clo _ _, _, _, _, _, _, _ => trivial
theorem alks_of (I : Inv X pins σ H s) (hK : X.K = D.K) (hn : ι.Nodup) : ∀ (ys xs : List PV) (vs ws : List V), RVs D ι H ys vs → RVs D ι H xs ws → (vs = ws ∨ ∃ us, Vals vs us ∧ Vals ws us) → alks ys xs
  | [], [], _, _, _, _, _ => trivial
  | y :: ys, x :: xs, vs, ws, ry, rx, h => by
    obtain ⟨v, r, rfl, r1, r2⟩ := ry
    obtain ⟨w, t, rfl, t1, t2⟩ := rx
    rcases h with h | ⟨us, h1, h2⟩
    · cases h
      exact ⟨alk_of I hK hn y x v v r1 t1 (.inl rfl), alks_of I hK hn ys xs r r r2 t2 (.inl rfl)⟩
    · cases h1 with
      | cons a1 b1 =>
        cases h2 with
        | cons a2 b2 => exact ⟨alk_of I hK hn y x v w r1 t1 (.inr ⟨_, a1, a2⟩), alks_of I hK hn ys xs r t r2 t2 (.inr ⟨_, b1, b2⟩)⟩
  | [], x :: xs, vs, ws, ry, rx, h => by
    obtain ⟨w, t, rfl, t1, t2⟩ := rx
    have e : vs = [] := ry
    subst e
    rcases h with h | ⟨us, h1, h2⟩
    · cases h
    · cases h1; cases h2
  | y :: ys, [], vs, ws, ry, rx, h => by
    obtain ⟨v, r, rfl, r1, r2⟩ := ry
    have e : ws = [] := rx
    subst e
    rcases h with h | ⟨us, h1, h2⟩
    · cases h
    · cases h2; cases h1
end
/-- .. by their kinds alone -/
theorem kin_of (I : Inv X pins σ H s) (hK : X.K = D.K) {y x : PV} {a b : V} (ry : RV D ι H y a) (rx : RV D ι H x b) (h : smV a b) : kin y x = true := by
  cases x with
  | obj d js ws =>
    obtain ⟨q, dy, gs, rfl, nq, hq, _, r2⟩ := rx
    have ho : s.heap.get? q = some (PySem.W.instObj (D.ca d) dy) := (I.hok _ _ hq).2.2.2.1
    cases y with
    | non =>
      have e : a = .non := ry
      subst e
      rcases h with h | ⟨u', h1, h2⟩
      · cases h
      · have h1 : u' = Value.none := h1
        have h2 : u' = Value.ref q := h2
        rw [h1] at h2; cases h2
    | bl i =>
      have e : a = .bl i := ry
      subst e
      rcases h with h | ⟨u', h1, h2⟩
      · cases h
      · have h1 : u' = Value.bool i := h1
        have h2 : u' = Value.ref q := h2
        rw [h1] at h2; cases h2
    | int i =>
      have e : a = .int i := ry
      subst e
      rcases h with h | ⟨u', ⟨t, h1⟩, h2⟩
      · cases h
      · have h2 : u' = Value.ref q := h2
        rw [h1] at h2; cases h2
    | str i =>
      have e : a = .str i := ry
      subst e
      rcases h with h | ⟨u', ⟨t, h1⟩, h2⟩
      · cases h
      · have h2 : u' = Value.ref q := h2
        rw [h1] at h2; cases h2
    | tup xs =>
      obtain ⟨p, vs, rfl, hp, rvs⟩ := ry
      obtain rfl := sm_ref h
      rw [← hK] at hp
      obtain ⟨its, v1, ⟨o1, g1, c1, n1, e1⟩, _⟩ := I.tuple hp
      rw [g1] at ho
      cases ho
      cases c1
    | ls xs =>
      obtain ⟨p, vs, rfl, ⟨o1, hp⟩, rvs⟩ := ry
      obtain rfl := sm_ref h
      rw [hp] at hq
      cases hq
    | dct ks xs =>
      obtain ⟨p, vs, rfl, ⟨o1, hp⟩, _⟩ := ry
      obtain rfl := sm_ref h
      rw [hp] at hq
      cases hq
    | _ => rfl
  | _ => rfl
end
section
variable {X : Cx} {D : Ad} {F : Fd} {T : Tab} {M : Nm} {fl : List Nat} {C : CS} {lv : Nat} {W : WX} {c : Sc} {pos : Pos}
/-- y == x by y's own ==, around A -/
theorem eq_at {A : Around} {pins : List (Addr × Obj)} {σ : L2.St} {s : Shared} {ι : List Addr} {H : Hp} {S : Store} {a b : PV} {x y : V} {v u : Value} {Qa : QV} {Q : VK} (o : Okx X D F T M fl C lv W c) (hs : (T.cls.all fun d => match d.ms.lookup nEq with
      | some f => M.has f true 1 [] [.inl 0]
      | .none => true) = true) (rm : Room lv A) (hg : A.guards = some []) (e0 : Env0 X.prog X.w X.K X.mg X.base A X.stack s H) (hu : A.units + 1 < cLine) (I : Inv X pins σ H s) (L : Ly D ι H S) (ra : RV D ι H a x) (rb : RV D ι H b y) (rx : RelV x v) (ry : RelV y u)
    (hw : wpEqO T C false a b S Qa) (cn : Cnt D ι H Qa Q) : wpAny (model X.prog X.w) A (richCompare .Eq v u) (fun r s' => ∃ k, r = .bool k ∧ EP X pins σ Q r s') X.xe s := by
  unfold wpEqO at hw
  cases hm : methOf T S a nEq with
  | none =>
    rw [hm] at hw
    obtain ⟨hk, hw⟩ := onT_ex hw
    obtain ⟨f, hm, hc⟩ := onS_ex hw
    exact rfl_at o hs rm hg e0 hu I L ra rb rx ry hk hm hc cn
  | some f =>
  rw [hm] at hw
  obtain ⟨hk, hc⟩ := onT_ex hw
  obtain ⟨k, fs, cd, es1, en, ec, em⟩ := methOf_cases hm
  obtain ⟨p, dx, fs', rfl, hp, n1, n2⟩ := ins_at L es1 ra
  obtain rfl : v = Value.ref p := rx
  obtain ⟨mA, J, _⟩ := ins_get I.hok hp
  obtain ⟨od, J, _⟩ := J.look
  obtain ⟨c1, c2, c3⟩ := o.lk.ms k cd ec
  have M1 := c2 nEq f em
  rw [dN_nEq] at M1
  have ka : knd S a = some (.ins k) := ins_knd es1
  obtain ⟨kd, ekd, hfst, hcl⟩ := eq_kind o ec ka hk
  obtain ⟨P, Z, pz, _⟩ := kit_of I ry (tyx_of o.hK L o.lk.is ekd hcl rb)
  have lk := Z.ty (model X.prog X.w) _ I.kIn pz
  obtain ⟨m, hF⟩ := I.fr
  have cn2 : Cnt D ι H (fun v S3 => isBool v fun k => Qa (.bl (if false = true then !k else k)) S3) (fun x H' => ∃ k, x = .bl k ∧ Q (.bl (if false = true then !k else k)) H') := by
    intro ι' S' H' v x e l r q
    obtain ⟨k, rfl, q⟩ := isBool_ex q
    exact ⟨k, rv_bl r, cn ι' S' H' (.bl (if false = true then !k else k)) _ e l rfl q⟩
  refine PySem.W.cmp_K (op := .Eq) (tb := kd.val D) (by omega) hF I.ok.mod.kin J lk (by rw [o.hK]; exact hfst) (by rw [o.hK]; exact M1.at_) (by rw [o.hK]; exact M1.fn) ?_
  refine wpAny_mono (own_run (A := A) o hs ec em rm hg e0 I L ra (.cons rb .nil) (.cons ry .nil) rfl hc cn2) (fun w s' z => ?_) fun _ _ e => e
  obtain ⟨x', H', I', r', k', rfl, q⟩ := z
  obtain rfl : w = Value.bool k' := r'
  exact ⟨k', rfl, .bl k', H', I', rfl, q⟩
/-- .. as what a list asks of an item: the same thing first -/
theorem eqb_at {A : Around} {pins : List (Addr × Obj)} {σ : L2.St} {s : Shared} {ι : List Addr} {H : Hp} {S : Store} {a b : PV} {x y : V} {v u : Value} {Qa : QV} {Q : VK} (o : Okx X D F T M fl C lv W c) (hs : (T.cls.all fun d => match d.ms.lookup nEq with
      | some f => M.has f true 1 [] [.inl 0]
      | .none => true) = true) (rm : Room lv A) (hg : A.guards = some []) (e0 : Env0 X.prog X.w X.K X.mg X.base A X.stack s H) (hu : A.units + 1 < cLine) (I : Inv X pins σ H s) (L : Ly D ι H S) (ra : RV D ι H a x) (rb : RV D ι H b y) (rx : RelV x v) (ry : RelV y u)
    (h1 : kin a b = true → alk a b → Qa (.bl true) S) (hw : wpEqO T C false a b S Qa) (cn : Cnt D ι H Qa Q) : wpAny (model X.prog X.w) A (eqBool v u) (fun k s' => EP X pins σ Q (.bool k) s') X.xe s := by
  have hw0 := hw
  unfold wpEqO at hw0
  cases hm : methOf T S a nEq with
  | none =>
    rw [hm] at hw0
    obtain ⟨hk, hw1⟩ := onT_ex hw0
    obtain ⟨f, hm, hc⟩ := onS_ex hw1
    obtain ⟨k, fs, cd, es1, en, ec, em⟩ := methOf_cases hm
    obtain ⟨p, dx, fs', rfl, hp, n1, n2⟩ := ins_at L es1 rb
    obtain rfl : u = Value.ref p := ry
    by_cases e : v = Value.ref p
    · have e0' : smV x (.ref p) := .inr ⟨Value.ref p, by rw [← e]; exact rx, rfl⟩
      have e1 : alk a b := alk_of I o.hK L.nd a b _ _ ra rb e0'
      have e2 := kin_of I o.hK ra rb e0'
      subst e
      exact SeqAt.EqAt.same (A := A) (s := s) (.ref p) X.prog X.w X.xe _ ⟨.bl true, H, I, rfl, cn.here L (show RV D ι H (.bl true) (.bl true) from rfl) (h1 e2 e1)⟩
    · unfold eqBool
      refine wpAny_holding ?_
      refine wpAny_ite_split (fun hab => absurd (eq_of_beq hab) e) (fun _ => ?_)
      have fin : wpAny (model X.prog X.w) A (richCompare CmpOp.Eq v (Value.ref p) >>= fun d => truthOfDropped d) (fun k s' => EP X pins σ Q (.bool k) s') X.xe s := by
        refine wpAny_bind (wpAny_mono (eq_at o hs rm hg e0 hu I L ra rb rx rfl hw cn) (fun v s' hv => ?_) fun _ _ x => x)
        obtain ⟨r, rfl, q⟩ := hv
        exact wpAny_truthy_bool q
      cases v <;> exact fin
  | some f =>
  obtain ⟨k, fs, cd, es1, en, ec, em⟩ := methOf_cases hm
  obtain ⟨p, dx, fs', rfl, hp, n1, n2⟩ := ins_at L es1 ra
  obtain rfl : v = Value.ref p := rx
  by_cases e : u = Value.ref p
  · have e0' : smV (.ref p) y := .inr ⟨Value.ref p, rfl, by rw [← e]; exact ry⟩
    have e1 : alk a b := alk_of I o.hK L.nd a b _ _ ra rb e0'
    have e2 := kin_of I o.hK ra rb e0'
    subst e
    exact SeqAt.EqAt.same (A := A) (s := s) (.ref p) X.prog X.w X.xe _ ⟨.bl true, H, I, rfl, cn.here L (show RV D ι H (.bl true) (.bl true) from rfl) (h1 e2 e1)⟩
  · unfold eqBool
    refine wpAny_holding ?_
    refine wpAny_ite_split (fun hab => absurd (eq_of_beq hab).symm e) (fun _ => ?_)
    refine wpAny_bind (wpAny_mono (eq_at o hs rm hg e0 hu I L ra rb rfl ry hw cn) (fun v s' hv => ?_) fun _ _ x => x)
    obtain ⟨r, rfl, q⟩ := hv
    exact wpAny_truthy_bool q
theorem rvs_at {D : Ad} {ι : List Addr} {H : Hp} : ∀ {ys : List PV} {vs : List V} {i : Nat} {y : PV}, RVs D ι H ys vs → ys[i]? = some y → ∃ v, vs[i]? = some v ∧ RV D ι H y v
  | [], _, _, _, _, h => by simp at h
  | y :: ys, vs, i, z, r, h => by
    obtain ⟨v, t, rfl, r1, r2⟩ := r
    cases i with
    | zero =>
      simp at h
      subst h
      exact ⟨v, rfl, r1⟩
    | succ i =>
      obtain ⟨w, hw, q⟩ := rvs_at (i := i) r2 (by simpa using h)
      exact ⟨w, by simpa using hw, q⟩
/-- a turn of it -/
theorem in_turn {A : Around} {pins : List (Addr × Obj)} {σ : L2.St} {s : Shared} {ι ι0 : List Addr} {H H0 : Hp} {S : Store} {neg : Bool} {xp y : PV} {ys : List PV} {x yv : V} {v u : Value} {Qa : QV} {Q : VK} (o : Okx X D F T M fl C lv W c) (hs : (T.cls.all fun d => match d.ms.lookup nEq with
      | some f => M.has f true 1 [] [.inl 0]
      | .none => true) = true) (rm : Room lv A) (hg : A.guards = some []) (e0 : Env0 X.prog X.w X.K X.mg X.base A X.stack s H) (hu : A.units + 1 < cLine) (I : Inv X pins σ H s) (L : Ly D ι H S) (ra : RV D ι H y yv) (rb : RV D ι H xp x) (rx : RelV yv v) (ry : RelV x u)
    (hw : inRun T C xp neg Qa (y :: ys) S) (ex : Ext ι0 H0 ι H) (cn : Cnt D ι0 H0 Qa Q) :
    wpAny (model X.prog X.w) A (eqBool v u) (fun k s' => (k = true → EP X pins σ Q (.bool (!neg)) s') ∧ (k = false → ∃ ι' S' H', Inv X pins σ H' s' ∧ Ext ι0 H0 ι' H' ∧ Ly D ι' H' S' ∧ inRun T C xp neg Qa ys S')) X.xe s := by
  obtain ⟨h1, h2⟩ := hw
  have cn2 : Cnt D ι H (fun v S' => isBool v fun k => if k = true then Qa (.bl (!neg)) S' else inRun T C xp neg Qa ys S') (fun x' H' => ∃ k, x' = V.bl k ∧ (k = true → Q (.bl (!neg)) H') ∧ (k = false → ∃ ι' S', Ext ι0 H0 ι' H' ∧ Ly D ι' H' S' ∧ inRun T C xp neg Qa ys S')) := by
    intro ι' S' H' v x e l r q
    obtain ⟨k, rfl, q⟩ := isBool_ex q
    refine ⟨k, rv_bl r, fun z => ?_, fun z => ?_⟩
    · subst z
      exact cn ι' S' H' (.bl (!neg)) _ (ex.trans e) l rfl q
    · subst z
      exact ⟨ι', S', ex.trans e, l, q⟩
  refine wpAny_mono (eqb_at o hs rm hg e0 hu I L ra rb rx ry (fun e0 e => (show Qa (.bl (!neg)) S from h1 e0 e)) h2 cn2) (fun k s' z => ?_) fun _ _ e => e
  obtain ⟨x', H', I', r', k', rfl, q1, q2⟩ := z
  obtain rfl : k = k' := by cases r'; rfl
  exact ⟨fun z => ⟨.bl (!neg), H', I', rfl, q1 z⟩, fun z => by
    obtain ⟨ι', S', e1, l1, q⟩ := q2 z
    exact ⟨ι', S', H', I', e1, l1, q⟩⟩
/-- what holds ahead of the i-th turn -/
def InI (X : Cx) (D : Ad) (T : Tab) (C : CS) (pins : List (Addr × Obj)) (σ : L2.St) (ι : List Addr) (H : Hp) (a : PV) (neg : Bool) (Qa : QV) (ys : List PV) (i : Nat) (s : Shared) : Prop :=
  ∃ ι' S' H', Inv X pins σ H' s ∧ Ext ι H ι' H' ∧ Ly D ι' H' S' ∧ inRun T C a neg Qa (ys.drop i) S'
theorem in_step {pins : List (Addr × Obj)} {σ : L2.St} {s : Shared} {ι : List Addr} {H : Hp} {neg : Bool} {a : PV} {ys : List PV} {x : V} {vs : List V} {its : List Value} {v : Value} {Qa : QV} {Q : VK} {i : Nat} (o : Okx X D F T M fl C lv W c) (hs : (T.cls.all fun d => match d.ms.lookup nEq with
      | some f => M.has f true 1 [] [.inl 0]
      | .none => true) = true) (ra : RV D ι H a x) (rx : RelV x v) (rvs : RVs D ι H ys vs) (vv : Vals vs its) (cn : Cnt D ι H Qa Q) (h : InI X D T C pins σ ι H a neg Qa ys i s) (h1 : i < its.toArray.size) :
    wpAny (model X.prog X.w) X.A.in1 (eqBool its.toArray[i] v) (fun k s' => (k = true → EP X pins σ Q (.bool (!neg)) s') ∧ (k = false → InI X D T C pins σ ι H a neg Qa ys (i + 1) s')) X.xe s := by
  obtain ⟨ι1, S1, H1, I1, e1, L1, hw⟩ := h
  have l1 := vv.length
  have l2 := rvs.len
  have hi : i < its.length := by simpa using h1
  have hy : i < ys.length := by omega
  have ed : ys.drop i = ys[i] :: ys.drop (i + 1) := List.drop_eq_getElem_cons hy
  rw [ed] at hw
  obtain ⟨yv, ev, rv⟩ := rvs_at (rvs.ext e1) (List.getElem?_eq_getElem hy)
  obtain ⟨u, eu, ru⟩ := vv.get ev
  have eu2 : its.toArray[i] = u := by
    have : its[i]? = some its[i] := List.getElem?_eq_getElem hi
    rw [this] at eu
    cases eu
    simp
  rw [eu2]
  have hu := o.room.un
  exact in_turn (A := X.A.in1) o hs o.room.in1 o.grd I1.env0.in1 (by show X.A.units + 1 + 1 < cLine; omega) I1 L1 rv (ra.ext e1) ru rx hw e1 cn
theorem op_inO {neg : Bool} (o : Okx X D F T M fl C lv W c) (hs : (T.cls.all fun d => match d.ms.lookup nEq with
      | some f => M.has f true 1 [] [.inl 0]
      | .none => true) = true) : OpR X (compareOp (if neg = true then .NotIn else .In)) (rdV2 D (wpInO T C neg)) := by
  intro pins s σ H x y v u Q I rx ry h
  obtain ⟨ι, S, a, b, Qa, L, ra, rb, hw, cn⟩ := h
  have fin : ∀ {ys : List PV} {s : Shared}, InI X D T C pins σ ι H a neg Qa ys ys.length s → EP X pins σ Q (.bool neg) s := by
    intro ys s h
    obtain ⟨ι1, S1, H1, I1, e1, L1, q⟩ := h
    rw [List.drop_length] at q
    exact ⟨.bl neg, H1, I1, rfl, cn ι1 S1 H1 (.bl neg) _ e1 L1 rfl q⟩
  match b, rb, hw with
  | .tup ys, rb, hw =>
    obtain ⟨p, vs, rfl, hp, rvs⟩ := rb
    obtain rfl : u = Value.ref p := ry
    rw [← o.hK] at hp
    obtain ⟨its, vv, ⟨⟨cls, dd, data, sl⟩, g1, c1, n1, e1⟩, _⟩ := I.tuple hp
    simp only at c1 e1
    subst c1 e1
    have l1 := vv.length
    have l2 := rvs.len
    have en : its.toArray.size = ys.length := by simp; omega
    have h0 : InI X D T C pins σ ι H a neg Qa ys 0 s := ⟨ι, S, H, I, Ext.refl, L, hw⟩
    cases neg with
    | false =>
      refine InG.in_own (T := "tuple") ⟨_, g1, rfl⟩ PySem.F.slot_tuple_contains PySem.F.entry_tuple_contains (PySem.F.args_tuple_contains_2 _ _) (InG.tuple_inG p its.toArray n1 dd sl v (InI X D T C pins σ ι H a false Qa ys) (fun i h1 s1 hI => ?_) (fun s1 hI => ?_) g1 h0)
      · exact wpAny_mono (in_step o hs ra rx rvs vv cn hI h1) (fun k s' z => ⟨fun e => ⟨true, rfl, z.1 e⟩, z.2⟩) fun _ _ e => e
      · rw [en] at hI
        exact ⟨false, rfl, fin hI⟩
    | true =>
      refine InG.notIn_own (T := "tuple") ⟨_, g1, rfl⟩ PySem.F.slot_tuple_contains PySem.F.entry_tuple_contains (PySem.F.args_tuple_contains_2 _ _) (InG.tuple_inG p its.toArray n1 dd sl v (InI X D T C pins σ ι H a true Qa ys) (fun i h1 s1 hI => ?_) (fun s1 hI => ?_) g1 h0)
      · exact wpAny_mono (in_step o hs ra rx rvs vv cn hI h1) (fun k s' z => ⟨fun e => ⟨true, rfl, z.1 e⟩, z.2⟩) fun _ _ e => e
      · rw [en] at hI
        exact ⟨false, rfl, fin hI⟩
  | .ls ys, rb, hw =>
    obtain ⟨p, vs, rfl, ⟨od, hp⟩, rvs⟩ := rb
    obtain rfl : u = Value.ref p := ry
    obtain ⟨z, its, n1, vv, g1⟩ := (show Rd H p (.lst vs) from .inr ⟨od, hp⟩).ok I.hok
    have l2 := rvs.len
    have h0 : InI X D T C pins σ ι H a neg Qa ys 0 s := ⟨ι, S, H, I, Ext.refl, L, hw⟩
    have turn : ∀ i s1, InI X D T C pins σ ι H a neg Qa ys i s1 → ∃ (items : Array Value) (n : Nat) (dd : Option Addr) (sl : Array (Option Value)), s1.heap.get? p = some { cls := .type "list", dict := dd, data := .seq items n, slots := sl } ∧ items.size = ys.length ∧
        ∀ (h1 : i < items.size), wpAny (model X.prog X.w) X.A.in1 (eqBool items[i] v) (fun k s' => (k = true → EP X pins σ Q (.bool (!neg)) s') ∧ (k = false → InI X D T C pins σ ι H a neg Qa ys (i + 1) s')) X.xe s1 := by
      intro i s1 hI
      have hI0 := hI
      obtain ⟨ι1, S1, H1, I1, e1, L1, q⟩ := hI0
      have hp1 : H1 p = some (.frz od (.lst vs)) := e1.imm p _ hp trivial
      obtain ⟨z, its1, n2, vv1, g2⟩ := (show Rd H1 p (.lst vs) from .inr ⟨od, hp1⟩).ok I1.hok
      have l1 := vv1.length
      exact ⟨its1.toArray, n2, _, _, g2, by simp; omega, fun h1 => in_step o hs ra rx rvs vv1 cn hI h1⟩
    cases neg with
    | false =>
      refine InG.in_own (T := "list") ⟨_, g1, rfl⟩ PySem.F.slot_list_contains PySem.F.entry_list_contains (PySem.F.args_list_contains_2 _ _) (InG.list_inG p ys.length v (InI X D T C pins σ ι H a false Qa ys) (fun i s1 hI => ?_) (fun s1 hI => ⟨false, rfl, fin hI⟩) h0)
      obtain ⟨items, n, dd, sl, g, hz, t⟩ := turn i s1 hI
      exact ⟨items, n, dd, sl, g, hz, fun h1 => wpAny_mono (t h1) (fun k s' z => ⟨fun e => ⟨true, rfl, z.1 e⟩, z.2⟩) fun _ _ e => e⟩
    | true =>
      refine InG.notIn_own (T := "list") ⟨_, g1, rfl⟩ PySem.F.slot_list_contains PySem.F.entry_list_contains (PySem.F.args_list_contains_2 _ _) (InG.list_inG p ys.length v (InI X D T C pins σ ι H a true Qa ys) (fun i s1 hI => ?_) (fun s1 hI => ⟨false, rfl, fin hI⟩) h0)
      obtain ⟨items, n, dd, sl, g, hz, t⟩ := turn i s1 hI
      exact ⟨items, n, dd, sl, g, hz, fun h1 => wpAny_mono (t h1) (fun k s' z => ⟨fun e => ⟨true, rfl, z.1 e⟩, z.2⟩) fun _ _ e => e⟩
  | .non, rb, hw => exact (show False from hw).elim
  | .bl _, rb, hw => exact (show False from hw).elim
  | .int _, rb, hw => exact (show False from hw).elim
  | .str _, rb, hw => exact (show False from hw).elim
  | .scr _, rb, hw => exact (show False from hw).elim
  | .ref _, rb, hw => exact (show False from hw).elim
  | .fn _, rb, hw => exact (show False from hw).elim
  | .cls _, rb, hw => exact (show False from hw).elim
  | .ty _, rb, hw => exact (show False from hw).elim
  | .obj _ _ _, rb, hw => exact (show False from hw).elim
  | .dct _ _, rb, hw => exact (show False from hw).elim
theorem s_inO {neg : Bool} {op : CmpOp} {a b : RE} {l r : Expr} (o : Okx X D F T M fl C lv W c) (ho : op = if neg = true then .NotIn else .In) (hm : behindInMarks op r = false) (hs : (T.cls.all fun d => match d.ms.lookup nEq with
      | some f => M.has f true 1 [] [.inl 0]
      | .none => true) = true) (ha : PE X l (rdE D T C W a)) (hb : PE X r (rdE D T C W b)) : PE X (.Compare l [op] [r] pos) (rdE D T C W (.inO neg a b)) := by
  subst ho
  refine PE.imp (pe_cmpR (op_inO (neg := neg) o hs) ha hb hm) fun σc H Q z => ?_
  obtain ⟨ι, S, σ, Qa, Ra, L, G, hw, cn, cx⟩ := z
  refine ⟨ι, S, σ, _, Ra, L, G, hw, fun ι1 S1 H1 v x e1 L1 r1 q1 => ?_, cx⟩
  refine ⟨ι1, S1, σ, _, Ra, L1, G.ext e1, q1, fun ι2 S2 H2 w y e2 L2' r2 q2 => ?_, cx.ext e1⟩
  exact ⟨ι2, S2, v, w, Qa, L2', r1.ext e2, r2, q2, cn.ext (e1.trans e2)⟩
theorem t_inO {neg : Bool} {op : CmpOp} {a b : RE} {l r : Expr} (o : Okx X D F T M fl C lv W c) (ho : op = if neg = true then .NotIn else .In) (hm : behindInMarks op r = false) (hs : (T.cls.all fun d => match d.ms.lookup nEq with
      | some f => M.has f true 1 [] [.inl 0]
      | .none => true) = true) (ha : PE X l (rdE D T C W a)) (hb : PE X r (rdE D T C W b)) : PT X (.Compare l [op] [r] pos) (rdT D T C W (.inO neg a b)) := by
  subst ho
  refine PT.imp (pt_cmpR (op_inO (neg := neg) o hs) ha hb hm) fun σc H Q z => ?_
  obtain ⟨ι, S, σ, Qb, Ra, L, G, hw, cn, cx⟩ := z
  refine ⟨ι, S, σ, _, Ra, L, G, hw, fun ι1 S1 H1 v x e1 L1 r1 q1 => ?_, cx⟩
  refine ⟨ι1, S1, σ, _, Ra, L1, G.ext e1, q1, fun ι2 S2 H2 w y e2 L2' r2 q2 => ?_, cx.ext e1⟩
  refine ⟨ι2, S2, v, w, (fun u S3 => isBool u fun k => Qb k S3), L2', r1.ext e2, r2, q2, fun ι3 S3 H3 u y3 e3 L3 r3 q3 => ?_⟩
  obtain ⟨k, rfl, q⟩ := isBool_ex q3
  obtain rfl := rv_bl r3
  exact ⟨k, rfl, (cn.ext ((e1.trans e2).trans e3)).here L3 q⟩
end
end Rp
/-! # == of two tuples where an item's == may be a text's own: the state goes on from item to item -/
namespace Rp
namespace TuG
open PySem PySem.SeqAt
open AutoSeq1 (wpAny_loadPart')
open MeetsSeq MeetsSeq2 MeetsSeq3 SeqRoads2
open GQ (FinOf)
section
variable {prog : Program} {w : World} {A : Around} {R : Result → Shared → Prop}
theorem tuple_eqB (l b : Addr) (items items2 : Array Value) (n n2 : Nat) (dd dd2 : Option Addr) (sl sl2 : Array (Option Value)) (hsz : items.size = items2.size) (I : Nat → Shared → Prop)
    (turn : ∀ i (h1 : i < items.size) (h2 : i < items2.size) s, I i s → wpAny (model prog w) A.in1 (eqBool items[i] items2[i]) (fun r s' => (r = true → I (i + 1) s') ∧ (r = false → R (.ok (.ret (.bool false))) s')) (fun e s' => R (.error e) s') s)
    (fin : ∀ s, I items.size s → R (.ok (.ret (.bool true))) s) {s : Shared} (hl1 : s.heap.get? l = some { cls := .type "tuple", dict := dd, data := .seq items n, slots := sl }) (hb1 : s.heap.get? b = some { cls := .type "tuple", dict := dd2, data := .seq items2 n2, slots := sl2 }) (h : I 0 s) :
    wpAny (model prog w) A.in1 (Builtin.«tuple.__eq__» ⟨[.ref l, .ref b], []⟩) (FinOf prog w A R) (fun e s' => R (.error e) s') s := by
  have f2 := AutoSeq1.sub_tuple_tuple
  have hZ : (items.toList.zip items2.toList).length = items.size := by simp [hsz]
  have h0 := h
  obtain ⟨hp, g, d, tk, os⟩ := s
  wp_walk using AutoSeq1.wpAny_loadPart' hl1, AutoSeq1.wpAny_loadPart' hb1, wpAny_forIn_list _ (fun rest b s' => b.1 = none ∧ ∃ i, rest = (items.toList.zip items2.toList).drop i ∧ i ≤ items.size ∧ I i s') _
  case turn =>
    rintro ⟨y, x⟩ rest b s' ⟨hb', i, hz, hi, hI⟩
    have hlt : i < (items.toList.zip items2.toList).length := by
      rcases Nat.lt_or_ge i (items.toList.zip items2.toList).length with h' | h'
      · exact h'
      · rw [List.drop_of_length_le h'] at hz; cases hz
    have h1 : i < items.size := hZ ▸ hlt
    have h2 : i < items2.size := hsz ▸ h1
    rw [List.drop_eq_getElem_cons hlt] at hz
    injection hz with hyx hrest
    have hy : y = items[i] := by have := congrArg Prod.fst hyx; simpa using this
    have hx : x = items2[i] := by have := congrArg Prod.snd hyx; simpa using this
    subst hy hx
    refine wpAny_bind (wpAny_mono (turn i h1 h2 s' hI) (fun r s2 q2 => ?_) fun _ _ x => x)
    obtain ⟨q2, q3⟩ := q2
    cases r with
    | true =>
      wp_walk
      exact ⟨rfl, i + 1, hrest, h1, q2 rfl⟩
    | false =>
      have hF := q3 rfl
      wp_walk
      exact hF
  case fin =>
    rintro ⟨b1, b2⟩ s' ⟨hb', i, hz, hi, hI⟩
    simp only at hb'
    subst hb'
    have hge : items.size ≤ i := by
      rcases Nat.lt_or_ge i (items.toList.zip items2.toList).length with h' | h'
      · rw [List.drop_eq_getElem_cons h'] at hz; cases hz
      · exact hZ ▸ h'
    have hi' : i = items.size := by omega
    have hR : R (.ok (.ret (.bool true))) s' := fin s' (hi' ▸ hI)
    wp_walk
    simpa [Builtin.Tuple.tupleCompareSizes, hsz] using hR
  case h =>
    exact ⟨rfl, 0, rfl, Nat.zero_le _, h0⟩
theorem rc_tupB {E : Value → Shared → Prop} {s : Shared} {l b : Addr} {items items2 : Array Value} {n n2 : Nat} {dd dd2 : Option Addr} {sl sl2 : Array (Option Value)} {Q : Value → Shared → Prop} (hsz : items.size = items2.size) (hu : A.units < cLine) (I : Nat → Shared → Prop)
    (ho : s.heap.get? l = some { cls := .type "tuple", dict := dd, data := .seq items n, slots := sl }) (ho2 : s.heap.get? b = some { cls := .type "tuple", dict := dd2, data := .seq items2 n2, slots := sl2 })
    (turn : ∀ i (h1 : i < items.size) (h2 : i < items2.size) s, I i s → wpAny (model prog w) A.in1 (eqBool items[i] items2[i]) (fun r s' => (r = true → I (i + 1) s') ∧ (r = false → Q (.bool false) s')) E s)
    (fin : ∀ s, I items.size s → Q (.bool true) s) (h : I 0 s) : wpAny (model prog w) A (richCompare .Eq (.ref l) (.ref b)) Q E s := by
  refine wpAny_richCompare_same_room (op := .Eq) ⟨_, ho, rfl⟩ ⟨_, ho2, rfl⟩ PySem.F.slot_tuple_eq (GQ.call_here PySem.F.slot_tuple_eq ⟨_, ho, rfl⟩ PySem.F.entry_tuple_eq (PySem.F.args_tuple_eq_2 _ _) ?_) hu
  exact tuple_eqB (R := wants (fun v s' => v ≠ .notImplemented ∧ Q v s') E) l b items items2 n n2 dd dd2 sl sl2 hsz I (fun i h1 h2 s' hI => wpAny_mono (turn i h1 h2 s' hI) (fun r s2 z => ⟨z.1, fun e => ⟨(fun x => nomatch x), z.2 e⟩⟩) fun _ _ e => e) (fun s' q => ⟨(fun x => nomatch x), fin s' q⟩) ho ho2 h
end
end TuG
end Rp
/-! # == of two tuples with things in them that have an == of their own -/
namespace Rp
open PySem PySem.Spec PySem.Calls PyProof.Rows L2
section
variable {X : Cx} {D : Ad} {F : Fd} {T : Tab} {M : Nm} {fl : List Nat} {C : CS} {lv : Nat} {W : WX} {c : Sc} {pos : Pos}
theorem it_turn {A : Around} {pins : List (Addr × Obj)} {σ : L2.St} {s : Shared} {ι ι0 : List Addr} {H H0 : Hp} {S : Store} {a b : PV} {x y : V} {v u : Value} {K : Bool → Store → Prop} (o : Okx X D F T M fl C lv W c) (hs : (T.cls.all fun d => match d.ms.lookup nEq with
      | some f => M.has f true 1 [] [.inl 0]
      | .none => true) = true) (rm : Room lv A) (hg : A.guards = some []) (e0 : Env0 X.prog X.w X.K X.mg X.base A X.stack s H) (hu : A.units + 1 < cLine) (I : Inv X pins σ H s) (L : Ly D ι H S) (ra : RV D ι H a x) (rb : RV D ι H b y) (rx : RelV x v) (ry : RelV y u)
    (hw : eqIt T C a b S K) (ex : Ext ι0 H0 ι H) :
    wpAny (model X.prog X.w) A (eqBool v u) (fun k s' => ∃ ι' S' H', Inv X pins σ H' s' ∧ Ext ι0 H0 ι' H' ∧ Ly D ι' H' S' ∧ K k S') X.xe s := by
  unfold eqIt at hw
  split at hw
  · rename_i i j
    obtain rfl := rv_int ra
    obtain rfl := rv_int rb
    obtain ⟨t, rfl⟩ : ∃ t, v = Value.int i t := rx
    obtain ⟨t', rfl⟩ : ∃ t, u = Value.int j t := ry
    have e : (i == j) = decide (i = j) := by by_cases h : i = j <;> simp [h]
    exact SeqAt.EqAt.int_int (A := A) (s := s) i t j t' X.prog X.w X.xe _ ⟨ι, S, H, I, ex, L, by rw [e]; exact hw⟩
  · obtain ⟨h1, h2⟩ := hw
    have cn2 : Cnt D ι H (fun v S' => isBool v fun k => K k S') (fun x' H' => ∃ k, x' = V.bl k ∧ ∃ ι' S', Ext ι0 H0 ι' H' ∧ Ly D ι' H' S' ∧ K k S') := by
      intro ι' S' H' v x e l r q
      obtain ⟨k, rfl, q⟩ := isBool_ex q
      exact ⟨k, rv_bl r, ι', S', ex.trans e, l, q⟩
    refine wpAny_mono (eqb_at o hs rm hg e0 hu I L ra rb rx ry (fun _ e => (show K true S from h1 e)) h2 cn2) (fun k s' z => ?_) fun _ _ e => e
    obtain ⟨x', H', I', r', k', rfl, ι', S', e1, l1, q⟩ := z
    obtain rfl : k = k' := by cases r'; rfl
    exact ⟨ι', S', H', I', e1, l1, q⟩
def EqI (X : Cx) (D : Ad) (T : Tab) (C : CS) (pins : List (Addr × Obj)) (σ : L2.St) (ι : List Addr) (H : Hp) (Qa : QV) (xs ys : List PV) (i : Nat) (s : Shared) : Prop :=
  ∃ ι' S' H', Inv X pins σ H' s ∧ Ext ι H ι' H' ∧ Ly D ι' H' S' ∧ eqRun T C Qa (xs.drop i) (ys.drop i) S'
theorem at_val {D : Ad} {ι : List Addr} {H : Hp} {ys : List PV} {vs : List V} {its : List Value} {i : Nat} (rvs : RVs D ι H ys vs) (vv : Vals vs its) (hy : i < ys.length) (h1 : i < its.toArray.size) : ∃ yv, RV D ι H ys[i] yv ∧ RelV yv its.toArray[i] := by
  obtain ⟨yv, ev, rv⟩ := rvs_at rvs (List.getElem?_eq_getElem hy)
  obtain ⟨u, eu, ru⟩ := vv.get ev
  have hi : i < its.length := by simpa using h1
  have eu2 : its.toArray[i] = u := by
    have : its[i]? = some its[i] := List.getElem?_eq_getElem hi
    rw [this] at eu
    cases eu
    simp
  exact ⟨yv, rv, by rw [eu2]; exact ru⟩
theorem op_eqP (o : Okx X D F T M fl C lv W c) (hs : (T.cls.all fun d => match d.ms.lookup nEq with
      | some f => M.has f true 1 [] [.inl 0]
      | .none => true) = true) : OpR X (compareOp .Eq) (rdV2 D (wpEqP T C)) := by
  intro pins s σ H x y v u Q I rx ry h
  obtain ⟨ι, S, a, b, Qa, L, ra, rb, hw, cn⟩ := h
  have hw2 : wpEqP T C a b S Qa := hw
  unfold wpEqP at hw2
  clear hw
  split at hw2
  · rename_i xs ys
    obtain ⟨hl, hw⟩ := onT_ex hw2
    have hl : xs.length = ys.length := of_decide_eq_true hl
    obtain ⟨p, vs, rfl, hp, rvs⟩ := rv_tup ra
    obtain ⟨p2, vs2, rfl, hp2, rvs2⟩ := rv_tup rb
    obtain rfl : v = Value.ref p := rx
    obtain rfl : u = Value.ref p2 := ry
    rw [← o.hK] at hp hp2
    obtain ⟨its, vv, ⟨⟨cls, dd, data, sl⟩, g1, c1, n1, e1⟩, _⟩ := I.tuple hp
    obtain ⟨its2, vv2, ⟨⟨cls2, dd2, data2, sl2⟩, g2, c2, n2, e2⟩, _⟩ := I.tuple hp2
    simp only at c1 e1 c2 e2
    subst c1 e1 c2 e2
    have l1 := vv.length
    have l2 := rvs.len
    have l3 := vv2.length
    have l4 := rvs2.len
    have hu := o.room.un
    show wpAny (model X.prog X.w) X.A (richCompare .Eq (.ref p) (.ref p2)) (EP X pins σ Q) X.xe s
    refine TuG.rc_tupB (I := EqI X D T C pins σ ι H Qa xs ys) (by simp; omega) (by omega) g1 g2 (fun i h1 h2 s1 hI => ?_) (fun s1 hI => ?_) ⟨ι, S, H, I, Ext.refl, L, hw⟩
    · obtain ⟨ι1, S1, H1, I1, e1, L1, hw⟩ := hI
      have hx : i < xs.length := by have : i < its.length := by simpa using h1
                                    omega
      have hy : i < ys.length := by omega
      rw [List.drop_eq_getElem_cons hx, List.drop_eq_getElem_cons hy] at hw
      have hw : eqIt T C xs[i] ys[i] S1 (fun k S' => if k = true then eqRun T C Qa (xs.drop (i + 1)) (ys.drop (i + 1)) S' else Qa (.bl false) S') := hw
      obtain ⟨xv, rv, rl⟩ := at_val (rvs.ext e1) vv hx h1
      obtain ⟨yv, rv2, rl2⟩ := at_val (rvs2.ext e1) vv2 hy h2
      refine wpAny_mono (it_turn (A := X.A.in1) o hs o.room.in1 o.grd I1.env0.in1 (by show X.A.units + 1 + 1 < cLine; omega) I1 L1 rv rv2 rl rl2 hw e1) (fun k s' z => ?_) fun _ _ e => e
      obtain ⟨ι2, S2, H2, I2, e2, L2', q⟩ := z
      refine ⟨fun e => ?_, fun e => ?_⟩
      · subst e
        exact ⟨ι2, S2, H2, I2, e2, L2', q⟩
      · subst e
        exact ⟨.bl false, H2, I2, rfl, cn ι2 S2 H2 (.bl false) _ e2 L2' rfl q⟩
    · obtain ⟨ι1, S1, H1, I1, e1, L1, hw⟩ := hI
      have e0 : its.toArray.size = xs.length := by simp; omega
      rw [e0, List.drop_length] at hw
      exact ⟨.bl true, H1, I1, rfl, cn ι1 S1 H1 (.bl true) _ e1 L1 rfl hw⟩
  · exact hw2.elim
theorem s_eqP {a b : RE} {l r : Expr} (o : Okx X D F T M fl C lv W c) (hm : behindInMarks .Eq r = false) (hs : (T.cls.all fun d => match d.ms.lookup nEq with
      | some f => M.has f true 1 [] [.inl 0]
      | .none => true) = true) (ha : PE X l (rdE D T C W a)) (hb : PE X r (rdE D T C W b)) : PE X (.Compare l [.Eq] [r] pos) (rdE D T C W (.eqP a b)) := by
  refine PE.imp (pe_cmpR (op_eqP o hs) ha hb hm) fun σc H Q z => ?_
  obtain ⟨ι, S, σ, Qa, Ra, L, G, hw, cn, cx⟩ := z
  refine ⟨ι, S, σ, _, Ra, L, G, hw, fun ι1 S1 H1 v x e1 L1 r1 q1 => ?_, cx⟩
  refine ⟨ι1, S1, σ, _, Ra, L1, G.ext e1, q1, fun ι2 S2 H2 w y e2 L2' r2 q2 => ?_, cx.ext e1⟩
  exact ⟨ι2, S2, v, w, Qa, L2', r1.ext e2, r2, q2, cn.ext (e1.trans e2)⟩
end
end Rp
/-! # A list, whatever in it, against a written empty list -/
namespace Rp
open PySem PySem.Spec PySem.Calls PyProof.Rows L2
section
variable {X : Cx} {D : Ad} {F : Fd} {T : Tab} {M : Nm} {fl : List Nat} {C : CS} {lv : Nat} {W : WX} {c : Sc} {pos : Pos}
theorem op_eqE {neg : Bool} (o : Okx X D F T M fl C lv W c) : OpR X (compareOp (if neg = true then .NotEq else .Eq)) (rdV2 D (wpEqE neg)) := by
  intro pins s σ H x y v u Q I rx ry h
  obtain ⟨ι, S, a, b, Qa, L, ra, rb, hw, cn⟩ := h
  have hw : wpEqE neg a b S Qa := hw
  unfold wpEqE at hw
  obtain ⟨xs, e, hw⟩ := onS_ex hw
  match b, rb, hw with
  | .ls [], rb, hw =>
    obtain ⟨p, vs, rfl, hq, t⟩ := lst_at L e ra
    obtain ⟨p2, vs2, rfl, ⟨od, hq2⟩, t2⟩ := rv_ls rb
    have e2 : vs2 = [] := t2
    subst e2
    obtain rfl : v = Value.ref p := rx
    obtain rfl : u = Value.ref p2 := ry
    obtain ⟨its, rv, hl, _⟩ := I.list (by rw [o.hK]; exact hq)
    obtain ⟨its2, rv2, hl2, _⟩ := I.list (xs := []) (.inl (.inr ⟨od, hq2⟩))
    cases rv2
    have hu := o.room.un
    have hu : X.A.units < cLine := by omega
    have hlen := rv.length
    have tl := t.len
    have fin : ∀ k : Bool, Qa (.bl k) S → EP X pins σ Q (.bool k) s := fun k q => ⟨.bl k, H, I, rfl, cn.here L (show RV D ι H (.bl k) (.bl k) from rfl) q⟩
    cases xs with
    | nil =>
      have e3 : vs = [] := t
      subst e3
      cases rv
      cases neg with
      | true => exact SeqAt.RcNeAt.lists (e := fun _ => true) hl.isList hl2.isList rfl hu (fun j h1 => by simp at h1) _ _ _ _ (fin _ hw)
      | false => exact SeqAt.RcAt.lists (e := fun _ => true) hl.isList hl2.isList rfl hu (fun j h1 => by simp at h1) _ _ _ _ (fin _ hw)
    | cons y ys =>
      have hz : (its.toArray.size != ([] : List Value).toArray.size) = true := by
        rw [List.length_cons] at tl
        have : its.length ≠ 0 := by omega
        simpa using this
      cases neg with
      | true => exact SeqAt.RcNeAt.lists_lengths hl.isList hl2.isList hz hu _ _ _ _ (fin _ hw)
      | false => exact SeqAt.RcAt.lists_lengths hl.isList hl2.isList hz hu _ _ _ _ (fin _ hw)
  | .ls (_ :: _), _, hw => exact hw.elim
  | .non, _, hw => exact hw.elim
  | .bl _, _, hw => exact hw.elim
  | .int _, _, hw => exact hw.elim
  | .str _, _, hw => exact hw.elim
  | .tup _, _, hw => exact hw.elim
  | .scr _, _, hw => exact hw.elim
  | .ref _, _, hw => exact hw.elim
  | .fn _, _, hw => exact hw.elim
  | .cls _, _, hw => exact hw.elim
  | .ty _, _, hw => exact hw.elim
  | .obj _ _ _, _, hw => exact hw.elim
  | .dct _ _, _, hw => exact hw.elim
theorem s_eqE {neg : Bool} {op : CmpOp} {a b : RE} {l r : Expr} (o : Okx X D F T M fl C lv W c) (ho : op = if neg = true then .NotEq else .Eq) (hm : behindInMarks op r = false) (ha : PE X l (rdE D T C W a)) (hb : PE X r (rdE D T C W b)) : PE X (.Compare l [op] [r] pos) (rdE D T C W (.eqE neg a b)) := by
  subst ho
  refine PE.imp (pe_cmpR (op_eqE (neg := neg) o) ha hb hm) fun σc H Q z => ?_
  obtain ⟨ι, S, σ, Qa, Ra, L, G, hw, cn, cx⟩ := z
  refine ⟨ι, S, σ, _, Ra, L, G, hw, fun ι1 S1 H1 v x e1 L1 r1 q1 => ?_, cx⟩
  refine ⟨ι1, S1, σ, _, Ra, L1, G.ext e1, q1, fun ι2 S2 H2 w y e2 L2' r2 q2 => ?_, cx.ext e1⟩
  exact ⟨ι2, S2, v, w, Qa, L2', r1.ext e2, r2, q2, cn.ext (e1.trans e2)⟩
theorem t_eqE {neg : Bool} {op : CmpOp} {a b : RE} {l r : Expr} (o : Okx X D F T M fl C lv W c) (ho : op = if neg = true then .NotEq else .Eq) (hm : behindInMarks op r = false) (ha : PE X l (rdE D T C W a)) (hb : PE X r (rdE D T C W b)) : PT X (.Compare l [op] [r] pos) (rdT D T C W (.eqE neg a b)) := by
  subst ho
  refine PT.imp (pt_cmpR (op_eqE (neg := neg) o) ha hb hm) fun σc H Q z => ?_
  obtain ⟨ι, S, σ, Qb, Ra, L, G, hw, cn, cx⟩ := z
  refine ⟨ι, S, σ, _, Ra, L, G, hw, fun ι1 S1 H1 v x e1 L1 r1 q1 => ?_, cx⟩
  refine ⟨ι1, S1, σ, _, Ra, L1, G.ext e1, q1, fun ι2 S2 H2 w y e2 L2' r2 q2 => ?_, cx.ext e1⟩
  refine ⟨ι2, S2, v, w, (fun u S3 => isBool u fun k => Qb k S3), L2', r1.ext e2, r2, q2, fun ι3 S3 H3 u y3 e3 L3 r3 q3 => ?_⟩
  obtain ⟨k, rfl, q⟩ := isBool_ex q3
  obtain rfl := rv_bl r3
  exact ⟨k, rfl, (cn.ext ((e1.trans e2).trans e3)).here L3 q⟩
end
end Rp
/-! # s.join(texts) -/
namespace Rp
open PySem PySem.Spec PySem.Calls PyProof.Rows L2
section
variable {X : Cx} {D : Ad} {F : Fd} {T : Tab} {M : Nm} {fl : List Nat} {C : CS} {lv : Nat} {W : WX} {c : Sc} {pos : Pos}
theorem strs_at {ι : List Addr} {H : Hp} : ∀ {xs : List PV} {ys : List Str} {vs : List V}, strsOf xs = some ys → RVs D ι H xs vs → vs = ys.map V.str
  | [], ys, vs, e, t => by
    cases e
    exact t
  | x :: xs, ys, vs, e, t => by
    cases x with
    | str s =>
      obtain ⟨zs, ez, rfl⟩ := Option.map_eq_some_iff.mp (show (strsOf xs).map (s :: ·) = some ys from e)
      obtain ⟨y, ws, rfl, r, rs⟩ := t
      rw [strs_at ez rs, rv_str r]
      rfl
    | _ => cases e
theorem s_join {a b : RE} {e r : Expr} {apos : Pos} (o : Okx X D F T M fl C lv W c) (hb : notSuper e = true) (hline : (apos.endLine == pos.line) = true) (hn : noStar [r] = true) (ha : PE X e (rdE D T C W a)) (hr : PE X r (rdE D T C W b)) :
    PE X (.Call (.Attribute e "join" apos) [r] [] pos) (rdE D T C W (.join a b)) := by
  refine PE.imp (pe_join ha hr (noStar_cons (env := X.env) hn).1 (base_of hb _) hline) fun σc H Q z => ?_
  obtain ⟨ι, S, σ, Qa, Ra, L, G, hw, cn, cx⟩ := z
  refine ⟨ι, S, σ, _, Ra, L, G, hw, fun ι1 S1 H1 v x e1 L1 r1 q1 => ?_, cx⟩
  cases v with
  | str s =>
    obtain rfl := rv_str r1
    refine ⟨⟨s, rfl⟩, ι1, S1, σ, _, Ra, L1, G.ext e1, q1, fun ι2 S2 H2 w y e2 L2' r2 q2 => ?_, cx.ext e1⟩
    obtain ⟨xs, ex, q2⟩ := onS_ex (show wpJoin s w S2 Qa from q2)
    obtain ⟨ys, ey, q2⟩ := onS_ex q2
    obtain ⟨hl, q⟩ := onT_ex q2
    obtain ⟨p, vs, rfl, hq, t⟩ := ls_at L2' ex r2
    obtain rfl := strs_at ey t
    exact ⟨s, p, ys, rfl, rfl, .inl (.inl hq), of_decide_eq_true hl, (cn.ext (e1.trans e2)).here L2' (show RV D ι2 H2 (.str _) (.str _) from rfl) q⟩
  | _ => exact q1.elim
theorem rvs_strs {ι : List Addr} {H : Hp} : ∀ l : List Str, RVs D ι H (l.map .str) (l.map V.str)
  | [] => rfl
  | k :: l => ⟨_, _, rfl, rfl, rvs_strs l⟩
theorem s_split {m : Bool} {a b : RE} {e r : Expr} {apos : Pos} (o : Okx X D F T M fl C lv W c) (hb : notSuper e = true) (hline : (apos.endLine == pos.line) = true) (hn : noStar [r] = true) (ha : PE X e (rdE D T C W a)) (hr : PE X r (rdE D T C W b)) :
    PE X (.Call (.Attribute e "split" apos) [r] [] pos) (rdE D T C W (.split m a b)) := by
  refine PE.imp (pe_fzB m (pe_split ha hr (noStar_cons (env := X.env) hn).1 (base_of hb _) hline)) fun σc H Q z => ?_
  obtain ⟨ι, S, σ, Qa, Ra, L, G, hw, cn, cx⟩ := z
  refine ⟨ι, S, σ, _, Ra, L, G, hw, fun ι1 S1 H1 v x e1 L1 r1 q1 => ?_, cx⟩
  cases v with
  | str s =>
    obtain rfl := rv_str r1
    refine ⟨⟨s, rfl⟩, ι1, S1, σ, _, Ra, L1, G.ext e1, q1, fun ι2 S2 H2 w y e2 L2' r2 q2 => ?_, cx.ext e1⟩
    cases w with
    | str t =>
      obtain rfl := rv_str r2
      obtain ⟨hl, q⟩ := onT_ex (show onT (!(t.length == 0) && decide (s.length + 2 ≤ lim)) (newL m ((Txt.split s t).map .str) S2 Qa) from q2)
      rw [Bool.and_eq_true, Bool.not_eq_true'] at hl
      refine ⟨s, t, rfl, rfl, hl.1, by rw [sizeLine_eq]; exact of_decide_eq_true hl.2, fun p hp => ?_⟩
      exact (cn.ext (e1.trans e2)).new L2' hp (rvs_strs _) q
    | _ => exact q2.elim
  | _ => exact q1.elim
theorem ix_T : IxR X (rdV2 D wpSubT) := by
  intro value slice pins s σ H x y v u Q I rx ry h hs
  obtain ⟨ι, S, a, b, Qa, L, ra, rb, hw, c⟩ := h
  cases a with
  | str z =>
    cases b with
    | int i =>
      obtain rfl := rv_str ra
      obtain rfl := rv_int rb
      obtain ⟨hl, q⟩ := onT_ex (show onT (decide (z.length ≤ lim)) (onS (L2.atI z.cps.toList i) fun c => Qa (.str ⟨#[c]⟩) S) from hw)
      obtain ⟨k, e, q⟩ := onS_ex q
      exact ix_str value slice pins s σ H _ _ v u Q I rx ry ⟨z, i, k, rfl, rfl, by rw [sizeLine_eq]; exact of_decide_eq_true hl, e, c.here L (show RV D ι H (.str _) (.str _) from rfl) q⟩ hs
    | _ => exact (show False from hw).elim
  | _ => exact (show False from hw).elim
theorem s_subT {o' i' : RE} {e k : Expr} (h : isSlice k = false) (ha : PE X e (rdE D T C W o')) (hb : PE X k (rdE D T C W i')) : PE X (.Subscript e k pos) (rdE D T C W (.subT o' i')) := by
  refine PE.imp (pe_ix (ix_T (D := D)) ha hb (plainIx h)) fun σc H Q z => ?_
  obtain ⟨ι, S, σ, Qa, Ra, L, G, hw, cn, cx⟩ := z
  refine ⟨ι, S, σ, _, Ra, L, G, hw, fun ι1 S1 H1 v x e1 L1 r1 q1 => ?_, cx⟩
  refine ⟨ι1, S1, σ, _, Ra, L1, G.ext e1, q1, fun ι2 S2 H2 w y e2 L2' r2 q2 => ?_, cx.ext e1⟩
  exact ⟨ι2, S2, v, w, Qa, L2', r1.ext e2, r2, q2, cn.ext (e1.trans e2)⟩
theorem op_inT : OpR X (compareOp .In) (rdV2 D wpInT) := by
  intro pins s σ H x y v u Q I rx ry h
  obtain ⟨ι, S, a, b, Qa, L, ra, rb, hw, c⟩ := h
  cases a with
  | str z =>
    cases b with
    | str w =>
      obtain rfl := rv_str ra
      obtain rfl := rv_str rb
      have hw : (match z.cps.toList with
        | [k] => Qa (.bl (decide (k ∈ w.cps.toList))) S
        | _ => False) := hw
      cases ez : z.cps.toList with
      | nil => rw [ez] at hw; exact hw.elim
      | cons k r =>
        cases r with
        | cons _ _ => rw [ez] at hw; exact hw.elim
        | nil =>
          rw [ez] at hw
          have e : z = ⟨#[k]⟩ := Str.ext' (Array.toList_inj.mp ez)
          subst e
          exact op_in_sign pins s σ H _ _ v u Q I rx ry ⟨k, w, rfl, rfl, c.here L (show RV D ι H (.bl _) (.bl _) from rfl) hw⟩
    | _ => exact (show False from hw).elim
  | _ => exact (show False from hw).elim
theorem s_inT {op : CmpOp} {a b : RE} {l r : Expr} (ho : op = .In) (hm : behindInMarks op r = false) (ha : PE X l (rdE D T C W a)) (hb : PE X r (rdE D T C W b)) : PE X (.Compare l [op] [r] pos) (rdE D T C W (.inT a b)) := by
  subst ho
  refine PE.imp (pe_cmpR (op_inT (D := D)) ha hb hm) fun σc H Q z => ?_
  obtain ⟨ι, S, σ, Qa, Ra, L, G, hw, cn, cx⟩ := z
  refine ⟨ι, S, σ, _, Ra, L, G, hw, fun ι1 S1 H1 v x e1 L1 r1 q1 => ?_, cx⟩
  refine ⟨ι1, S1, σ, _, Ra, L1, G.ext e1, q1, fun ι2 S2 H2 w y e2 L2' r2 q2 => ?_, cx.ext e1⟩
  exact ⟨ι2, S2, v, w, Qa, L2', r1.ext e2, r2, q2, cn.ext (e1.trans e2)⟩
end
end Rp
/-! # len(range(n)) -/
namespace Rp
open PySem PySem.Spec PySem.Calls PyProof.Rows L2
section
variable {X : Cx} {D : Ad} {F : Fd} {T : Tab} {M : Nm} {fl : List Nat} {C : CS} {lv : Nat} {W : WX} {c : Sc} {pos : Pos}
theorem range_1 : CallR X (.type "range") (fun vs H Q => ∃ j, vs = [V.int j] ∧ ∀ p, H p = none → Q (.ref p) (upd H p (.rng 0 j))) := by
  intro pins s σ H vs us Q I r h
  obtain ⟨j, rfl, q⟩ := h
  obtain ⟨u, rfl, rj⟩ := vals1 r
  obtain ⟨t, rfl⟩ := rj
  refine call_range_1 ⟨.ref s.heap.objs.size, upd H s.heap.objs.size (.rng 0 j), I.laid (t' := s.toks + 1 + 1) (fun b o e => Heap.get?_push_of_some _ e) (Nat.le_refl _) ?_, rfl, q _ (I.hok.fresh (Nat.le_refl _))⟩
  exact ⟨s.toks, t, s.toks + 1, Heap.get?_push_size _ rfl⟩
theorem len_rng : CallR X (.builtin "len") (fun vs H Q => ∃ a j, vs = [V.ref a] ∧ H a = some (.rng 0 j) ∧ 0 ≤ j ∧ j < 2 ^ 62 ∧ Q (.int j) H) := by
  intro pins s σ H vs us Q I r h
  obtain ⟨a, j, rfl, ha, h0, h1, q⟩ := h
  obtain ⟨u, rfl, ru⟩ := vals1 r
  obtain rfl : u = Value.ref a := ru
  obtain ⟨t, u, v, e⟩ := (show ObjOk X.prog X.w H s.heap a (.rng 0 j) from I.hok a _ ha)
  obtain ⟨n, rfl⟩ : ∃ n : Nat, j = n := ⟨j.toNat, by omega⟩
  have hn : Builtin.Range.rangeSize 0 (n : Int) 1 = n := by
    unfold Builtin.Range.rangeSize
    repeat' split
    all_goals omega
  exact call_len_range (n := n) e hn (by omega) ⟨.int n, H, I.tok _, ⟨_, rfl⟩, q⟩
theorem s_lenR {a : RE} {x y : Str} {e : Expr} {p q p2 : Pos} (o : Okx X D F T M fl C lv W c) (hx : okGl c "len" x = true) (hb : (M.nb.any (· == "len")) = true) (hy : okGl c "range" y = true) (hb2 : (M.nb.any (· == "range")) = true) (ha : PA X [e] (rdEs D T C W (.cons a .nil))) (hn : noStar [e] = true) :
    PE X (.Call (.Name x p) [.Call (.Name y q) [e] [] p2] [] pos) (rdE D T C W (.lenR a)) := by
  obtain ⟨e1, hg, hd, hnn⟩ := gl_of o hx
  subst e1
  obtain ⟨e2, hg2, hd2, hnn2⟩ := gl_of o hy
  subst e2
  obtain ⟨z, hz, ez⟩ := List.any_eq_true.mp hb
  have ez : z = "len" := eq_of_beq ez
  subst ez
  obtain ⟨z2, hz2, ez2⟩ := List.any_eq_true.mp hb2
  have ez2 : z2 = "range" := eq_of_beq ez2
  subst ez2
  have s1 := (noStar_cons (env := X.env) hn).1
  have s2 := noStar_any (env := X.env) (pos := p2) (noStar_cons (env := X.env) hn).2
  have inner : PE X (.Call (.Name (sN "range") q) [e] [] p2) (tCB (fun vs H Q => ∃ j, vs = [V.int j] ∧ ∀ p, H p = none → Q (.ref p) (upd H p (.rng 0 j))) (rdEs D T C W (.cons a .nil))) := pe_callTy range_1 hg2 (o.lk.nb _ hz2) (by decide +kernel) ha hnn2 hd2 s1 s2
  refine PE.imp (pe_callB len_rng hg (o.lk.nb _ hz) (boot_blt .len) (pa_cons inner pa_nil) hnn hd rfl rfl) fun σc H Q w => ?_
  obtain ⟨ι, S, σ, Qa, Ra, L, G, hw, cn, cx⟩ := w
  refine ⟨ι, S, σ, fun vs S' => one vs fun v => isInt v fun i => onT (decide (0 ≤ i ∧ i < 2 ^ 62)) (Qa (.int i) S'), Ra, L, G, hw, fun ι1 S1 H1 vs xs e1 L1 r1 l1 q1 => ?_, cx⟩
  match vs, r1, q1 with
  | [], _, q1 => exact q1.elim
  | _ :: _ :: _, _, q1 => exact q1.elim
  | [v], r1, q1 =>
    obtain ⟨i, rfl, q⟩ := isInt_ex (show isInt v fun i => onT (decide (0 ≤ i ∧ i < 2 ^ 62)) (Qa (.int i) S1) from q1)
    obtain ⟨hz, q⟩ := onT_ex q
    obtain ⟨h0, h1⟩ := of_decide_eq_true hz
    obtain ⟨x', rfl, rx⟩ := rvs1 r1
    obtain rfl := rv_int rx
    refine ⟨i, rfl, fun pp hp => ?_⟩
    refine ⟨pp, i, rfl, upd_same, h0, h1, ?_⟩
    exact cn ι1 S1 _ (.int i) _ (e1.trans (ext_new L1 hp)) (ly_new L1 hp) rfl q
theorem rvs_rg {ι : List Addr} {H : Hp} : ∀ l : List Nat, RVs D ι H (l.map fun k => .int (k : Nat)) (l.map fun k => V.int (0 + (k : Nat)))
  | [] => rfl
  | k :: l => ⟨_, _, rfl, by show V.int (0 + (k : Int)) = V.int (k : Int); rw [Int.zero_add], rvs_rg l⟩
theorem s_lstR {m : Bool} {a : RE} {x y : Str} {e : Expr} {p q p2 : Pos} (o : Okx X D F T M fl C lv W c) (hx : okGl c "list" x = true) (hb : (M.nb.any (· == "list")) = true) (hy : okGl c "range" y = true) (hb2 : (M.nb.any (· == "range")) = true) (ha : PE X e (rdE D T C W a)) (hn : noStar [e] = true) :
    PE X (.Call (.Name x p) [.Call (.Name y q) [e] [] p2] [] pos) (rdE D T C W (.lstR m a)) := by
  obtain ⟨e1, hg, hd, hnn⟩ := gl_of o hx
  subst e1
  obtain ⟨e2, hg2, hd2, hnn2⟩ := gl_of o hy
  subst e2
  obtain ⟨z, hz, ez⟩ := List.any_eq_true.mp hb
  have ez : z = "list" := eq_of_beq ez
  subst ez
  obtain ⟨z2, hz2, ez2⟩ := List.any_eq_true.mp hb2
  have ez2 : z2 = "range" := eq_of_beq ez2
  subst ez2
  have s1 := (noStar_cons (env := X.env) hn).1
  refine PE.imp (pe_fzB m (pe_listRg o.calm hg (o.lk.nb _ hz) (prg_1 hg2 (o.lk.nb _ hz2) ha s1))) fun σc H Q w => ?_
  obtain ⟨ι, S, σ, Qa, Ra, L, G, hw, cn, cx⟩ := w
  refine ⟨ι, S, σ, fun v S' => isInt v fun i => onT (decide (0 ≤ i ∧ i ≤ 16777216)) (newL m (rgI i) S' Qa), Ra, L, G, hw, fun ι1 S1 H1 v xv e1 L1 r1 q1 => ?_, cx⟩
  obtain ⟨i, rfl, q⟩ := isInt_ex q1
  obtain ⟨hz, q⟩ := onT_ex q
  obtain ⟨h0, h1⟩ := of_decide_eq_true hz
  obtain rfl := rv_int r1
  refine ⟨i, rfl, ⟨by omega, by omega, by omega, by omega, by omega⟩, fun pp hp => ?_⟩
  refine (cn.ext e1).new L1 hp ?_ q
  unfold rgI rgV
  rw [Int.sub_zero]
  exact rvs_rg _
end
end Rp
/-! # sorted(set(a list of ints)) -/
namespace Rp
open PySem PySem.Spec PySem.Calls PyProof.Rows L2
/-- a set at its making -/
abbrev set0O (w : World) : Obj := { cls := .type "set", dict := none, data := .set #[] 0 (.fresh 0 0 (!w.params.followText "set-order")) }
section
variable {P : Program} {w : World} {A : Around} {E : Value → Shared → Prop} {s : Shared}
theorem set_of_list {l : Addr} {items : Array Value} (ns : List Int) {Q : Value → Shared → Prop} (hh : A.handled = none) (hl : s.heap.IsList l items) (hi : IntsAre items.toList ns) (hb : ns.length + 1 < scanBound)
    (h : ∀ (h' : Heap) (tk c : Nat), SetR w h' s.heap.objs.size (fun j => decide (j ∈ ns)) c → c ≤ ns.length → (∀ b o, s.heap.get? b = some o → h'.get? b = some o) → Q (.ref s.heap.objs.size) { s with heap := h', toks := tk }) :
    wpAny (model P w) A (call (.type "set") [.ref l]) Q E s := by
  have len : items.size = ns.length := by
    have q := IntsAre.length hi
    rwa [Array.length_toList] at q
  have lS : l < s.heap.objs.size := by
    obtain ⟨ol, hol, _⟩ := hl
    exact Heap.lt_size hol
  have sz : (s.heap.push (set0O w)).objs.size = s.heap.objs.size + 1 := Heap.size_push ..
  -- the update, its iterator laid
  have upd1 : ∀ (A' : Around), A'.handled = none → codeAny (model P w) A' (.builtin "set.update.loop" ⟨[.ref s.heap.objs.size, .ref (s.heap.push (set0O w)).objs.size], []⟩)
      (fun r s₂ => r = .ok (.ret .none) ∧ ∃ h' tk c, s₂ = { s with heap := h', toks := tk } ∧ SetR w h' s.heap.objs.size (fun j => decide (j ∈ ns)) c ∧ c ≤ ns.length ∧ (∀ b o, s.heap.get? b = some o → h'.get? b = some o))
      { s with heap := (s.heap.push (set0O w)).push { cls := .type "list_iterator", data := .fields #[.ref l, .int 0 0] } } := fun A' hA => by
    have ne : l ≠ (s.heap.push (set0O w)).objs.size := by rw [sz]; exact Nat.ne_of_lt (Nat.lt_succ_of_lt lS)
    have out : s.heap.objs.size ∉ [(s.heap.push (set0O w)).objs.size, l] := by
      rw [sz]
      simp only [List.mem_cons, List.not_mem_nil, or_false, not_or]
      exact ⟨Nat.ne_of_lt (Nat.lt_succ_self _), Nat.ne_of_gt lS⟩
    have val : ∀ (i : Nat) (v : Value), items[i]? = some v → ∃ k t, ns[i]? = some k ∧ v = .int k t := fun i v hv => by
      have hi2 : i < ns.length := by rw [← len]; exact (Array.getElem?_eq_some_iff.mp hv).1
      obtain ⟨t, e⟩ := IntsAre.int_at hi i v (by rw [Array.getElem?_toList]; exact hv)
      rw [List.getD_eq_getElem?_getD, List.getElem?_eq_getElem hi2] at e
      exact ⟨ns[i], t, List.getElem?_eq_getElem hi2, e⟩
    have at0 : (s.heap.push (set0O w)).get? s.heap.objs.size = some (set0O w) := Heap.get?_push_size _ rfl
    refine set_update_ints ((Walks.list (prog := P) (w := w) (A := A'.in1) (by simp [hA]) (s.heap.push (set0O w)).objs.size l ne items).toS) s.heap.objs.size out ns len hb val (items.size - 0) 0 _ (by omega) (Nat.zero_le _)
      ⟨⟨_, Heap.get?_push_size _ rfl, rfl, rfl⟩, (hl.push _).push _⟩ ⟨0, Nat.le_refl 0, setR_new_at (Heap.get?_push_of_some _ at0)⟩ fun s' c mv hc R => ?_
    obtain ⟨h', g', d', tk', os'⟩ := s'
    have eg : g' = s.gens := mv.gens
    have ed : d' = s.drawn := mv.drawn
    have eo : os' = s.os := mv.os
    subst eg; subst ed; subst eo
    rw [len] at hc
    refine ⟨rfl, h', tk', c, rfl, R, hc, fun b o e => ?_⟩
    have b0 : b < s.heap.objs.size := Heap.lt_size e
    refine mv.heap b o ?_ (Heap.get?_push_of_some _ (Heap.get?_push_of_some _ e))
    rw [sz]
    simp only [List.mem_cons, List.not_mem_nil, or_false, not_or]
    exact ⟨Nat.ne_of_lt b0, Nat.ne_of_lt (Nat.lt_succ_of_lt b0)⟩
  obtain ⟨c, tl, hmro⟩ := F.called_set.mro
  have hmade := F.called_set.made
  have hsub := F.called_set.sub
  refine wpAny_call (codeAny_of_tree ?_)
  show wpAny _ _ (callAny (.type "set") _) _ _ _
  refine wpAny_pure ⟨Code.quiet_builtin _ (by decide +kernel), codeAny_builtin F.entry_type_call ?_⟩
  rw [Around.under_plain (weight_type_call_type "set" [.ref l] []) rfl]
  have h1 := F.called_set.notType
  have h2 := F.called_set.canCreate
  have hct := F.typeCall_set_1 (.ref l)
  repeat (any_goals (first | assumption | wp_step))
  refine codeAny_mono (code_set_led1 (.ref l) (E := E) (Q₁ := fun obj s₁ => obj = .ref s.heap.objs.size ∧ s₁ = { s with heap := s.heap.push (set0O w) }) ⟨rfl, rfl⟩) fun r s₁ hr => ?_
  match r, hr with
  | .error e, hr => exact hr
  | .ok .next, hr => exact hr.elim
  | .ok .brk, hr => exact hr.elim
  | .ok .cont, hr => exact hr.elim
  | .ok (.ret obj), hr =>
    obtain ⟨rfl, rfl⟩ := hr
    have hT : Shared.TypeIs { s with heap := s.heap.push (set0O w) } (.ref s.heap.objs.size) "set" := ⟨_, Heap.get?_push_size _ rfl, rfl⟩
    have hli := F.called_set.init.lookup
    have hbi := F.called_set.init.bind (.ref s.heap.objs.size)
    repeat (any_goals (first | assumption | wp_step))
    refine codeAny_mono (codeAny_call_builtin (R := wants (fun r s₂ => r = .none ∧ ∃ h' tk c, s₂ = { s with heap := h', toks := tk } ∧ SetR w h' s.heap.objs.size (fun j => decide (j ∈ ns)) c ∧ c ≤ ns.length ∧
        (∀ b o, s.heap.get? b = some o → h'.get? b = some o)) E) F.called_set.init.plain F.entry_set_init (check_set_init_1 hT ?_)) fun r₂ s₂ hr₂ => ?_
    · obtain ⟨ol, hol, hcl, nl, hdl⟩ := hl
      obtain ⟨ocls, odict, odata, oslots⟩ := ol
      simp only at hcl hdl
      subst hcl; subst hdl
      have hol' : (s.heap.push (set0O w)).get? l = some { cls := .type "list", dict := odict, data := .seq items nl, slots := oslots } := Heap.get?_push_of_some _ hol
      have hsls := F.sub_list_set
      have hslf := F.sub_list_frozenset
      have hne : (Value.type "list" == Value.type "dict") = false := by decide
      unfold Builtin.«set.__init__» noKeywords Builtin.Frozenset.updateFrom
      generalize hPI : pyIter = PI
      wp_walk
      subst hPI
      refine wpAny_pyIter_list ⟨_, hol', rfl, nl, rfl⟩ ?_
      refine wpAny_bind (wpAny_runValue ?_)
      refine codeAny_mono (upd1 _ (by simp [hh])) fun r s₂ hr => ?_
      obtain ⟨rfl, h', tk', c', rfl, R, hc, k⟩ := hr
      show wpAny _ _ _ _ _ _
      refine wpAny_pure ?_
      show wpAny _ _ (ret Value.none) _ _ _
      exact wpAny_pure ⟨rfl, h', tk', c', rfl, R, hc, k⟩
    · match r₂, hr₂ with
      | .error e, hr₂ => exact hr₂
      | .ok .next, hr₂ => exact hr₂.elim
      | .ok .brk, hr₂ => exact hr₂.elim
      | .ok .cont, hr₂ => exact hr₂.elim
      | .ok (.ret r), hr₂ =>
        obtain ⟨rfl, h', tk, c', rfl, R, hc, k⟩ := hr₂
        repeat (any_goals (first | assumption | wp_step))
        exact h _ _ _ R hc k
end
end Rp
/-! # sorted(ns), sorted(set(ns)) -/
namespace Rp
open PySem PySem.Spec PySem.Calls PyProof.Rows L2
section
variable {X : Cx} {D : Ad} {F : Fd} {T : Tab} {M : Nm} {fl : List Nat} {C : CS} {lv : Nat} {W : WX} {c : Sc} {pos : Pos}
theorem set_1 (hc : X.calm = true) : CallR X (.type "set") (fun vs H Q => ∃ (a : Addr) (ns : List Int), vs = [V.ref a] ∧ SqL X.K H a (ns.map V.int) ∧ ns.length < 64 ∧ ∀ (p : Addr) (n : Nat), H p = none → n ≤ ns.length → Q (.ref p) (upd H p (SetO X.w p (fun j => decide (j ∈ ns)) n))) := by
  intro pins s σ H xs us Q I r h
  obtain ⟨a, ns, rfl, hs, h64, q⟩ := h
  obtain ⟨its, rv, hl, _⟩ := I.list hs
  rw [Vals.ref1 r]
  exact set_of_list ns (I.ok.hd hc) hl.isList rv.ints (by unfold scanBound; omega) fun h' tk n R hn k =>
    ⟨.ref _, upd H s.heap.objs.size (SetO X.w s.heap.objs.size (fun j => decide (j ∈ ns)) n), I.laid (t' := tk) (fun b u e => k b u e) (Nat.le_refl _) (setO_new R), rfl, q _ n (I.hok.fresh (Nat.le_refl _)) hn⟩
theorem s_srt {m : Bool} {a : RE} {x : Str} {e : Expr} {p : Pos} (o : Okx X D F T M fl C lv W c) (hx : okGl c "sorted" x = true) (hb : (M.nb.any (· == "sorted")) = true) (ha : PA X [e] (rdEs D T C W (.cons a .nil))) (hn : noStar [e] = true) :
    PE X (.Call (.Name x p) [e] [] pos) (rdE D T C W (.srt m a)) := by
  obtain ⟨e1, hg, hd, hnn⟩ := gl_of o hx
  subst e1
  obtain ⟨z, hz, ez⟩ := List.any_eq_true.mp hb
  have ez : z = "sorted" := eq_of_beq ez
  subst ez
  have s1 := (noStar_cons (env := X.env) hn).1
  have s2 := noStar_any (env := X.env) (pos := pos) (noStar_cons (env := X.env) hn).2
  refine PE.imp (pe_fzB m (pe_callB cr_sorted hg (o.lk.nb _ hz) (boot_blt .sorted) ha hnn hd s1 s2)) fun σc H Q w => ?_
  obtain ⟨ι, S, σ, Qa, Ra, L, G, hw, cn, cx⟩ := w
  refine ⟨ι, S, σ, fun vs S' => one vs fun v => onS (lstOf S' v) fun xs => onS (intsOf xs) fun ns => onT (decide (ns.length < 64)) (∀ ms : List Int, ms.Perm ns → ms.Pairwise (· ≤ ·) → newL m (ms.map .int) S' Qa), Ra, L, G, hw, fun ι1 S1 H1 vs xs e1 L1 r1 l1 q1 => ?_, cx⟩
  match vs, r1, q1 with
  | [], _, q1 => exact q1.elim
  | _ :: _ :: _, _, q1 => exact q1.elim
  | [v], r1, q1 =>
    obtain ⟨xs2, hl, q1⟩ := onS_ex (show onS (lstOf S1 v) fun xs => onS (intsOf xs) fun ns => onT (decide (ns.length < 64)) (∀ ms : List Int, ms.Perm ns → ms.Pairwise (· ≤ ·) → newL m (ms.map .int) S1 Qa) from q1)
    obtain ⟨ns, hi, q1⟩ := onS_ex q1
    obtain ⟨h64, q⟩ := onT_ex q1
    obtain ⟨x', rfl, rx⟩ := rvs1 r1
    rw [ints_eq hi] at hl
    obtain ⟨b, rfl, sq⟩ := ints_at L1 hl rx
    have hK : X.K = D.K := o.hK
    exact ⟨b, ns, rfl, by rw [hK]; exact sq, of_decide_eq_true h64, fun ms pp h1 h2 hp => (cn.ext e1).new L1 hp (RVs.of_ints ms) (q ms h1 h2)⟩
theorem s_srtSet {m : Bool} {a : RE} {x y : Str} {e : Expr} {p q p2 : Pos} (o : Okx X D F T M fl C lv W c) (hx : okGl c "sorted" x = true) (hb : (M.nb.any (· == "sorted")) = true) (hy : okGl c "set" y = true) (hb2 : (M.nb.any (· == "set")) = true) (ha : PA X [e] (rdEs D T C W (.cons a .nil))) (hn : noStar [e] = true) :
    PE X (.Call (.Name x p) [.Call (.Name y q) [e] [] p2] [] pos) (rdE D T C W (.srtSet m a)) := by
  obtain ⟨e1, hg, hd, hnn⟩ := gl_of o hx
  subst e1
  obtain ⟨e2, hg2, hd2, hnn2⟩ := gl_of o hy
  subst e2
  obtain ⟨z, hz, ez⟩ := List.any_eq_true.mp hb
  have ez : z = "sorted" := eq_of_beq ez
  subst ez
  obtain ⟨z2, hz2, ez2⟩ := List.any_eq_true.mp hb2
  have ez2 : z2 = "set" := eq_of_beq ez2
  subst ez2
  have s1 := (noStar_cons (env := X.env) hn).1
  have s2 := noStar_any (env := X.env) (pos := p2) (noStar_cons (env := X.env) hn).2
  have inner := pe_callTy (p := q) (pos := p2) (set_1 o.calm) hg2 (o.lk.nb _ hz2) (by decide +kernel) ha hnn2 hd2 s1 s2
  refine PE.imp (pe_fzB m (pe_callB (cr_sortedSet o.calm) hg (o.lk.nb _ hz) (boot_blt .sorted) (pa_cons inner pa_nil) hnn hd rfl rfl)) fun σc H Q w => ?_
  obtain ⟨ι, S, σ, Qa, Ra, L, G, hw, cn, cx⟩ := w
  refine ⟨ι, S, σ, fun vs S' => one vs fun v => onS (lstOf S' v) fun xs => onS (intsOf xs) fun ns => onT (decide (ns.length < 64)) (∀ ms : List Int, ms.Pairwise (· < ·) → (∀ k : Int, k ∈ ms ↔ k ∈ ns) → newL m (ms.map .int) S' Qa), Ra, L, G, hw, fun ι1 S1 H1 vs xs e1 L1 r1 l1 q1 => ?_, cx⟩
  match vs, r1, q1 with
  | [], _, q1 => exact q1.elim
  | _ :: _ :: _, _, q1 => exact q1.elim
  | [v], r1, q1 =>
    obtain ⟨xs2, hl, q1⟩ := onS_ex (show onS (lstOf S1 v) fun xs => onS (intsOf xs) fun ns => onT (decide (ns.length < 64)) (∀ ms : List Int, ms.Pairwise (· < ·) → (∀ k : Int, k ∈ ms ↔ k ∈ ns) → newL m (ms.map .int) S1 Qa) from q1)
    obtain ⟨ns, hi, q1⟩ := onS_ex q1
    obtain ⟨h64, q⟩ := onT_ex q1
    have h64 := of_decide_eq_true h64
    obtain ⟨x', rfl, rx⟩ := rvs1 r1
    rw [ints_eq hi] at hl
    obtain ⟨b, rfl, sq⟩ := ints_at L1 hl rx
    have hK : X.K = D.K := o.hK
    refine ⟨b, ns, rfl, by rw [hK]; exact sq, h64, fun p0 n hp0 hn => ?_⟩
    refine ⟨p0, fun j => decide (j ∈ ns), n, rfl, upd_same, by omega, fun ms pp h1 h2 _ hp => ?_⟩
    exact ((cn.ext e1).ext (ext_new L1 hp0)).new (ly_new L1 hp0) hp (RVs.of_ints ms) (q ms h1 fun k => by rw [h2 k, decide_eq_true_eq])
end
end Rp
/-! # Statements -/
namespace Rp
open PySem PySem.Spec PyProof.Rows L2

/-- the wishes behind a statement -/
structure CnE (D : Ad) (ι : List Addr) (H : Hp) (W : WX) (Da : En) (De : Ends) : Prop where
  nx : ∀ ι' S' H' σ' σc', Ext ι H ι' H' → Ly D ι' H' S' → RG D ι' H' σ' σc' → Da.nx σ' S' → De.nx σc' H'
  rt : Cnt D ι H Da.rt De.rt
  bk : ∀ ι' S' H' σ' σc', Ext ι H ι' H' → Ly D ι' H' S' → RG D ι' H' σ' σc' → Da.bk σ' S' → De.bk σc' H'
  ct : ∀ ι' S' H' σ' σc', Ext ι H ι' H' → Ly D ι' H' S' → RG D ι' H' σ' σc' → Da.ct σ' S' → De.ct σc' H'
  ex : ∀ ι' S' H' σ' σc' x cls d, Ext ι H ι' H' → Ly D ι' H' S' → RG D ι' H' σ' σc' → RX D ι' H' x cls d → Da.ex x σ' S' → W cls d σc' H'
theorem CnE.ext {D : Ad} {ι ι' : List Addr} {H H' : Hp} {W : WX} {Da : En} {De : Ends} (c : CnE D ι H W Da De) (e : Ext ι H ι' H') : CnE D ι' H' W Da De :=
  ⟨fun a b d f g h => c.nx a b d f g (e.trans h), c.rt.ext e, fun a b d f g h => c.bk a b d f g (e.trans h), fun a b d f g h => c.ct a b d f g (e.trans h), fun a b d f g x y z h => c.ex a b d f g x y z (e.trans h)⟩
theorem CnE.cx {D : Ad} {ι : List Addr} {H : Hp} {W : WX} {Da : En} {De : Ends} {σ : Sg} {σc : L2.St} (c : CnE D ι H W Da De) (G : RG D ι H σ σc) : CnX D ι H (fun x S1 => Da.ex x σ S1) σc W :=
  fun ι' S' H' x cls d e L r q => c.ex ι' S' H' σ σc x cls d e L (G.ext e) r q
/-- other ends ahead -/
theorem CnE.nxt {D : Ad} {ι : List Addr} {H : Hp} {W : WX} {Da : En} {De : Ends} (c : CnE D ι H W Da De) {n : Sg → Store → Prop} {n' : L2.St → Hp → Prop} (h : ∀ ι' S' H' σ' σc', Ext ι H ι' H' → Ly D ι' H' S' → RG D ι' H' σ' σc' → n σ' S' → n' σc' H') :
    CnE D ι H W { Da with nx := n } { De with nx := n' } := ⟨h, c.rt, c.bk, c.ct, c.ex⟩
/-- the ends of a loop's body -/
theorem CnE.loop {D : Ad} {ι : List Addr} {H : Hp} {W : WX} {Da : En} {De : Ends} (c : CnE D ι H W Da De) {n : Sg → Store → Prop} {n' : L2.St → Hp → Prop} (h : ∀ ι' S' H' σ' σc', Ext ι H ι' H' → Ly D ι' H' S' → RG D ι' H' σ' σc' → n σ' S' → n' σc' H') :
    CnE D ι H W { Da with nx := n, ct := n, bk := Da.nx } { De with nx := n', ct := n', bk := De.nx } := ⟨h, c.rt, c.nx, h, c.ex⟩

def rdS (D : Ad) (T : Tab) (C : CS) (W : WX) (r : RS) : TS := fun De σc H => ∃ ι S σ Da, Ly D ι H S ∧ RG D ι H σ σc ∧ wpS T C r σ S Da ∧ CnE D ι H W Da De
def rdSs (D : Ad) (T : Tab) (C : CS) (W : WX) (r : RSs) : TS := fun De σc H => ∃ ι S σ Da, Ly D ι H S ∧ RG D ι H σ σc ∧ wpSs T C r σ S Da ∧ CnE D ι H W Da De

theorem swap_no {t e : Expr} {l : Nat} {env : Env} (h : noSwap t e = true) : swapsWith e (some t) l env = pure false := by
  unfold noSwap at h
  cases e <;> first
    | rfl
    | (cases t <;> first
        | rfl
        | cases h)
theorem swap_cell {t e : Expr} {l : Nat} {env : Env} (h : (noSwap t e || notLcl env.scope t) = true) : swapsWith e (some t) l env = pure false := by
  rw [Bool.or_eq_true] at h
  rcases h with h | h
  · exact swap_no h
  · cases t with
    | Name x pos =>
      have h : (!(env.scope.names.lookup x == some .local)) = true := h
      have hb : (env.kindOf x == some .local) = false := by
        show (env.scope.names.lookup x == some .local) = false
        simpa using h
      cases e <;> first
        | rfl
        | (show pure (_ && (env.kindOf x == some .local) && _ && _) = pure false
           rw [hb]
           simp)
    | _ => cases h
theorem swap_none {e : Expr} {l : Nat} {env : Env} (h : noComp e = true) : swapsWith e none l env = pure false := by
  cases e <;> first
    | rfl
    | cases h
theorem exch_no {t e : Expr} {env : Env} (h : noExch env.scope t e = true) : swappedStores [t] e env = pure none := by
  unfold noExch at h
  cases t <;> first
    | rfl
    | (cases e <;> first
        | rfl
        | cases h
        | skip)
  rename_i ts k1 p1 vs k2 p2
  have h : (!(ts.length == 2 || ts.length == 3) || vs.all (foldedForSure 8) || (swapNames env.scope ts).length != ts.length) = true := h
  unfold swappedStores
  simp only [pure_bind]
  cases h1 : (ts.length == 2 || ts.length == 3)
  · simp
  · rw [h1] at h
    have h : (vs.all (foldedForSure 8) || (swapNames env.scope ts).length != ts.length) = true := h
    rcases Bool.or_eq_true_iff.mp h with h2 | h2
    · simp only [h2, if_true]
      split
      · rfl
      · split
        · rfl
        · split <;> rfl
    · have h3 : ∀ l, l = swapNames env.scope ts → (l.length != ts.length || l.eraseDups.length != l.length) = true := fun l e => by
        rw [e, h2] <;> rfl
      split
      · rfl
      · split
        · rfl
        · first
            | rw [if_pos (h3 _ rfl)]
            | (split
               · rfl
               · rename_i h5
                 exact absurd (h3 _ rfl) h5)

section
variable {X : Cx} {D : Ad} {F : Fd} {T : Tab} {M : Nm} {fl : List Nat} {C : CS} {lv : Nat} {W : WX} {c : Sc} {pos : Pos}

theorem q_pass : PS X (.Pass pos) (rdS D T C W .pass) := PS.imp ps_pass fun De σc H z => by
  obtain ⟨ι, S, σ, Da, L, G, hw, cn⟩ := z
  exact cn.nx ι S H σ σc Ext.refl L G hw
theorem q_dead {st : Stmt} : PS X st (rdS D T C W .dead) := ⟨fun pins s σc H De I z => by
  obtain ⟨ι, S, σ, Da, L, G, hw, cn⟩ := z
  exact (show False from hw).elim⟩
/-- behind a statement, a new list is locked -/
def lockN (nx : L2.St → Hp → Prop) : L2.St → Hp → Prop := fun σ H1 => ∃ a u, H1 a = some u ∧ Mut (some u) ∧ ∀ od, nx σ (upd H1 a (.frz od u))
theorem ps_fz {st : Stmt} {t : TS} (h : PS X st t) : PS X st (fun De σ H => t { De with nx := lockN De.nx } σ H) := ⟨fun pins s σ H De I hw => thn (h.run pins s σ H _ I hw) fun f s1 q => by
  cases f with
  | next =>
    obtain ⟨σ', H', I2, a, u, hu, mu, q⟩ := q
    obtain ⟨od, I3⟩ := I2.lock hu mu
    exact ⟨σ', _, I3, q od⟩
  | brk => exact q
  | cont => exact q
  | ret v => exact q⟩
theorem q_brk : PS X (.Break pos) (rdS D T C W .brk) := PS.imp ps_break fun De σc H z => by
  obtain ⟨ι, S, σ, Da, L, G, hw, cn⟩ := z
  exact cn.bk ι S H σ σc Ext.refl L G hw
theorem q_cont : PS X (.Continue pos) (rdS D T C W .cont) := PS.imp ps_continue fun De σc H z => by
  obtain ⟨ι, S, σ, Da, L, G, hw, cn⟩ := z
  exact cn.ct ι S H σ σc Ext.refl L G hw
theorem q_doc {x : Str} {j : Nat} {p : Pos} : PS X (.Expr (.Constant (.str x) j p) pos) (rdS D T C W .doc) := PS.imp ps_doc fun De σc H z => by
  obtain ⟨ι, S, σ, Da, L, G, hw, cn⟩ := z
  exact cn.nx ι S H σ σc Ext.refl L G hw
theorem q_expr {r : RE} {e : Expr} (hs : noComp e = true) (he : PE X e (rdE D T C W r)) : PS X (.Expr e pos) (rdS D T C W (.expr r)) := PS.imp (ps_expr he (swap_none hs)) fun De σc H z => by
  obtain ⟨ι, S, σ, Da, L, G, hw, cn⟩ := z
  exact ⟨ι, S, σ, _, _, L, G, hw, fun ι1 S1 H1 v x e1 L1 r1 q1 => cn.nx ι1 S1 H1 σ σc e1 L1 (G.ext e1) q1, cn.cx G⟩
theorem q_ret {r : RE} {e : Expr} (he : PE X e (rdE D T C W r)) : PS X (.Return (some e) pos) (rdS D T C W (.ret r)) := PS.imp (ps_ret he) fun De σc H z => by
  obtain ⟨ι, S, σ, Da, L, G, hw, cn⟩ := z
  exact ⟨ι, S, σ, _, _, L, G, hw, cn.rt, cn.cx G⟩
theorem q_retN : PS X (.Return none pos) (rdS D T C W .retN) := PS.imp ps_retN fun De σc H z => by
  obtain ⟨ι, S, σ, Da, L, G, hw, cn⟩ := z
  exact cn.rt.here L (show RV D ι H .non .non from rfl) hw
theorem q_asg {t : RT} {r : RE} {tg e : Expr} (hs : (noSwap tg e || notLcl X.env.scope tg) = true) (hx : noExch X.env.scope tg e = true) (hn : noStarT [tg] = true) (he : PE X e (rdE D T C W r)) (hg : PG X tg (rdTg D T C t)) : PS X (.Assign [tg] e pos) (rdS D T C W (.asg t r)) := by
  refine PS.imp (ps_asg he hg (swap_cell hs) (exch_no hx) (by rw [(noStarT_cons hn).1] <;> rfl)) fun De σc H z => ?_
  obtain ⟨ι, S, σ, Da, L, G, hw, cn⟩ := z
  refine ⟨ι, S, σ, _, _, L, G, hw, fun ι1 S1 H1 v x e1 L1 r1 q1 => ?_, cn.cx G⟩
  exact ⟨ι1, S1, σ, _, v, L1, G.ext e1, r1, q1, fun ι2 S2 H2 σ2 σc2 e2 L2' G2 _ q2 => cn.nx ι2 S2 H2 σ2 σc2 (e1.trans e2) L2' G2 q2⟩
theorem putF_keys {f : Nat} {x : V} : ∀ {fs : List (Nat × PV)} {fs' : List (Str × V)} {v : PV}, fs'.map (·.1) = fs.map (fun p => dN p.1) → (putF (dN f) x fs').map (·.1) = (putFl f v fs).map (fun p => dN p.1)
  | [], [], v, _ => rfl
  | [], _ :: _, v, h => by cases h
  | _ :: _, [], v, h => by cases h
  | (g, w) :: fs, (g', w') :: fs', v, h => by
    have h' : g' :: fs'.map (·.1) = dN g :: fs.map (fun p => dN p.1) := h
    injection h' with h1 h2
    subst h1
    unfold putF putFl
    by_cases e : g = f
    · subst e
      rw [if_pos rfl, if_pos rfl]
      show dN g :: fs'.map (·.1) = dN g :: fs.map (fun p => dN p.1)
      rw [h2]
    · rw [if_neg (fun z => e (dN_inj z)), if_neg e]
      show dN g :: (putF (dN f) x fs').map (·.1) = dN g :: (putFl f v fs).map (fun p => dN p.1)
      rw [putF_keys h2]
end
end Rp
/-! # Statements: fields, comprehensions into names, pairs, loops -/
namespace Rp
open PySem PySem.Spec PyProof.Rows L2
section
variable {X : Cx} {D : Ad} {F : Fd} {T : Tab} {M : Nm} {fl : List Nat} {C : CS} {lv : Nat} {W : WX} {c : Sc} {pos : Pos}

theorem putF_vals {ι : List Addr} {H : Hp} {f : Nat} {v : PV} {x : V} (r : RV D ι H v x) : ∀ {fs : List (Nat × PV)} {fs' : List (Str × V)}, fs'.map (·.1) = fs.map (fun p => dN p.1) → RVs D ι H (fs.map (·.2)) (fs'.map (·.2)) → RVs D ι H ((putFl f v fs).map (·.2)) ((putF (dN f) x fs').map (·.2))
  | [], [], _, _ => .cons r .nil
  | [], _ :: _, h, _ => by cases h
  | _ :: _, [], h, _ => by cases h
  | (g, w) :: fs, (g', w') :: fs', h, q => by
    have h' : g' :: fs'.map (·.1) = dN g :: fs.map (fun p => dN p.1) := h
    injection h' with h1 h2
    subst h1
    obtain ⟨y, ys, e, q1, q2⟩ := q
    have e' : w' :: fs'.map (·.2) = y :: ys := e
    injection e' with e1 e2
    subst e1 e2
    unfold putF putFl
    by_cases e : g = f
    · subst e
      rw [if_pos rfl, if_pos rfl]
      exact .cons r q2
    · rw [if_neg (fun z => e (dN_inj z)), if_neg e]
      exact .cons q1 (putF_vals r h2 q2)
/-- an instance's field changed -/
theorem Ly.setFld {ι : List Addr} {H : Hp} {S : Store} (L : Ly D ι H S) {i k : Nat} {a dx : Addr} {fs : List (Nat × PV)} {fs' : List (Str × V)} {f : Nat} {v : PV} {x : V} (hi : ι[i]? = some a) (hs : S[i]? = some (.ins k fs)) (n1 : fs'.map (·.1) = fs.map (fun p => dN p.1)) (n2 : RVs D ι H (fs.map (·.2)) (fs'.map (·.2))) (r : RV D ι H v x) :
    Ext ι H ι (upd H a (.ins (D.ca k) dx (putF (dN f) x fs'))) ∧ Ly D ι (upd H a (.ins (D.ca k) dx (putF (dN f) x fs'))) (S.set i (.ins k (putFl f v fs))) :=
  ⟨ext_write L hi hs, ly_write (o' := .ins k (putFl f v fs)) (ho := .ins (D.ca k) dx (putF (dN f) x fs')) L hi hs ⟨dx, _, rfl, putF_keys n1, (putF_vals r n1 n2).ext (ext_write L hi hs)⟩⟩
/-- o.f = .., as a target -/
theorem pg_fld {e : Expr} {f : Str} {ta : TE} {p : Pos} (ha : PE X e ta) : PG X (.Attribute e f p) (fun v σ H Q => ta σ H fun x H2 => ∃ a C dx fs, x = .ref a ∧ H2 a = some (.ins C dx fs) ∧ Cls X.K C ∧ NoAttr X.K C f ∧ fs.length < 1000 ∧ Q σ (upd H2 a (.ins C dx (putF f v fs)))) := by
  refine ⟨fun pins s σ H v u Q I r h => ?_⟩
  rw [assign_Attribute]
  refine wpAny_bind (wpAny_holding (thn (ha.run pins s σ H _ I h) fun ov s2 ⟨x, H2, I2, rx, a, C, dx, fs, ex, ea, c, n, l, q2⟩ => ?_))
  subst ex
  obtain rfl : ov = Value.ref a := rx
  refine wpAny_bind (wpAny_standAt (wpAny_bind (wpAny_holding (setattr_ok I2 ea c n l r fun s3 I3 => ?_))))
  exact wpAny_release ⟨σ, _, I3, q2⟩
theorem t_fld {o' : RE} {f : Nat} {e : Expr} {p : Pos} (o : Okx X D F T M fl C lv W c) (hf : f ∈ fl) (ha : PE X e (rdE D T C W o')) : PG X (.Attribute e (dN f) p) (rdTg D T C (.fld o' f)) := by
  refine PG.imp (pg_fld ha) fun v' σc H Q z => ?_
  obtain ⟨ι, S, σ, Qt, w, L, G, r, hw, cn⟩ := z
  refine ⟨ι, S, σ, _, _, L, G, hw, fun ι1 S1 H1 u u' e1 L1 r1 q1 => ?_, cnx_no⟩
  obtain ⟨a, k, fs, rfl, hs, hc, hl, q⟩ : ∃ a k fs, u = .ref a ∧ S1[a]? = some (.ins k fs) ∧ (T.cls[k]?).isSome = true ∧ fs.length < 900 ∧ Qt σ (S1.set a (.ins k (putFl f w fs))) := by
    cases u with
    | ref a =>
      have q1 : (match S1[a]? with
        | some (.ins c fs) => onT ((T.cls[c]?).isSome && decide (fs.length < 900)) (Qt σ (S1.set a (.ins c (putFl f w fs))))
        | _ => False) := q1
      split at q1
      · rename_i k fs e
        obtain ⟨b, q⟩ := onT_ex q1
        rw [Bool.and_eq_true, decide_eq_true_eq] at b
        exact ⟨a, k, fs, rfl, e, b.1, b.2, q⟩
      · exact q1.elim
    | _ => exact (show False from q1).elim
  obtain ⟨p, hi, rfl⟩ := rv_ref r1
  obtain ⟨p', dx, fs', hi', hp, n1, n2⟩ := L1.ins hs
  rw [hi] at hi'; cases hi'
  obtain ⟨cd, hcd⟩ := Option.isSome_iff_exists.mp hc
  obtain ⟨c1, c2, c3⟩ := o.lk.ms k cd hcd
  have len : fs'.length = fs.length := by simpa using congrArg List.length n1
  obtain ⟨e3, l3⟩ := L1.setFld (f := f) (dx := dx) hi hs n1 n2 (r.ext e1)
  exact ⟨p, _, dx, fs', rfl, hp, by rw [o.hK]; exact c1, by rw [o.hK]; exact c3 f hf, by omega, cn ι1 _ _ σ σc (e1.trans e3) l3 (G.ext (e1.trans e3)) (fun _ _ => rfl) q⟩

/-! ### comprehensions -/
theorem ownOf_snd (N : List Str) : ∀ l : List Nat, (ownOf N l).map (·.2) = l
  | [] => rfl
  | i :: r => by
    show i :: (ownOf N r).map (·.2) = i :: r
    rw [ownOf_snd N r]
theorem takes_no {X : Cx} : Takes X W0 := fun u s' ⟨_, _, _, _, _, _, _, _, _, _, _, _, _, _, _, _, w⟩ => w.elim
theorem okx_blk (o : Okx X D F T M fl C lv W c) {s : Shared} {H : Hp} {scope : Scope} {Cc : Addr} {cl : List (Str × Addr)} {fp : List Addr} : Okx (X.blk s H scope (compEnvC scope cl Cc X.env) fp) D F T M fl C lv W0 (relSc c scope) :=
  ⟨o.hK, o.hN, by
    show relS scope X.env.scope = relS scope c.sc
    rw [o.hsc], o.nd, o.calm, o.grd, o.room, takes_no, (fun h => by cases h), o.lk⟩
theorem folded_no {e : Expr} {env : Env} (h : noSet e = true) : ∀ x, foldedSetIterable e env x = pure x := by
  intro x
  cases e <;> first
    | rfl
    | cases h
theorem s_lc {mu : Bool} {elt : RE} {tg' : RT} {it : RI} {ifs : REs} {own : List Nat} {el tg iter : Expr} {fs : List Expr} {scope : Scope} (o : Okx X D F T M fl C lv W c) (hin : tgIn tg' own = true) (hb : blkC c.N c.sc scope (ownOf c.N own) = true) (hset : noSet iter = true) (hi : PI X tg iter (rdI D T C W it))
    (hg : ∀ (s : Shared) (H : Hp) (Cc : Addr) (cl : List (Str × Addr)) (fp : List Addr), PG (X.blk s H scope (compEnvC scope cl Cc X.env) fp) tg (rdTg D T C tg')) (ht : ∀ (s : Shared) (H : Hp) (Cc : Addr) (cl : List (Str × Addr)) (fp : List Addr), PTs (X.blk s H scope (compEnvC scope cl Cc X.env) fp) fs (rdTs D T C ifs))
    (he : ∀ (s : Shared) (H : Hp) (Cc : Addr) (cl : List (Str × Addr)) (fp : List Addr), PE (X.blk s H scope (compEnvC scope cl Cc X.env) fp) el (rdE D T C W0 elt)) : PE X (.ListComp el [⟨tg, iter, fs, 0⟩] scope pos) (rdE D T C W (.lc mu elt tg' it ifs own)) := by
  have ok : BlkOk X.N X.env.scope scope (ownOf c.N own) := by
    rw [o.hN, o.hsc]
    exact blkOk_by hb
  refine PE.imp (pe_fzB mu (pe_lc o.calm o.nd hi ok hg ht he (folded_no hset))) fun σc H Q z => ?_
  rw [ownOf_snd]
  exact lc_imp hin σc H Q _ (fun _ _ h => h) z
theorem q_setlc {mu : Bool} {i : Nat} {y : Str} {py p2 : Pos} {elt : RE} {tg' : RT} {it : RI} {ifs : REs} {own : List Nat} {el tg iter : Expr} {fs : List Expr} {scope : Scope} (o : Okx X D F T M fl C lv W c) (hy : c.N[i]? = some y) (hyl : c.sc.names.lookup y = some .local) (hln : (py.line == p2.line) = true)
    (hno : (scope.names.any fun (n, k) => n == y && (k == .local || k == .cell)) = false) (hin : tgIn tg' own = true) (hb : blkC c.N c.sc scope (ownOf c.N own) = true) (hset : noSet iter = true) (hi : PI X tg iter (rdI D T C W it))
    (hg : ∀ (s : Shared) (H : Hp) (Cc : Addr) (cl : List (Str × Addr)) (fp : List Addr), PG (X.blk s H scope (compEnvC scope cl Cc X.env) fp) tg (rdTg D T C tg')) (ht : ∀ (s : Shared) (H : Hp) (Cc : Addr) (cl : List (Str × Addr)) (fp : List Addr), PTs (X.blk s H scope (compEnvC scope cl Cc X.env) fp) fs (rdTs D T C ifs))
    (he : ∀ (s : Shared) (H : Hp) (Cc : Addr) (cl : List (Str × Addr)) (fp : List Addr), PE (X.blk s H scope (compEnvC scope cl Cc X.env) fp) el (rdE D T C W0 elt)) : PS X (.Assign [.Name y py] (.ListComp el [⟨tg, iter, fs, 0⟩] scope p2) pos) (rdS D T C W (.setlc mu i elt tg' it ifs own)) := by
  have ok : BlkOk X.N X.env.scope scope (ownOf c.N own) := by
    rw [o.hN, o.hsc]
    exact blkOk_by hb
  have hyl' : X.env.scope.names.lookup y = some .local := by rw [o.hsc]; exact hyl
  refine ⟨fun pins s σc H De I z => ?_⟩
  have core := ps_setLc (i := i) (pos := p2) (spos := pos) (py := py) o.calm o.nd (by rw [o.hN]; exact hy) hyl' (sw_true I.ok.kind hyl' hln hno) hi ok hg ht he (folded_no hset)
  obtain ⟨ι, S, σ, Da, L, G, hw, cn⟩ := z
  rw [ownOf_snd] at core
  have fin : ∀ KQ : VK, (∀ x H1, lockB mu (fun x H1 => De.nx (σc.set i (some x)) H1) x H1 → KQ x H1) → tLc (rdI D T C W it) (rdTg D T C tg') (rdTs D T C ifs) (rdE D T C W0 elt) own σc H KQ := fun KQ hQ =>
    lc_imp (W := W) hin σc H _ KQ hQ ⟨ι, S, σ, _, _, L, G, hw, fun ι1 S1 H1 v x e1 L1 r1 q1 => cn.nx ι1 S1 H1 _ _ e1 L1 ((G.ext e1).set i r1) q1, cn.cx G⟩
  cases mu with
  | true => exact core.run pins s σc H De I (fin _ fun _ _ h => h)
  | false =>
    refine (ps_fz core).run pins s σc H De I (fin _ fun x H1 h => ?_)
    obtain ⟨a, u, rfl, hu, mu, q⟩ := h
    exact ⟨a, u, hu, mu, q⟩

/-! ### pairs, two targets, augmented -/
theorem lcl_of {x : Str} (h : c.lcl x = true) : c.sc.names.lookup x = some .local := by
  unfold Sc.lcl at h
  split at h
  · assumption
  · cases h
theorem noStar_star {vs : List Expr} (h : noStar vs = true) : (vs.any fun | .Starred .. => true | _ => false) = false := by
  induction vs with
  | nil => rfl
  | cons e es ih =>
    cases e <;> first
      | cases h
      | exact ih h
theorem q_par {i j : Nat} {x y : Str} {a b : Expr} {px py pt pt2 : Pos} {kt k2 : Nat} {es : REs} (o : Okx X D F T M fl C lv W c) (hi : c.N[i]? = some x) (hj : c.N[j]? = some y) (hij : i ≠ j) (hb : parB c x y px py [a, b] = true) (hl : 2 = es.len) (ha : PA X [a, b] (rdEs D T C W es)) :
    PS X (.Assign [.Tuple [.Name x px, .Name y py] kt pt] (.Tuple [a, b] k2 pt2) pos) (rdS D T C W (.par [i, j] es)) := by
  unfold parB at hb
  simp only [Bool.and_eq_true, Bool.not_eq_true'] at hb
  obtain ⟨⟨⟨⟨⟨⟨b1, b2⟩, b3⟩, b4⟩, b5⟩, b6⟩, b7⟩ := hb
  have hx : X.env.scope.names.lookup x = some .local := by rw [o.hsc]; exact lcl_of b1
  have hy : X.env.scope.names.lookup y = some .local := by rw [o.hsc]; exact lcl_of b2
  have kx : X.env.kindOf x = some .local := hx
  have ky : X.env.kindOf y = some .local := hy
  refine ⟨fun pins s σc H De I z => ?_⟩
  have bk : X.env.blockKind = .function := by
    unfold Env.blockKind
    rw [I.ok.kind] <;> rfl
  have hw : swappedStores [.Tuple [.Name x px, .Name y py] kt pt] (.Tuple [a, b] k2 pt2) X.env = pure (some [x, y]) := by
    have st := noStar_star b5
    have b4' : (y == x) = false := by
      rw [beq_eq_false_iff_ne] at b4 ⊢
      exact fun z => b4 z.symm
    unfold swappedStores
    simp only [pure_bind]
    split
    · rename_i h
      exfalso
      revert h
      simp [bk]
    · split
      · rename_i h
        exact absurd (st.symm.trans h) Bool.false_ne_true
      · have l3 : ((x == x) && (py.line == px.line)) = true := by simp [b3]
        simp only [kx, ky, b6, b7, List.head?_cons, Option.map_some, Option.getD_some, Expr.pos, List.filterMap_cons, List.filterMap_nil, beq_self_eq_true, b3, Bool.and_self, if_true]
        simp [List.eraseDups_cons, b4, b4', beq_eq_false_iff_ne.mp b4, beq_eq_false_iff_ne.mp b4']
  refine (ps_par (i := i) (j := j) o.calm o.nd (by rw [o.hN]; exact hi) (by rw [o.hN]; exact hj) hij hx hy ha hw).run pins s σc H De I ?_
  obtain ⟨ι, S, σ, Da, L, G, hw, cn⟩ := z
  refine ⟨ι, S, σ, _, _, L, G, hw, fun ι1 S1 H1 vs xs e1 L1 r1 l1 q1 => ?_, cn.cx G⟩
  obtain ⟨v, w, rfl⟩ : ∃ v w, vs = [v, w] := by
    rw [← hl] at l1
    match vs, l1 with
    | [v, w], _ => exact ⟨v, w, rfl⟩
  obtain ⟨x', y', rfl, rx, ry⟩ := rvs2 r1
  exact ⟨x', y', rfl, cn.nx ι1 S1 H1 _ _ e1 L1 (((G.ext e1).set i rx).set j ry) q1⟩
theorem q_par3 {i j l : Nat} {x y w : Str} {a b d : Expr} {px py pw pt pt2 : Pos} {kt k2 : Nat} {es : REs} (o : Okx X D F T M fl C lv W c) (hi : c.N[i]? = some x) (hj : c.N[j]? = some y) (hl : c.N[l]? = some w) (hij : i ≠ j) (hil : i ≠ l) (hjl : j ≠ l) (hb : parB3 c x y w px py pw [a, b, d] = true) (hn : 3 = es.len) (ha : PA X [a, b, d] (rdEs D T C W es)) :
    PS X (.Assign [.Tuple [.Name x px, .Name y py, .Name w pw] kt pt] (.Tuple [a, b, d] k2 pt2) pos) (rdS D T C W (.par [i, j, l] es)) := by
  unfold parB3 at hb
  simp only [Bool.and_eq_true, Bool.not_eq_true'] at hb
  obtain ⟨⟨⟨⟨⟨⟨⟨⟨⟨⟨b1, b2⟩, b0⟩, b3⟩, c3⟩, b4⟩, c4⟩, d4⟩, b5⟩, b6⟩, b7⟩ := hb
  have hx : X.env.scope.names.lookup x = some .local := by rw [o.hsc]; exact lcl_of b1
  have hy : X.env.scope.names.lookup y = some .local := by rw [o.hsc]; exact lcl_of b2
  have hw : X.env.scope.names.lookup w = some .local := by rw [o.hsc]; exact lcl_of b0
  have kx : X.env.kindOf x = some .local := hx
  have ky : X.env.kindOf y = some .local := hy
  have kw : X.env.kindOf w = some .local := hw
  refine ⟨fun pins s σc H De I z => ?_⟩
  have bk : X.env.blockKind = .function := by
    unfold Env.blockKind
    rw [I.ok.kind] <;> rfl
  have hs : swappedStores [.Tuple [.Name x px, .Name y py, .Name w pw] kt pt] (.Tuple [a, b, d] k2 pt2) X.env = pure (some [x, y, w]) := by
    have st := noStar_star b5
    have sw : ∀ {p q : Str}, (p == q) = false → (q == p) = false := fun {p q} e => by
      rw [beq_eq_false_iff_ne] at e ⊢
      exact fun z => e z.symm
    have b4' := sw b4
    have c4' := sw c4
    have d4' := sw d4
    unfold swappedStores
    simp only [pure_bind]
    split
    · rename_i h
      exfalso
      revert h
      simp [bk]
    · split
      · rename_i h
        exact absurd (st.symm.trans h) Bool.false_ne_true
      · simp only [kx, ky, kw, b6, b7, List.head?_cons, Option.map_some, Option.getD_some, Expr.pos, List.filterMap_cons, List.filterMap_nil, beq_self_eq_true, b3, c3, Bool.and_self, if_true]
        simp [List.eraseDups_cons, b4, b4', c4, c4', d4, d4', beq_eq_false_iff_ne.mp b4, beq_eq_false_iff_ne.mp b4', beq_eq_false_iff_ne.mp c4, beq_eq_false_iff_ne.mp c4', beq_eq_false_iff_ne.mp d4, beq_eq_false_iff_ne.mp d4']
  refine (ps_par3 (i := i) (j := j) (l := l) o.calm o.nd (by rw [o.hN]; exact hi) (by rw [o.hN]; exact hj) (by rw [o.hN]; exact hl) hij hil hjl hx hy hw ha hs).run pins s σc H De I ?_
  obtain ⟨ι, S, σ, Da, L, G, hw', cn⟩ := z
  refine ⟨ι, S, σ, _, _, L, G, hw', fun ι1 S1 H1 vs xs e1 L1 r1 l1 q1 => ?_, cn.cx G⟩
  obtain ⟨v, v2, v3, rfl⟩ : ∃ v v2 v3, vs = [v, v2, v3] := by
    rw [← hn] at l1
    match vs, l1 with
    | [v, v2, v3], _ => exact ⟨v, v2, v3, rfl⟩
  obtain ⟨x1, rs, rfl, rx, r1⟩ := r1
  obtain ⟨x2, x3, rfl, ry, rz⟩ := rvs2 r1
  exact ⟨x1, x2, x3, rfl, cn.nx ι1 S1 H1 _ _ e1 L1 ((((G.ext e1).set i rx).set j ry).set l rz) q1⟩
theorem q_asg2 {t u : RT} {r : RE} {t1 t2 e : Expr} (hn : noStarT [t1, t2] = true) (he : PE X e (rdE D T C W r)) (h1 : PG X t1 (rdTg D T C t)) (h2 : PG X t2 (rdTg D T C u)) : PS X (.Assign [t1, t2] e pos) (rdS D T C W (.asg2 t u r)) := by
  refine PS.imp (ps_asg2 he h1 h2 (by rw [(noStarT_cons hn).1, (noStarT_cons (noStarT_cons (env := X.env) hn).2).1] <;> rfl) (by cases t1 <;> rfl)) fun De σc H z => ?_
  obtain ⟨ι, S, σ, Da, L, G, hw, cn⟩ := z
  refine ⟨ι, S, σ, _, _, L, G, hw, fun ι1 S1 H1 v x e1 L1 r1 q1 => ?_, cn.cx G⟩
  refine ⟨ι1, S1, σ, _, v, L1, G.ext e1, r1, q1, fun ι2 S2 H2 σ2 σc2 e2 L2' G2 _ q2 => ?_⟩
  exact ⟨ι2, S2, σ2, _, v, L2', G2, r1.ext e2, q2, fun ι3 S3 H3 σ3 σc3 e3 L3 G3 _ q3 => cn.nx ι3 S3 H3 σ3 σc3 ((e1.trans e2).trans e3) L3 G3 q3⟩
theorem q_asg3 {t u w : RT} {r : RE} {t1 t2 t3 e : Expr} (hn : noStarT [t1, t2, t3] = true) (he : PE X e (rdE D T C W r)) (h1 : PG X t1 (rdTg D T C t)) (h2 : PG X t2 (rdTg D T C u)) (h3 : PG X t3 (rdTg D T C w)) : PS X (.Assign [t1, t2, t3] e pos) (rdS D T C W (.asg3 t u w r)) := by
  refine PS.imp (ps_asg3 he h1 h2 h3 (by rw [(noStarT_cons hn).1, (noStarT_cons (noStarT_cons (env := X.env) hn).2).1, (noStarT_cons (noStarT_cons (env := X.env) (noStarT_cons (env := X.env) hn).2).2).1] <;> rfl) (by cases t1 <;> rfl)) fun De σc H z => ?_
  obtain ⟨ι, S, σ, Da, L, G, hw, cn⟩ := z
  refine ⟨ι, S, σ, _, _, L, G, hw, fun ι1 S1 H1 v x e1 L1 r1 q1 => ?_, cn.cx G⟩
  refine ⟨ι1, S1, σ, _, v, L1, G.ext e1, r1, q1, fun ι2 S2 H2 σ2 σc2 e2 L2' G2 _ q2 => ?_⟩
  refine ⟨ι2, S2, σ2, _, v, L2', G2, r1.ext e2, q2, fun ι3 S3 H3 σ3 σc3 e3 L3 G3 _ q3 => ?_⟩
  exact ⟨ι3, S3, σ3, _, v, L3, G3, (r1.ext e2).ext e3, q3, fun ι4 S4 H4 σ4 σc4 e4 L4 G4 _ q4 => cn.nx ι4 S4 H4 σ4 σc4 (((e1.trans e2).trans e3).trans e4) L4 G4 q4⟩
theorem ip_G (op : Operator) : PIp X op (rdV2 D (wpAug op)) := by
  intro pins s σ H x y v u Q I r1 r2 h
  obtain ⟨ι, S, a, b, Qa, L, ra, rb, hw, cn⟩ := h
  cases op with
  | Add =>
    cases a with
    | int i =>
      cases b with
      | int j =>
        cases rv_int ra; cases rv_int rb
        exact ip_add pins s σ H _ _ v u Q I r1 r2 ⟨i, j, rfl, rfl, cn.here L (show RV D ι H (.int _) (.int _) from rfl) hw⟩
      | _ => exact (show False from hw).elim
    | _ => exact (show False from hw).elim
  | Sub =>
    cases a with
    | int i =>
      cases b with
      | int j =>
        cases rv_int ra; cases rv_int rb
        exact ip_sub pins s σ H _ _ v u Q I r1 r2 ⟨i, j, rfl, rfl, cn.here L (show RV D ι H (.int _) (.int _) from rfl) hw⟩
      | _ => exact (show False from hw).elim
    | _ => exact (show False from hw).elim
  | _ => cases a <;> exact (show False from hw).elim
theorem q_aug {i : Nat} {x : Str} {op : Operator} {r : RE} {e : Expr} {p : Pos} (o : Okx X D F T M fl C lv W c) (h : okPut c i x = true) (he : PE X e (rdE D T C W r)) : PS X (.AugAssign (.Name x p) op e pos) (rdS D T C W (.aug i op r)) := by
  unfold okPut at h
  rw [Bool.and_eq_true] at h
  have hi : X.N[i]? = some x := by rw [o.hN]; exact of_decide_eq_true h.1
  have hp := h.2
  unfold Sc.put at hp
  rw [← o.hsc] at hp
  have key : Loc X.env.scope x ∧ (X.fn x = true ∨ X.env.scope.names.lookup x = some .local) := by
    split at hp
    · exact ⟨.inl (by assumption), .inr (by assumption)⟩
    · exact ⟨.inr (by assumption), .inl (o.hfn hp x (by assumption))⟩
    · cases hp
  refine PS.imp (ps_aug o.nd hi key.1 he (ip_G (D := D) op) key.2) fun De σc H z => ?_
  obtain ⟨ι, S, σ, Da, L, G, hw, cn⟩ := z
  obtain ⟨x0, hx0, hw⟩ := onS_ex hw
  obtain ⟨y0, hy0, r0⟩ := G.at_ i x0 (getS_ex hx0)
  refine ⟨y0, hy0, ι, S, σ, _, _, L, G, hw, fun ι1 S1 H1 v x e1 L1 r1 q1 => ?_, cn.cx G⟩
  refine ⟨ι1, S1, x0, v, _, L1, r0.ext e1, r1, q1, fun ι2 S2 H2 w y e2 L2' r2 q2 => ?_⟩
  exact cn.nx ι2 S2 H2 _ _ (e1.trans e2) L2' ((G.ext (e1.trans e2)).set i r2) q2
theorem q_augF {o' r : RE} {f : Nat} {op : Operator} {e v : Expr} {p : Pos} (o : Okx X D F T M fl C lv W c) (hf : f ∈ fl) (ha : PE X e (rdE D T C W o')) (hv : PE X v (rdE D T C W r)) : PS X (.AugAssign (.Attribute e (dN f) p) op v pos) (rdS D T C W (.augF o' f op r)) := by
  refine PS.imp (ps_fldaug ha hv (rd := rdV2 D (wpAug op)) (fun pins s σ H x y u v Q I rx ry h => ip_G (D := D) op pins s σ H x y u v Q I rx ry h)) fun De σc H z => ?_
  obtain ⟨ι, S, σ, Da, L, G, hw, cn⟩ := z
  refine ⟨ι, S, σ, _, _, L, G, hw, fun ι1 S1 H1 x x' e1 L1 r1 q1 => ?_, cn.cx G⟩
  obtain ⟨a, k, fs, v0, rfl, hs, hc, hl, q1⟩ : ∃ a k fs v0, x = .ref a ∧ S1[a]? = some (.ins k fs) ∧ (T.cls[k]?).isSome = true ∧ fs.lookup f = some v0 ∧ wpE T C r σ S1 (fun y S2 => wpAug op v0 y S2 fun z S3 => ∃ fs', S3[a]? = some (.ins k fs') ∧ fs'.length < 900 ∧ Da.nx σ (S3.set a (.ins k (putFl f z fs')))) (fun x S2 => Da.ex x σ S2) := by
    cases x with
    | ref a =>
      have q1 : (match S1[a]? with
        | some (.ins c fs) => onT (T.cls[c]?).isSome (onS (fs.lookup f) fun v => wpE T C r σ S1 (fun y S2 => wpAug op v y S2 fun z S3 => match S3[a]? with
          | some (.ins c' fs') => onT (decide (c' = c) && decide (fs'.length < 900)) (Da.nx σ (S3.set a (.ins c (putFl f z fs'))))
          | _ => False) (fun x S2 => Da.ex x σ S2))
        | _ => False) := q1
      split at q1
      · rename_i k fs e
        obtain ⟨b, q⟩ := onT_ex q1
        obtain ⟨v0, e2, q⟩ := onS_ex q
        refine ⟨a, k, fs, v0, rfl, e, b, e2, ?_⟩
        have ee : (fun (z : PV) (S3 : Store) => (match S3[a]? with
          | some (.ins c' fs') => onT (decide (c' = k) && decide (fs'.length < 900)) (Da.nx σ (S3.set a (.ins k (putFl f z fs'))))
          | _ => False)) = fun z S3 => ∃ fs', S3[a]? = some (.ins k fs') ∧ fs'.length < 900 ∧ Da.nx σ (S3.set a (.ins k (putFl f z fs'))) := by
          funext z S3
          refine propext ⟨fun h => ?_, fun h => ?_⟩
          · split at h
            · rename_i c' fs' e3
              obtain ⟨b3, q3⟩ := onT_ex h
              rw [Bool.and_eq_true, decide_eq_true_eq, decide_eq_true_eq] at b3
              obtain ⟨rfl, b3⟩ := b3
              exact ⟨fs', e3, b3, q3⟩
            · exact h.elim
          · obtain ⟨fs', e3, b3, q3⟩ := h
            rw [e3]
            exact onT_of (by simp [b3]) q3
        rw [ee] at q
        exact q
      · exact q1.elim
    | _ => exact (show False from q1).elim
  obtain ⟨p, hi, rfl⟩ := rv_ref r1
  obtain ⟨p', dx, fs', hi', hp, n1, n2⟩ := L1.ins hs
  rw [hi] at hi'; cases hi'
  obtain ⟨cd, hcd⟩ := Option.isSome_iff_exists.mp hc
  obtain ⟨c1, c2, c3⟩ := o.lk.ms k cd hcd
  obtain ⟨y0, hy0, r0⟩ := fld_look n1 n2 hl
  refine ⟨p, _, dx, fs', y0, rfl, hp, by rw [o.hK]; exact c1, by rw [o.hK]; exact c3 f hf, hy0, ?_⟩
  refine ⟨ι1, S1, σ, _, _, L1, G.ext e1, q1, fun ι2 S2 H2 y y' e2 L2' r2 q2 => ?_, cn.cx G |>.ext e1⟩
  refine ⟨ι2, S2, v0, y, _, L2', r0.ext e2, r2, q2, fun ι3 S3 H3 w w' e3 L3 r3 q3 => ?_⟩
  obtain ⟨fs2, hs2, hl2, q⟩ := q3
  obtain ⟨p2, dx2, fs2', hi2, hp2, m1, m2⟩ := L3.ins hs2
  rw [(e2.trans e3).get hi] at hi2; cases hi2
  have len : fs2'.length = fs2.length := by simpa using congrArg List.length m1
  obtain ⟨e4, l4⟩ := L3.setFld (f := f) (dx := dx2) ((e2.trans e3).get hi) hs2 m1 m2 r3
  have e14 := ((e1.trans e2).trans e3).trans e4
  exact ⟨dx2, fs2', hp2, by omega, cn.nx _ _ _ σ σc e14 l4 (G.ext e14) q⟩

/-! ### suites, if, while, for -/
theorem qs_nil : PSs X [] (rdSs D T C W .nil) := PSs.imp pss_nil fun De σc H z => by
  obtain ⟨ι, S, σ, Da, L, G, hw, cn⟩ := z
  exact cn.nx ι S H σ σc Ext.refl L G hw
theorem qs_cons {r : RS} {rs : RSs} {st : Stmt} {ss : List Stmt} (h1 : PS X st (rdS D T C W r)) (h2 : PSs X ss (rdSs D T C W rs)) : PSs X (st :: ss) (rdSs D T C W (.cons r rs)) := PSs.imp (pss_cons h1 h2) fun De σc H z => by
  obtain ⟨ι, S, σ, Da, L, G, hw, cn⟩ := z
  exact ⟨ι, S, σ, _, L, G, hw, cn.nxt fun ι1 S1 H1 σ1 σc1 e1 L1 G1 q1 => ⟨ι1, S1, σ1, Da, L1, G1, q1, cn.ext e1⟩⟩
theorem q_if {r : RE} {ra rb : RSs} {e : Expr} {a b : List Stmt} (he : PT X e (rdT D T C W r)) (ha : PSs X a (rdSs D T C W ra)) (hb : PSs X b (rdSs D T C W rb)) : PS X (.If e a b pos) (rdS D T C W (.ife r ra rb)) := PS.imp (ps_if he ha hb) fun De σc H z => by
  obtain ⟨ι, S, σ, Da, L, G, hw, cn⟩ := z
  refine ⟨ι, S, σ, _, _, L, G, hw, fun ι1 S1 H1 k e1 L1 q1 => ?_, cn.cx G⟩
  cases k with
  | true =>
    simp only [if_true] at q1 ⊢
    exact ⟨ι1, S1, σ, Da, L1, G.ext e1, q1, cn.ext e1⟩
  | false =>
    simp only [Bool.false_eq_true, if_false] at q1 ⊢
    exact ⟨ι1, S1, σ, Da, L1, G.ext e1, q1, cn.ext e1⟩
theorem q_whl {r : RE} {ra : RSs} {e : Expr} {a : List Stmt} (hp : PassesOwn (model X.prog X.w) X.A X.env X.xe) (he : PT X e (rdT D T C W r)) (ha : PSs X a (rdSs D T C W ra)) : PS X (.While e a [] pos) (rdS D T C W (.whl r ra)) := PS.imp (ps_while hp he ha) fun De σc H z => by
  obtain ⟨ι, S, σ, Da, L, G, ⟨Wa, ⟨m0, w0⟩, turn⟩, cn⟩ := z
  refine ⟨fun m σc' H' => ∃ ι' S' σ', Ext ι H ι' H' ∧ Ly D ι' H' S' ∧ RG D ι' H' σ' σc' ∧ Wa m σ' S', ⟨m0, ι, S, σ, Ext.refl, L, G, w0⟩, ?_⟩
  rintro m σc1 H1 ⟨ι1, S1, σ1, e1, L1, G1, w1⟩
  refine ⟨ι1, S1, σ1, _, _, L1, G1, turn m σ1 S1 w1, fun ι2 S2 H2 k e2 L2' q2 => ?_, (cn.ext e1).cx G1⟩
  cases k with
  | true =>
    simp only [if_true] at q2 ⊢
    refine ⟨_, fun σ' H' p => p, ι2, S2, σ1, _, L2', G1.ext e2, q2, (cn.ext (e1.trans e2)).loop fun ι3 S3 H3 σ3 σc3 e3 L3 G3 q3 => ?_⟩
    obtain ⟨m', hm, w3⟩ := q3
    exact ⟨m', hm, ι3, S3, σ3, (e1.trans e2).trans e3, L3, G3, w3⟩
  | false =>
    simp only [Bool.false_eq_true, if_false] at q2 ⊢
    exact cn.nx ι2 S2 H2 σ1 σc1 (e1.trans e2) L2' (G1.ext e2) q2
theorem q_for {t : RT} {it : RI} {ra : RSs} {tg iter : Expr} {a : List Stmt} (o : Okx X D F T M fl C lv W c) (hp : PassesOwn (model X.prog X.w) X.A X.env X.xe) (hset : noSet iter = true) (hi : PI X tg iter (rdI D T C W it)) (hg : PG X tg (rdTg D T C t)) (ha : PSs X a (rdSs D T C W ra)) :
    PS X (.For tg iter a [] pos) (rdS D T C W (.for_ t it ra)) := PS.imp (ps_for hp o.calm hi hg ha (folded_no hset)) fun De σc H z => by
  obtain ⟨ι, S, σ, Da, L, G, hw, cn⟩ := z
  refine ⟨ι, S, σ, _, _, L, G, hw, fun ι1 S1 H1 xs st J e1 L1 its st1 run => ?_, cn.cx G⟩
  refine ⟨fun i m σc' H' => m = xs.length - i ∧ i ≤ xs.length ∧ ∃ ι' S' σ', Ext ι1 H1 ι' H' ∧ Ly D ι' H' S' ∧ RG D ι' H' σ' σc' ∧ st S' ∧
    forRun (fun x σ2 S2 Q2 => wpTg T C t x σ2 S2 (fun σ3 S3 => wpSs T C ra σ3 S3 { Da with nx := Q2, ct := Q2, bk := Da.nx }) (fun _ _ => False)) st (xs.drop i) σ' S' Da.nx,
    ⟨xs.length, by simp, Nat.zero_le _, ι1, S1, σ, Ext.refl, L1, G.ext e1, st1, run⟩, ?_⟩
  rintro i m σc2 H2 ⟨rfl, hle, ι2, S2, σ2, e2, L2', G2, st2, run2⟩
  by_cases hlt : i < xs.length
  · have hx : xs[i]? = some xs[i] := List.getElem?_eq_getElem hlt
    rw [List.drop_eq_getElem_cons hlt] at run2
    refine .inr ⟨its.go i _ ι2 S2 H2 e2 L2' st2 hx, _, fun σ' H' p => ⟨xs.length - (i + 1), by omega, p⟩, fun v H3 y => ?_⟩
    obtain ⟨e3, L3, rv⟩ := its.yld i _ ι2 S2 H2 v H3 e2 L2' st2 hx y
    refine ⟨ι2, S2, σ2, _, _, L3, G2.ext e3, rv, run2, fun ι4 S4 H4 σ4 σc4 e4 L4 G4 _ q4 => ?_⟩
    refine ⟨ι4, S4, σ4, _, L4, G4, q4, (cn.ext ((e1.trans e2).trans (e3.trans e4))).loop fun ι5 S5 H5 σ5 σc5 e5 L5 G5 q5 => ?_⟩
    exact ⟨rfl, hlt, ι5, S5, σ5, e2.trans (e3.trans (e4.trans e5)), L5, G5, q5.1, q5.2⟩
  · have he : i = xs.length := by omega
    subst he
    rw [List.drop_length] at run2
    have run2 : Da.nx σ2 S2 := run2
    exact .inl ⟨its.stop ι2 S2 H2 e2 L2' st2, cn.nx ι2 S2 H2 σ2 σc2 (e1.trans e2) L2' G2 run2⟩
end
end Rp
/-! # max with a default -/
namespace Rp
open PySem PySem.Spec PyProof.Rows L2
section
variable {prog : Program} {w : World} {A : Around} {E : Value → Shared → Prop} {R : Result → Shared → Prop} {I : Addr} {fp wr : List Addr} {n : Nat} {P : Nat → Value → Prop} {St : Nat → Heap → Prop}
theorem max_nm : (toString "max" ++ toString ".loop" : String) = "max.loop" := by decide
/-- the walk from the second item on -/
theorem mx_loop (kw : List (Str × Value)) (Wk : Walks prog w A.in1 I fp wr n P St) (bt : Nat → Nat → Bool) (hcmp : CmpOf prog w A.in1 .Gt P bt) (S : Addr) (nS : S ∉ fp) :
    ∀ (k j : Nat) (s : Shared) (vb : Value) (c : Nat), n - (j + 1) = k → j + 1 ≤ n → St (j + 1) s.heap → P (argBest bt j) vb → s.heap.get? S = some { cls := .type "list", dict := none, data := .seq #[vb, vb] c, slots := #[] } →
    (∀ v g tk, P (argBest bt (n - 1)) v → (∀ b o, b ∉ wr → b ≠ S → s.heap.get? b = some o → g.get? b = some o) → R (.ok (.ret v)) { s with heap := g, toks := tk }) →
    codeAny (model prog w) A (.builtin "max.loop" ⟨[.ref I, .none, .ref S], kw⟩) R s := by
  have nW : S ∉ wr := fun h => nS (Wk.sub _ h)
  intro k
  induction k with
  | zero =>
    intro j s vb c hk hj st0 hb hS hR
    have full : j + 1 = n := by omega
    refine codeAny_builtin F.entry_max_loop ?_
    rw [Around.under_plainId F.plain_max_loop _]
    show wpAny _ A.in1 (seqItems? (.ref S) >>= _) _ _ s
    refine wpAny_bind (wpAny_seqItems hS rfl ?_)
    show wpAny _ A.in1 (tryCatch (pyNext (.ref I)) _ >>= _) _ _ s
    refine wpAny_bind (wpAny_tryCatch (Wk.done s _ _ (full ▸ st0) fun g tk kp => ?_))
    have hS' := kp S _ nW hS
    show wpAny _ A.in1 (updateSeq S (fun _ => #[]) >>= _) _ _ _
    refine wpAny_bind (wpAny_updateSeq hS' rfl (wpAny_bind (wpAny_letGo (wpAny_pure ?_))))
    exact hR vb _ tk (by rw [← full]; exact hb) fun b o nb nbS e => (Heap.get?_update_other _ _ (Ne.symm nbS)).trans (kp b o nb e)
  | succ k ih =>
    intro j s vb c hk hj st0 hb hS hR
    have more : j + 1 < n := by omega
    refine codeAny_builtin F.entry_max_loop ?_
    rw [Around.under_plainId F.plain_max_loop _]
    show wpAny _ A.in1 (seqItems? (.ref S) >>= _) _ _ s
    refine wpAny_bind (wpAny_seqItems hS rfl ?_)
    show wpAny _ A.in1 (tryCatch (pyNext (.ref I)) _ >>= _) _ _ s
    refine wpAny_bind (wpAny_tryCatch (Wk.item (j + 1) s _ _ more st0 fun v g tk hP st1 kp => ?_))
    have hS' := kp S _ nW hS
    show wpAny _ A.in1 (tryCatch (holding [v, v] (richCompare .Gt v vb >>= _)) _ >>= _) _ _ _
    refine wpAny_bind (wpAny_tryCatch (wpAny_holding (wpAny_bind (hcmp (j + 1) (argBest bt j) v vb _ _ _ hP hb ?_))))
    refine wpAny_bind (wpAny_holding (wpAny_truthy_bool (wpAny_bind (wpAny_letGo (wpAny_pure ?_)))))
    cases hbt : bt (j + 1) (argBest bt j) with
    | true =>
      simp only [if_true]
      refine wpAny_bind ?_
      refine wpAny_updateSeq hS' rfl (wpAny_bind (wpAny_letGo ?_))
      rw [max_nm]
      refine wpAny_pure ⟨plainId_quiet F.plain_max_loop _, ih (j + 1) _ v _ (by omega) more (Wk.frame _ _ _ st1 fun b hb' o e => ?_) (by simp only [argBest, hbt, if_true]; exact hP) (Heap.get?_update_self _ hS' rfl) fun v' g' tk' hP' kp' => ?_⟩
      · exact (Heap.get?_update_other _ _ (fun z : S = b => nS (by rw [z]; exact hb'))).trans e
      · exact hR v' g' tk' hP' fun b o nb nbS e => kp' b o nb nbS ((Heap.get?_update_other _ _ (Ne.symm nbS)).trans (kp b o nb e))
    | false =>
      simp only [Bool.false_eq_true, if_false]
      refine wpAny_bind (wpAny_letGo ?_)
      rw [max_nm]
      refine wpAny_pure ⟨plainId_quiet F.plain_max_loop _, ih (j + 1) _ vb c (by omega) more st1 (by simp only [argBest, hbt, Bool.false_eq_true, if_false]; exact hb) hS' fun v' g' tk' hP' kp' => ?_⟩
      exact hR v' g' tk' hP' fun b o nb nbS e => kp' b o nb nbS (kp b o nb e)
theorem mx_first (kw : List (Str × Value)) (Wk : Walks prog w A.in1 I fp wr n P St) (bt : Nat → Nat → Bool) (hcmp : CmpOf prog w A.in1 .Gt P bt) (S : Addr) (nS : S ∉ fp) (hn : 0 < n) {s : Shared} {c : Nat} (st0 : St 0 s.heap) (hS : s.heap.get? S = some { cls := .type "list", dict := none, data := .seq #[] c, slots := #[] })
    (hR : ∀ v g tk, P (argBest bt (n - 1)) v → (∀ b o, b ∉ wr → b ≠ S → s.heap.get? b = some o → g.get? b = some o) → R (.ok (.ret v)) { s with heap := g, toks := tk }) :
    codeAny (model prog w) A (.builtin "max.loop" ⟨[.ref I, .none, .ref S], kw⟩) R s := by
  have nW : S ∉ wr := fun h => nS (Wk.sub _ h)
  refine codeAny_builtin F.entry_max_loop ?_
  rw [Around.under_plainId F.plain_max_loop _]
  show wpAny _ A.in1 (seqItems? (.ref S) >>= _) _ _ s
  refine wpAny_bind (wpAny_seqItems hS rfl ?_)
  show wpAny _ A.in1 (tryCatch (pyNext (.ref I)) _ >>= _) _ _ s
  refine wpAny_bind (wpAny_tryCatch (Wk.item 0 s _ _ hn st0 fun v g tk hP st1 kp => ?_))
  have hS' := kp S _ nW hS
  show wpAny _ A.in1 (updateSeq S (fun _ => #[v, v]) >>= _) _ _ _
  refine wpAny_bind ?_
  refine wpAny_updateSeq hS' rfl ?_
  rw [max_nm]
  refine wpAny_pure ⟨plainId_quiet F.plain_max_loop _, mx_loop kw Wk bt hcmp S nS _ 0 _ v _ rfl hn (Wk.frame _ _ _ st1 fun b hb' o e => ?_) hP (Heap.get?_update_self _ hS' rfl) fun v' g' tk' hP' kp' => ?_⟩
  · exact (Heap.get?_update_other _ _ (fun z : S = b => nS (by rw [z]; exact hb'))).trans e
  · exact hR v' g' tk' hP' fun b o nb nbS e => kp' b o nb nbS ((Heap.get?_update_other _ _ (Ne.symm nbS)).trans (kp b o nb e))
/-- none at all: the default -/
theorem mx_none {nm : Str} {d : Value} (Wk : Walks prog w A.in1 I fp wr 0 P St) (S : Addr) (nS : S ∉ fp) {s : Shared} {c : Nat} (st0 : St 0 s.heap) (hS : s.heap.get? S = some { cls := .type "list", dict := none, data := .seq #[] c, slots := #[] })
    (hR : ∀ g tk, (∀ b o, b ∉ wr → b ≠ S → s.heap.get? b = some o → g.get? b = some o) → R (.ok (.ret d)) { s with heap := g, toks := tk }) :
    codeAny (model prog w) A (.builtin "max.loop" ⟨[.ref I, .none, .ref S], [(nm, d)]⟩) R s := by
  refine codeAny_builtin F.entry_max_loop ?_
  rw [Around.under_plainId F.plain_max_loop _]
  show wpAny _ A.in1 (seqItems? (.ref S) >>= _) _ _ s
  refine wpAny_bind (wpAny_seqItems hS rfl ?_)
  show wpAny _ A.in1 (tryCatch (pyNext (.ref I)) _ >>= _) _ _ s
  refine wpAny_bind (wpAny_tryCatch (Wk.done s _ _ st0 fun g tk kp => ?_))
  show wpAny _ A.in1 (do rule _; ret d) _ _ _
  refine wpAny_bind (wpAny_rule (wpAny_pure ?_))
  exact hR g tk fun b o nb _ e => kp b o nb e
end
section
variable {prog : Program} {w : World} {A : Around} {E : Value → Shared → Prop} {s : Shared}
theorem call_tree_kw {id : String} {b : Builtin} {args : List Value} {kw : List (Str × Value)} {Q : Value → Shared → Prop} (hk : builtinKind id = none) (hp : plainId id = true) (hb : entryFor table id = some b) (ha : argsOk id ⟨args, kw⟩)
    (hc : wpAny (model prog w) A.in1 (b ⟨args, kw⟩) (fun fin s' => match fin with
      | .done f => (match (Except.ok f : Result) with | .ok (.ret v) => Q v s' | .ok _ => False | .error e => E e s')
      | .again c' => c'.quiet = true ∧ codeAny (model prog w) A c' (fun r s' => match r with | .ok (.ret v) => Q v s' | .ok _ => False | .error e => E e s') s') E s) :
    wpAny (model prog w) A (call (.builtin id) args kw) Q E s := by
  refine wpAny_call (codeAny_call_builtin hp hb ?_)
  simp only [checkBuiltinCall, hk]
  cases sg : Manifest.signature? id with
  | none => exact wpAny_pure hc
  | some sig =>
    simp only [argsOk, sg] at ha
    have h2 : Bind.checkArgs id sig ⟨args, kw⟩ = pure () := ha
    show wpAny _ A.in1 (Bind.checkArgs id sig ⟨args, kw⟩) _ _ s
    rw [h2]
    exact wpAny_pure hc
theorem args_maxD (a d : Value) : argsOk "max" ⟨[a], [(Str.ofString "default", d)]⟩ := by
  unfold argsOk
  kernel_rfl
theorem bind_maxD (d : Value) : Builtin.Builtins.bindParams "max" ["key", "default"] 0 ⟨[], [(Str.ofString "default", d)]⟩ = pure [none, some d] := by kernel_rfl
/-- max(list, default=d) of numbers -/
theorem max_dflt (hh : A.handled = none) {l : Addr} {its : List Value} {ns : List Int} {d : Value} {Q : Value → Shared → Prop} (hl : s.heap.IsList l its.toArray) (hi : IntsAre its ns)
    (h0 : ns = [] → ∀ g tk, (∀ b o, s.heap.get? b = some o → g.get? b = some o) → Q d { s with heap := g, toks := tk })
    (h1 : ns ≠ [] → ∀ g tk m t, (∀ b o, s.heap.get? b = some o → g.get? b = some o) → m ∈ ns → (∀ a ∈ ns, a ≤ m) → Q (.int m t) { s with heap := g, toks := tk }) :
    wpAny (model prog w) A (call (.builtin "max") [.ref l] [(Str.ofString "default", d)]) Q E s := by
  refine call_tree_kw F.kind_max F.plain_max F.entry_max (args_maxD _ _) ?_
  show wpAny _ A.in1 (Builtin.Builtins.bindParams "max" ["key", "default"] 0 ⟨[], [(Str.ofString "default", d)]⟩ >>= _) _ _ s
  refine wpAny_bind (wpAny_of_eq (bind_maxD d) ?_)
  refine wpAny_bind (wpAny_pure ?_)
  have hlt : l < s.heap.objs.size := by
    obtain ⟨o, e, _⟩ := id hl
    exact Heap.lt_size e
  refine wpAny_bind (wpAny_pyIter_list hl ?_)
  refine wpAny_bind (wpAny_newObj_type ?_)
  rw [max_nm]
  generalize hg : s.heap.push { cls := .type "list_iterator", data := .fields #[.ref l, .int 0 0] } = g1
  have k1 : ∀ b o, s.heap.get? b = some o → g1.get? b = some o := fun b o e => by rw [← hg]; exact Heap.get?_push_of_some _ e
  have it1 : g1.IsListIter s.heap.objs.size l 0 := by rw [← hg]; exact ⟨_, Heap.get?_push_size _ rfl, rfl, rfl⟩
  have sz1 : g1.objs.size = s.heap.objs.size + 1 := by rw [← hg, Heap.size_push]
  have l1 : g1.IsList l its.toArray := by
    obtain ⟨o, e, r⟩ := hl
    exact ⟨o, k1 _ o e, r⟩
  have Wk := Walks.list (prog := prog) (w := w) (A := A.in1) hh s.heap.objs.size l (Nat.ne_of_lt hlt) its.toArray
  have nS : g1.objs.size ∉ [s.heap.objs.size, l] := by
    rw [sz1]
    intro z
    rcases List.mem_cons.mp z with z | z
    · exact absurd z (Nat.ne_of_gt (Nat.lt_succ_self _))
    · rw [List.mem_singleton] at z
      exact absurd z (Nat.ne_of_gt (Nat.lt_succ_of_lt hlt))
  refine wpAny_pure ⟨plainId_quiet F.plain_max_loop _, ?_⟩
  have st0 : ∀ o, (g1.push o).IsListIter s.heap.objs.size l 0 ∧ (g1.push o).IsList l its.toArray := fun o => by
    obtain ⟨u, e, r⟩ := it1
    obtain ⟨u2, e2, r2⟩ := l1
    exact ⟨⟨u, Heap.get?_push_of_some _ e, r⟩, ⟨u2, Heap.get?_push_of_some _ e2, r2⟩⟩
  have old : ∀ o b u, s.heap.get? b = some u → b ∉ [s.heap.objs.size] ∧ b ≠ g1.objs.size ∧ (g1.push o).get? b = some u := fun o b u e => by
    have hb := Heap.lt_size e
    refine ⟨fun z => absurd (List.mem_singleton.mp z) (Nat.ne_of_lt hb), ?_, Heap.get?_push_of_some _ (k1 b u e)⟩
    rw [sz1]
    exact Nat.ne_of_lt (Nat.lt_succ_of_lt hb)
  have hlen : its.length = ns.length := by
    have := hi.length
    omega
  cases ns with
  | nil =>
    have e0 : its = [] := List.length_eq_zero_iff.mp hlen
    subst e0
    refine mx_none Wk g1.objs.size nS (st0 _) (Heap.get?_push_size _ rfl) fun g tk kp => ?_
    exact h0 rfl g tk fun b o e => (fun q => kp b o q.1 q.2.1 q.2.2) (old { cls := .type "list", data := .seq #[] } b o e)
  | cons n0 r =>
    have pos : 0 < its.toArray.size := by
      rw [List.size_toArray, hlen]
      exact Nat.succ_pos _
    have val : ∀ (i : Nat) (v : Value), its.toArray[i]? = some v → ∃ t, v = Value.int ((n0 :: r).getD i 0) t := fun i v e => hi.int_at i v (by simpa using e)
    refine mx_first _ Wk _ (CmpOf.ints_gt (fun i => (n0 :: r).getD i 0) val) g1.objs.size nS pos (st0 _) (Heap.get?_push_size _ rfl) fun v g tk hP kp => ?_
    obtain ⟨t, rfl⟩ := val _ _ hP
    obtain ⟨b1, b2⟩ := argBest_gt (fun i => (n0 :: r).getD i 0) (its.toArray.size - 1)
    have hsz : its.toArray.size = (n0 :: r).length := by rw [List.size_toArray, hlen]
    refine h1 (by simp) g tk _ t (fun b o e => (fun q => kp b o q.1 q.2.1 q.2.2) (old { cls := .type "list", data := .seq #[] } b o e)) ?_ fun a ha => ?_
    · exact PySem.getD_mem (by omega)
    · obtain ⟨j, hj, rfl⟩ := mem_getD ha
      exact b2 j (by omega)
end
section
variable {X : Cx} {D : Ad} {F : Fd} {T : Tab} {M : Nm} {fl : List Nat} {C : CS} {lv : Nat} {W : WX} {c : Sc} {pos : Pos}
theorem ks_is {ks : List String} {b : Blt} {vs ws : List PV} {S : Store} {Q : QV} (h : wpBltK b vs ks ws S Q) : b = .max ∧ ks = ["default"] ∧ ∃ x z, vs = [x] ∧ ws = [z] ∧ ∃ ns : List Int, lstOf S x = some (ns.map .int) ∧ Q (if ns = [] then z else .int (maxI ns)) S := by
  have fin : ∀ {x z : PV}, (onS (lstOf S x) fun xs => onS (intsOf xs) fun ns => Q (match ns with
    | [] => z
    | n :: r => .int (maxI (n :: r))) S) → ∃ ns : List Int, lstOf S x = some (ns.map .int) ∧ Q (if ns = [] then z else .int (maxI ns)) S := fun h => by
    obtain ⟨xs, e1, h⟩ := onS_ex h
    obtain ⟨ns, e2, h⟩ := onS_ex h
    rw [ints_eq e2] at e1
    refine ⟨ns, e1, ?_⟩
    cases ns with
    | nil => exact h
    | cons n r => exact h
  unfold wpBltK at h
  split at h
  · refine ⟨rfl, rfl, ?_⟩
    match vs, h with
    | [x], h =>
      match ws, h with
      | [z], h => exact ⟨x, z, rfl, rfl, fin h⟩
      | [], h => exact h.elim
      | _ :: _ :: _, h => exact h.elim
    | [], h => exact h.elim
    | _ :: _ :: _, h => exact h.elim
  · exact h.elim
theorem s_bltK {b : Blt} {es kes : REs} {ks : List String} {x : Str} {as : List Expr} {kws : List Keyword} {p : Pos} (o : Okx X D F T M fl C lv W c) (hb0 : b = .max) (hx : okGl c b.nm x = true) (hb : (M.nb.any (· == b.nm)) = true) (ha : PA X as (rdEs D T C W es)) (hn : noStar as = true) (hne : (!as.isEmpty) = true)
    (hk : PK X kws (rdEs D T C W kes)) (hnm : namesOf kws = ks.map fun k => some (sN k)) : PE X (.Call (.Name x p) as kws pos) (rdE D T C W (.bltK b es ks kes)) := by
  subst hb0
  obtain ⟨e, hg, hd, hnn⟩ := gl_of o hx
  subst e
  obtain ⟨y, hy, e⟩ := List.any_eq_true.mp hb
  have e : y = Blt.max.nm := eq_of_beq e
  subst e
  have hm := o.lk.nb _ hy
  refine ⟨fun pins st σc H Q I z => ?_⟩
  obtain ⟨ι, S, σ, Qa, Ra, L, G, hw, cn, cx⟩ := z
  obtain ⟨k1, k2, k3⟩ := kw_names (env := X.env) (pos := pos) hnm
  have hv := boot_blt .max
  cases as with
  | nil => cases hne
  | cons a as =>
    refine wpAny_Call_Name_kw (ld_blt I hg hm hv ?_ hnn hd)
    refine callWith_kw (thn (es_run ha I L G hw cx pos) fun us s1 h1 => ?_) (by rw [(noStar_cons hn).1] <;> rfl) (noStar_any hn) k1 k3
    obtain ⟨xs, H1, ι1, S1, vs, I1, rx, e1, L1, r1, l1, q1⟩ := h1
    refine thn (ks_run hk I1 L1 (G.ext e1) q1 (cx.ext e1) pos) fun u2 s2 h2 => ?_
    obtain ⟨ys, H2, ι2, S2, ws, I2, ry, e2, L2', r2, l2, q2⟩ := h2
    obtain ⟨_, rfl, v, z, rfl, rfl, ns, hl, q⟩ := ks_is q2
    obtain ⟨x', rfl, rv⟩ := rvs1 (r1.ext e2)
    obtain ⟨z', rfl, rz⟩ := rvs1 r2
    obtain ⟨u, rfl, ru⟩ := rx.one
    obtain ⟨u', rfl, ru'⟩ := ry.one
    rw [k2]
    obtain ⟨a', ws', rfl, hq, t⟩ := lst_at L2' hl rv
    have t' := t.ints
    subst t'
    rw [← o.hK] at hq
    obtain ⟨its, rits, hli, _⟩ := I2.list hq
    cases ru
    have c2 := cn.ext (e1.trans e2)
    refine max_dflt (I2.ok.hd o.calm) hli.isList rits.ints (fun e g tk kp => ?_) fun e g tk m t kp h1 h2 => ?_
    · rw [if_pos e] at q
      exact ⟨z', H2, I2.kept kp, ru', c2.here L2' rz q⟩
    · rw [if_neg e, ← maxI_uniq h1 h2] at q
      exact ⟨.int m, H2, I2.kept kp, ⟨_, rfl⟩, c2.here L2' (show RV D ι2 H2 (.int m) (.int m) from rfl) q⟩
end
end Rp
/-! # What stands in an except clause -/
namespace Rp
open PySem PySem.Spec PySem.Calls PyProof.Rows L2
/-- nothing goes, things may come -/
def Gr (H H' : Hp) : Prop := ∀ b o, H b = some o → H' b = some o
theorem Gr.refl {H : Hp} : Gr H H := fun _ _ h => h
theorem Gr.trans {H H1 H2 : Hp} (a : Gr H H1) (b : Gr H1 H2) : Gr H H2 := fun x o h => b x o (a x o h)
theorem gr_new {H : Hp} {p : Addr} {o : HO} (h : H p = none) : Gr H (upd H p o) := fun b u e => by
  rw [upd_ne]
  · exact e
  · rintro rfl
    rw [h] at e
    cases e
section
variable {D : Ad} {ι : List Addr} {H H' : Hp} {S : Store}
theorem ext_gr (g : Gr H H') : Ext ι H ι H' := ⟨⟨[], by simp, by simp⟩, fun b o _ h _ => g b o h, fun b o h _ => g b o h, fun b o h => ⟨o, g b o h⟩⟩
theorem ly_gr (L : Ly D ι H S) (g : Gr H H') : Ly D ι H' S := by
  refine ⟨L.len, L.nd, fun i u e => ?_, tabs_all L.tb g⟩
  obtain ⟨a, h, e1, e2, e3⟩ := L.at_ i u e
  exact ⟨a, h, e1, g a h e2, e3.exi (ext_gr g).exi⟩
theorem rx_gr {x : Ex} {cls : Value} {d : Option Addr} (r : RX D ι H x cls d) (g : Gr H H') : RX D ι H' x cls d := by
  refine ⟨r.1, ?_⟩
  rcases r.2 with q | ⟨dd, fs', e1, e2, e3, e4⟩
  · exact .inl q
  · exact .inr ⟨dd, fs', e1, g dd _ e2, e3, e4.exi (ext_gr g).exi⟩
end
/-- the reading of an expression -/
def rdH (D : Ad) (T : Tab) (x : Ex) (a : Addr) (i : Nat) (cls : Value) (d : Option Addr) (r : HE) : TE := fun σc H Q => ∃ ι S σ v, Ly D ι H S ∧ RG D ι H σ σc ∧ σc[i]? = some (some (V.ref a)) ∧ RX D ι H x cls d ∧ evH T x σ r = some v ∧
  ∀ H1 y, Gr H H1 → RV D ι H1 v y → Q y H1
def rdHs (D : Ad) (T : Tab) (x : Ex) (a : Addr) (i : Nat) (cls : Value) (d : Option Addr) (r : HEs) : TA := fun σc H Q => ∃ ι S σ vs, Ly D ι H S ∧ RG D ι H σ σc ∧ σc[i]? = some (some (V.ref a)) ∧ RX D ι H x cls d ∧ evHs T x σ r = some vs ∧
  ∀ H1 ys, Gr H H1 → RVs D ι H1 vs ys → Q ys H1
section
variable {X : Cx} {D : Ad} {F : Fd} {T : Tab} {M : Nm} {fl : List Nat} {C : CS} {lv : Nat} {W : WX} {c : Sc}
/-- isinstance, asked of the error that is held -/
theorem call_isX {a : Addr} {A : Addr} {oe : Obj} {pn : List (Addr × Obj)} {d : Option Addr} (cl : (PySem.W.clsIn X.K A).isSome = true) (ca : PySem.W.findIn X.K (.ref A) "__class__" = some (some (.builtin "object.__class__"))) (hn : PySem.W.specialIn X.K (.builtin "object.__class__") "__get__" = some (some (.builtin "getset_descriptor.__get__")))
    (ht : PySem.W.takesIn X.K (.builtin "object.__class__") = some true) (hm : PySem.W.mroIn X.K A (.type "object") = some true) (xf : XfC X.K A) (hz : Zc (.ref A) d oe) (hf : ∃ vs, oe.data = .fields vs) :
    CallR (X.suite a ((a, oe) :: pn)) (.builtin "isinstance") (fun xs H Q => (d = none ∨ ∃ dd fs, d = some dd ∧ H dd = some (.xd fs)) ∧ ∃ (t : V) (b : Bool), xs = [.ref a, t] ∧ Q (.bl b) H ∧ ((∃ cv, (∀ u, RelV t u → u = cv) ∧ PySem.W.kitOne X.K (.ref A) cv = some b) ∨
      ∃ p ts us, t = .ref p ∧ H p = some (.tup ts) ∧ (∀ vs, Vals ts vs → vs = us) ∧ PySem.W.kitAny X.K (.ref A) us = some b)) := by
  intro pins s σ H xs us Q I r h
  obtain ⟨hd, t, b, rfl, q, ht'⟩ := h
  cases r with
  | cons rx rr =>
    cases rr with
    | cons rt rr =>
      cases rr
      cases rx
      obtain ⟨hget, _⟩ := I.pin (a, oe) (List.mem_append.mpr (.inl List.mem_cons_self))
      have hnc : PySem.W.notCls oe = true := by
        obtain ⟨vs, hv⟩ := hf
        unfold PySem.W.notCls
        rw [hv] <;> rfl
      have J : ∃ od, PySem.W.InstAt s.heap a oe A od := by
        rcases hd with rfl | ⟨dd, fs, rfl, e⟩
        · exact ⟨none, hget, hz.1, hnc, by rw [hz.2]; trivial⟩
        · have hx : ObjOk X.prog X.w H s.heap dd (.xd fs) := I.hok dd _ e
          obtain ⟨mA, hns, hr⟩ := hx
          obtain ⟨od, ho, hl⟩ := lookIn_ns hns
          exact ⟨some od, hget, hz.1, hnc, by rw [hz.2]; exact ho⟩
      obtain ⟨od, J⟩ := J
      have fin : ∀ tk, EP (X.suite a ((a, oe) :: pn)) pins σ Q (.bool b) { s with toks := tk } := fun tk => ⟨.bl b, H, I.kept (t' := tk) fun _ _ z => z, rfl, q⟩
      rcases ht' with ⟨cv, hcv, e⟩ | ⟨p, ts, us, rfl, hp, hv, e⟩
      · have ec := hcv _ rt
        subst ec
        exact PySem.W.kia_one (PySem.W.kitx_exc cl xf.ga xf.gg xf.exC ca hn ht hm) I.kIn J e (fun z => nomatch z) fin
      · cases rt
        have hp2 : SqT X.K H p ts := .inl (.inl hp)
        obtain ⟨its, hv2, ⟨⟨oc, od2, dt, sl⟩, h1, h2, n, h3⟩, _⟩ := I.tuple (X := X.suite a ((a, oe) :: pn)) hp2
        simp only at h2 h3
        subst h2 h3
        have e1 := hv its hv2
        subst e1
        exact PySem.W.kia_tup (PySem.W.kitx_exc cl xf.ga xf.gg xf.exC ca hn ht hm) I.kIn J h1 e (fun z => nomatch z) fin
/-! ### expressions -/
/-- what is told of the error held, in the suite -/
structure HX (X : Cx) (D : Ad) (F : Fd) (T : Tab) (M : Nm) (C : CS) (lv : Nat) (W : WX) (c : Sc) (x : Ex) (i : Nat) (n : Str) (a : Addr) (oe : Obj) (d : Option Addr) : Prop where
  o : Okx X D F T M M.fl C lv W c
  ed : ∃ e, T.exs[x.cls]? = some e ∧ XcF X.prog X.w D X.mg X.base T x.cls e
  gx : ∀ s k, (s, k) ∈ M.gx → X.mg (sN s) = some (.ref (D.xa k)) ∧ k < T.exs.length
  hi : c.N[i]? = some n
  hl : c.lcl n = true
  hz : Zc (.ref (D.xa x.cls)) d oe
  hf : ∃ vs, oe.data = .fields vs
theorem lcl_vis {c : Sc} {n : Str} (h : c.lcl n = true) : c.sc.names.lookup n = some .local := by
  unfold Sc.lcl at h
  split at h
  · assumption
  · cases h
section
variable {x : Ex} {i : Nat} {n : Str} {a : Addr} {oe : Obj} {d : Option Addr} {pn : List (Addr × Obj)} {pos : Pos}
theorem h_err (hx : HX X D F T M C lv W c x i n a oe d) (nd : (n == ("__debug__" : Str)) = false) (nc : (n == ("__classdict__" : Str)) = false) : PE (X.suite a ((a, oe) :: pn)) (.Name n pos) (tVar i) :=
  pe_var (X := X.suite a ((a, oe) :: pn)) (show X.N[i]? = some n by rw [hx.o.hN]; exact hx.hi) (.inl (show X.env.scope.names.lookup n = some .local by rw [hx.o.hsc]; exact lcl_vis hx.hl)) nd nc
theorem h_const {v : PV} {k : Const} {j : Nat} (h : okConst v k = true) : PE (X.suite a ((a, oe) :: pn)) (.Constant k j pos) (rdH D T x a i (.ref (D.xa x.cls)) d (.const v)) := by
  have fin : ∀ (y : V), (∀ ι H, RV D ι H v y) → ∀ σc H Q, rdH D T x a i (.ref (D.xa x.cls)) d (.const v) σc H Q → Q y H := fun y r σc H Q z => by
    obtain ⟨ι, S, σ, v', L, G, hs, rx, ev, q⟩ := z
    cases ev
    exact q H y Gr.refl (r ι H)
  cases v with
  | non =>
    cases k with
    | none => exact PE.imp pe_non fun σc H Q z => fin _ (fun _ _ => rfl) σc H Q z
    | _ => cases h
  | bl b =>
    cases k with
    | bool b' =>
      obtain rfl : b = b' := eq_of_beq h
      exact PE.imp pe_bl fun σc H Q z => fin _ (fun _ _ => rfl) σc H Q z
    | _ => cases h
  | int b =>
    cases k with
    | int b' =>
      obtain rfl : b = b' := eq_of_beq h
      exact PE.imp pe_int fun σc H Q z => fin _ (fun _ _ => rfl) σc H Q z
    | _ => cases h
  | str b =>
    cases k with
    | str b' =>
      obtain rfl : b = b' := of_decide_eq_true h
      exact PE.imp pe_str fun σc H Q z => fin _ (fun _ _ => rfl) σc H Q z
    | _ => cases h
  | _ => cases k <;> cases h
theorem h_loc {j : Nat} {y : Str} (hx : HX X D F T M C lv W c x i n a oe d) (h : okName c j y = true) : PE (X.suite a ((a, oe) :: pn)) (.Name y pos) (rdH D T x a i (.ref (D.xa x.cls)) d (.loc j)) := by
  unfold okName at h
  simp only [Bool.and_eq_true, Bool.not_eq_true'] at h
  obtain ⟨⟨⟨h1, h2⟩, h3⟩, h4⟩ := h
  have hN : X.N[j]? = some y := by rw [hx.o.hN]; exact of_decide_eq_true h1
  have hv : Vis X.env.scope y := by
    unfold Sc.vis at h2
    rw [hx.o.hsc]
    split at h2
    · exact .inl (by assumption)
    · exact .inr (.inl (by assumption))
    · exact .inr (.inr (by assumption))
    · cases h2
  refine PE.imp (pe_var (X := X.suite a ((a, oe) :: pn)) hN hv h3 h4) fun σc H Q z => ?_
  obtain ⟨ι, S, σ, v', L, G, hs, rx, ev, q⟩ := z
  have e : σ[j]? = some (some v') := by
    have ev : getS σ j = some v' := ev
    unfold getS at ev
    revert ev
    cases σ[j]? with
    | none => intro ev; cases ev
    | some u => intro ev; cases u with
      | none => cases ev
      | some u => cases ev; rfl
  obtain ⟨u, e1, r1⟩ := G.at_ j v' e
  exact ⟨u, e1, q H u Gr.refl r1⟩
theorem h_fld {f : Nat} {p : Pos} {y : Str} (hx : HX X D F T M C lv W c x i n a oe d) (nd : (n == ("__debug__" : Str)) = false) (nc : (n == ("__classdict__" : Str)) = false) (hy : y = dN f) : PE (X.suite a ((a, oe) :: pn)) (.Attribute (.Name n p) y pos) (rdH D T x a i (.ref (D.xa x.cls)) d (.fld f)) := by
  subst hy
  refine ⟨fun pins s σc H Q I z => ?_⟩
  obtain ⟨ι, S, σ, v', L, G, hs, rx, ev, q⟩ := z
  obtain ⟨e, he, XF⟩ := hx.ed
  obtain ⟨e', he', ev⟩ := Option.bind_eq_some_iff.mp (show ((T.exs[x.cls]?).bind fun d => if d.fs.contains f = true then x.fs.lookup f else none) = some v' from ev)
  rw [he] at he'
  cases he'
  split at ev
  · rename_i hfm
    have hfm : f ∈ e.fs := by simpa using hfm
    have hK : X.K = D.K := hx.o.hK
    have XFx : XfC X.K (D.xa x.cls) := by rw [hK]; exact XF.xf
    have hno : PySem.W.findIn X.K (.ref (D.xa x.cls)) (dN f) = some none := by rw [hK]; exact XF.nf f hfm
    rcases rx.2 with ⟨e0, _⟩ | ⟨dd, fs', e1, e2, e3, e4⟩
    · rw [e0] at ev
      cases ev
    · obtain ⟨y, hl, ry⟩ := fld_look e3 e4 ev
      refine (pe_xf XFx hno hx.hz hx.hf (h_err hx nd nc)).run pins s σc H Q I ?_
      exact ⟨V.ref a, hs, rfl, rfl, dd, fs', y, e1, e2, hl, q H y Gr.refl ry⟩
  · cases ev
theorem h_name (hx : HX X D F T M C lv W c x i n a oe d) {p : String × (Nat ⊕ String)} {e : Expr} (h : okTg M c p e = true) {b : Bool} (hb : exIs T x.cls p.2 = some b) : ∃ (t : V) (cv : Value), PE (X.suite a ((a, oe) :: pn)) e (tC t) ∧ (∀ u, RelV t u → u = cv) ∧ PySem.W.kitOne X.K (.ref (D.xa x.cls)) cv = some b := by
  obtain ⟨ed, he, XF⟩ := hx.ed
  have hK : X.K = D.K := hx.o.hK
  unfold exIs at hb
  rw [he, Option.bind_some] at hb
  cases e with
  | Name z q =>
    unfold okTg at h
    rw [Bool.and_eq_true] at h
    obtain ⟨h1, h2⟩ := h
    obtain ⟨ez, hg, hd, hnn⟩ := gl_of hx.o h1
    subst ez
    obtain ⟨s, tg⟩ := p
    cases tg with
    | inl k =>
      obtain ⟨pr, hm, e2⟩ := List.any_eq_true.mp h2
      obtain ⟨s', k'⟩ := pr
      simp only [Bool.and_eq_true, beq_iff_eq] at e2
      obtain ⟨rfl, rfl⟩ := e2
      obtain ⟨g1, g2⟩ := hx.gx _ _ hm
      simp only at hb
      rw [if_pos g2] at hb
      cases hb
      exact ⟨.ref (D.xa k'), .ref (D.xa k'), pe_glob (X := X.suite a ((a, oe) :: pn)) hg g1 rfl hd, fun u r => r, by rw [hK]; exact (XF.ii k' g2).1⟩
    | inr s2 =>
      simp only [Bool.and_eq_true, beq_iff_eq] at h2
      obtain ⟨e0, h3⟩ := h2
      have e0 : s2 = s := e0
      subst e0
      obtain ⟨y, hy, ey⟩ := List.any_eq_true.mp h3
      have ey : y = s2 := eq_of_beq ey
      subst ey
      simp only at hb
      split at hb
      · rename_i hbx
        cases hb
        have hbx : y ∈ bxs := by simpa using hbx
        have hv : bootBuiltins (sN y) = some (.type y) := by
          simp only [bxs, List.mem_cons, List.not_mem_nil, or_false] at hbx
          rcases hbx with rfl | rfl | rfl
          · exact PyProof.Rows.Boot.«ValueError»
          · exact PyProof.Rows.Boot.«ArithmeticError»
          · exact PyProof.Rows.Boot.«Exception»
        exact ⟨.ty y, .type y, pe_bltn (X := X.suite a ((a, oe) :: pn)) hg (hx.o.lk.nb _ hy) hv rfl hnn hd, fun u r => r, by rw [hK]; exact XF.ib y hbx⟩
      · cases hb
  | _ => cases h
theorem nmE_eq {e : Expr} {y : Str} (h : nmE e = some y) : ∃ p, e = .Name y p := by
  cases e with
  | Name z p =>
    cases h
    exact ⟨p, rfl⟩
  | _ => cases h
theorem tupE_eq {e : Expr} {ts : List Expr} (h : tupE e = some ts) : ∃ k p, e = .Tuple ts k p := by
  cases e with
  | Tuple ts k p =>
    cases h
    exact ⟨k, p, rfl⟩
  | _ => cases h
theorem okIs_eq {one : Bool} {ps : List (String × (Nat ⊕ String))} {g : Expr} {as : List Expr} {kws : List Keyword} (h : okIs M c n one ps g as kws = true) : ∃ (z : Str) (q : Pos) (u : Unit) (q2 : Pos) (t : Expr), g = .Name z q ∧ as = [.Name n q2, t] ∧ kws = [] ∧ okGl c "isinstance" z = true ∧
    (M.nb.any (· == "isinstance")) = true ∧ ((one = true ∧ ∃ pr, ps = [pr] ∧ okTg M c pr t = true) ∨ (one = false ∧ ∃ ts k p2, t = .Tuple ts k p2 ∧ okTgs M c ps ts = true ∧ ts.length ≤ 1000)) := by
  unfold okIs at h
  match as, h with
  | [], h => cases h
  | [_], h => cases h
  | _ :: _ :: _ :: _, h => cases h
  | [u, t], h =>
    simp only [Bool.and_eq_true, decide_eq_true_eq] at h
    obtain ⟨⟨⟨⟨h1, h2⟩, h3⟩, h4⟩, h5⟩ := h
    have hk : kws = [] := by
      cases kws with
      | nil => rfl
      | cons _ _ => cases h1
    cases eg : nmE g with
    | none => rw [eg] at h2; cases h2
    | some z =>
      rw [eg] at h2
      obtain ⟨q, rfl⟩ := nmE_eq eg
      obtain ⟨q2, rfl⟩ := nmE_eq h4
      refine ⟨z, q, (), q2, t, rfl, rfl, hk, h2, h3, ?_⟩
      cases one with
      | true =>
        rw [if_pos rfl] at h5
        match ps, h5 with
        | [], h5 => cases h5
        | _ :: _ :: _, h5 => cases h5
        | [pr], h5 => exact .inl ⟨rfl, pr, rfl, h5⟩
      | false =>
        rw [if_neg (by decide)] at h5
        cases et : tupE t with
        | none => rw [et] at h5; cases h5
        | some ts =>
          rw [et] at h5
          simp only [Bool.and_eq_true, decide_eq_true_eq] at h5
          obtain ⟨k, p2, rfl⟩ := tupE_eq et
          exact .inr ⟨rfl, ts, k, p2, rfl, h5.1, h5.2⟩
/-- a row of values that stand ready -/
def tVs (vs : List V) : TA := fun _ H Q => Q vs H
theorem h_names (hx : HX X D F T M C lv W c x i n a oe d) : ∀ {ps : List (String × (Nat ⊕ String))} {es : List Expr} {b : Bool}, okTgs M c ps es = true → exAny T x.cls ps = some b →
    ∃ (ts : List V) (us : List Value), PA (X.suite a ((a, oe) :: pn)) es (tVs ts) ∧ ts.length = es.length ∧ (∀ vs, Vals ts vs → vs = us) ∧ PySem.W.kitAny X.K (.ref (D.xa x.cls)) us = some b
  | [], [], b, _, hb => by
    cases hb
    exact ⟨[], [], pa_nil, rfl, fun vs r => by cases r; rfl, rfl⟩
  | p :: ps, e :: es, b, h, hb => by
    have h : (okTg M c p e && okTgs M c ps es) = true := h
    rw [Bool.and_eq_true] at h
    obtain ⟨b1, e1, hb⟩ := Option.bind_eq_some_iff.mp (show ((exIs T x.cls p.2).bind fun b => (exAny T x.cls ps).map (b || ·)) = some b from hb)
    obtain ⟨b2, e2, rfl⟩ := Option.map_eq_some_iff.mp hb
    obtain ⟨t, cv, hp, hv, hk⟩ := h_name (pn := pn) hx h.1 e1
    obtain ⟨ts, us, hp2, hl2, hv2, hk2⟩ := h_names hx h.2 e2
    have hst : starEach (e :: es) X.env = (false, eval e X.env) :: starEach es X.env := by
      have h1 := h.1
      cases e with
      | Name z q => rfl
      | _ => cases h1
    refine ⟨t :: ts, cv :: us, PA.imp (pa_cons hp hp2 (hs := hst)) fun σc H Q z => z, by rw [List.length_cons, List.length_cons, hl2], fun vs r => ?_, ?_⟩
    · cases r with
      | cons r1 r2 => rw [hv _ r1, hv2 _ r2]
    · show (match PySem.W.kitOne X.K (.ref (D.xa x.cls)) cv with
        | some true => some true
        | some false => PySem.W.kitAny X.K (.ref (D.xa x.cls)) us
        | none => none) = _
      rw [hk]
      cases b1 with
      | true => rfl
      | false => exact hk2
  | [], _ :: _, _, h, _ => by cases h
  | _ :: _, [], _, h, _ => by cases h
theorem rx_dict {ι : List Addr} {H : Hp} {cls : Value} (r : RX D ι H x cls d) : d = none ∨ ∃ dd fs, d = some dd ∧ H dd = some (.xd fs) := by
  rcases r.2 with q | ⟨dd, fs', e1, e2, _⟩
  · exact .inl q.2
  · exact .inr ⟨dd, fs', e1, e2⟩
theorem h_isx (hx : HX X D F T M C lv W c x i n a oe d) : CallR (X.suite a ((a, oe) :: pn)) (.builtin "isinstance") (fun xs H Q => (d = none ∨ ∃ dd fs, d = some dd ∧ H dd = some (.xd fs)) ∧ ∃ (t : V) (b : Bool), xs = [.ref a, t] ∧ Q (.bl b) H ∧ ((∃ cv, (∀ u, RelV t u → u = cv) ∧ PySem.W.kitOne X.K (.ref (D.xa x.cls)) cv = some b) ∨
      ∃ p ts us, t = .ref p ∧ H p = some (.tup ts) ∧ (∀ vs, Vals ts vs → vs = us) ∧ PySem.W.kitAny X.K (.ref (D.xa x.cls)) us = some b)) := by
  obtain ⟨ed, he, XF⟩ := hx.ed
  have hK : X.K = D.K := hx.o.hK
  exact call_isX (by rw [hK]; exact XF.cl) (by rw [hK]; exact XF.ca) (by rw [hK]; exact XF.hn) (by rw [hK]; exact XF.ht) (by rw [hK]; exact XF.hm) (by rw [hK]; exact XF.xf) hx.hz hx.hf
theorem h_is1 {g : Str} {q p : Pos} {t : Expr} {pr : String × (Nat ⊕ String)} (hx : HX X D F T M C lv W c x i n a oe d) (nd : (n == ("__debug__" : Str)) = false) (nc : (n == ("__classdict__" : Str)) = false) (h1 : okGl c "isinstance" g = true) (h2 : (M.nb.any (· == "isinstance")) = true) (h3 : okTg M c pr t = true) :
    PE (X.suite a ((a, oe) :: pn)) (.Call (.Name g q) [.Name n p, t] [] pos) (rdH D T x a i (.ref (D.xa x.cls)) d (.isin true [pr])) := by
  refine ⟨fun pins s σc H Q I z => ?_⟩
  obtain ⟨ι, S, σ, v', L, G, hs, rx, ev, qq⟩ := z
  obtain ⟨b, hb, rfl⟩ := Option.map_eq_some_iff.mp (show (exIs T x.cls pr.2).map PV.bl = some v' from ev)
  obtain ⟨tv, cv, hp, hv, hk⟩ := h_name (pn := pn) hx h3 hb
  obtain ⟨e', hg, hd, hnn⟩ := gl_of hx.o h1
  subst e'
  obtain ⟨y, hy, ey⟩ := List.any_eq_true.mp h2
  have ey : y = "isinstance" := eq_of_beq ey
  subst ey
  have hst : starEach [t] X.env = (false, eval t X.env) :: starEach [] X.env := by
    cases t with
    | Name z q => rfl
    | _ => cases h3
  have hst2 : (backTo pos (starEach [t] X.env)).any (·.1) = false := by rw [hst]; rfl
  refine (pe_callB (X := X.suite a ((a, oe) :: pn)) (h_isx (pn := pn) hx) hg (hx.o.lk.nb _ hy) (boot_blt .isinstance) (pa_cons (h_err hx nd nc) (pa_cons hp pa_nil (hs := hst))) hnn hd rfl hst2).run pins s σc H Q I ?_
  exact ⟨V.ref a, hs, rx_dict rx, tv, b, rfl, qq H (.bl b) Gr.refl rfl, .inl ⟨cv, hv, hk⟩⟩
theorem h_isN {g : Str} {q p p2 : Pos} {k : Nat} {ts : List Expr} {ps : List (String × (Nat ⊕ String))} (hx : HX X D F T M C lv W c x i n a oe d) (nd : (n == ("__debug__" : Str)) = false) (nc : (n == ("__classdict__" : Str)) = false) (h1 : okGl c "isinstance" g = true) (h2 : (M.nb.any (· == "isinstance")) = true) (h3 : okTgs M c ps ts = true) (h4 : ts.length ≤ 1000) :
    PE (X.suite a ((a, oe) :: pn)) (.Call (.Name g q) [.Name n p, .Tuple ts k p2] [] pos) (rdH D T x a i (.ref (D.xa x.cls)) d (.isin false ps)) := by
  refine ⟨fun pins s σc H Q I z => ?_⟩
  obtain ⟨ι, S, σ, v', L, G, hs, rx, ev, qq⟩ := z
  obtain ⟨b, hb, rfl⟩ := Option.map_eq_some_iff.mp (show (exAny T x.cls ps).map PV.bl = some v' from ev)
  obtain ⟨tvs, us, hp, hl, hv, hk⟩ := h_names (pn := pn) hx h3 hb
  obtain ⟨e', hg, hd, hnn⟩ := gl_of hx.o h1
  subst e'
  obtain ⟨y, hy, ey⟩ := List.any_eq_true.mp h2
  have ey : y = "isinstance" := eq_of_beq ey
  subst ey
  refine (pe_callB (X := X.suite a ((a, oe) :: pn)) (h_isx (pn := pn) hx) hg (hx.o.lk.nb _ hy) (boot_blt .isinstance) (pa_cons (h_err hx nd nc) (pa_cons (pe_tup hp) pa_nil)) hnn hd).run pins s σc H Q I ?_
  refine ⟨V.ref a, hs, by rw [hl, lim_eq]; show ts.length ≤ 16777216; omega, fun p hp => ?_⟩
  exact ⟨rx_dict (rx_gr rx (gr_new hp)), .ref p, b, rfl, qq _ (.bl b) (gr_new hp) rfl, .inr ⟨p, tvs, us, rfl, upd_same, hv, hk⟩⟩
theorem hs_len {σ : Sg} : ∀ (es : HEs) (vs : List Expr) (ws : List PV), okHs M c n es vs = true → evHs T x σ es = some ws → ws.length = vs.length
  | .nil, [], ws, _, e => by cases e; rfl
  | .nil, _ :: _, _, h, _ => by cases h
  | .cons r rs, [], _, h, _ => by cases h
  | .cons r rs, v :: vs, ws, h, e => by
    have h : (okH M c n r v && okHs M c n rs vs) = true := h
    rw [Bool.and_eq_true] at h
    obtain ⟨v1, _, e⟩ := Option.bind_eq_some_iff.mp (show ((evH T x σ r).bind fun v => (evHs T x σ rs).map (v :: ·)) = some ws from e)
    obtain ⟨w2, e2, rfl⟩ := Option.map_eq_some_iff.mp e
    rw [List.length_cons, List.length_cons, hs_len rs vs w2 h.2 e2]
mutual
theorem hE (hx : HX X D F T M C lv W c x i n a oe d) (nd : (n == ("__debug__" : Str)) = false) (nc : (n == ("__classdict__" : Str)) = false) : ∀ (r : HE) {e : Expr}, okH M c n r e = true → PE (X.suite a ((a, oe) :: pn)) e (rdH D T x a i (.ref (D.xa x.cls)) d r)
  | .const v, e, h => by
    cases e with
    | Constant k j p => exact h_const h
    | _ => cases h
  | .loc j, e, h => by
    cases e with
    | Name y p => exact h_loc hx h
    | _ => cases h
  | .fld f, e, h => by
    cases e with
    | Attribute e y p =>
      cases e with
      | Name z q =>
        have h' : (decide (z = n) && strB (dN f) y) = true := h
        simp only [Bool.and_eq_true, decide_eq_true_eq] at h'
        obtain ⟨rfl, h2⟩ := h'
        have e2 : dN f = y := of_decide_eq_true h2
        exact h_fld hx nd nc e2.symm
      | _ => cases h
    | _ => cases h
  | .isin one ps, e, h => by
    cases e with
    | Call g as kws p =>
      have h' : okIs M c n one ps g as kws = true := h
      obtain ⟨z, q, u, q2, t, rfl, rfl, rfl, h1, h2, h3⟩ := okIs_eq h'
      rcases h3 with ⟨rfl, pr, rfl, h3⟩ | ⟨rfl, ts, k, p2, rfl, h3, h4⟩
      · exact h_is1 hx nd nc h1 h2 h3
      · exact h_isN hx nd nc h1 h2 h3 h4
    | _ => cases h
  | .not r, e, h => by
    cases e with
    | UnaryOp op e p =>
      cases op with
      | Not =>
        refine PE.imp (pe_not (hE hx nd nc r (show okH M c n r e = true from h))) fun σc H Q z => ?_
        obtain ⟨ι, S, σ, v', L, G, hs, rx, ev, qq⟩ := z
        obtain ⟨v1, e1, ev⟩ := Option.bind_eq_some_iff.mp (show ((evH T x σ r).bind fun v => match v with
          | .bl b => some (PV.bl !b)
          | _ => none) = some v' from ev)
        cases v1 with
        | bl b =>
          cases ev
          refine ⟨ι, S, σ, _, L, G, hs, rx, e1, fun H1 y g r1 => ⟨b, r1, qq H1 (.bl !b) g rfl⟩⟩
        | _ => cases ev
      | _ => cases h
    | _ => cases h
  | .and r1 r2, e, h => by
    cases e with
    | BoolOp op vs p =>
      cases op with
      | And =>
        match vs, h with
        | [], h => cases h
        | [_], h => cases h
        | _ :: _ :: _ :: _, h => cases h
        | [e1, e2], h =>
          have h' : (okH M c n r1 e1 && okH M c n r2 e2) = true := h
          rw [Bool.and_eq_true] at h'
          refine PE.imp (pe_and (hE hx nd nc r1 h'.1) (pe_one (hE hx nd nc r2 h'.2))) fun σc H Q z => ?_
          obtain ⟨ι, S, σ, v', L, G, hs, rx, ev, qq⟩ := z
          obtain ⟨v1, e1, ev⟩ := Option.bind_eq_some_iff.mp (show ((evH T x σ r1).bind fun v => match v with
            | .bl true => evH T x σ r2
            | .bl false => some (PV.bl false)
            | _ => none) = some v' from ev)
          cases v1 with
          | bl b =>
            refine ⟨ι, S, σ, _, L, G, hs, rx, e1, fun H1 y g ry => ⟨b, ry, ?_⟩⟩
            cases b with
            | true =>
              rw [if_pos rfl]
              exact ⟨ι, S, σ, v', ly_gr L g, G.ext (ext_gr g), hs, rx_gr rx g, ev, fun H2 y2 g2 r2 => qq H2 y2 (g.trans g2) r2⟩
            | false =>
              rw [if_neg (by decide)]
              cases ev
              exact qq H1 (.bl false) g rfl
          | _ => cases ev
      | _ => match vs, h with
        | [], h => cases h
        | [_], h => cases h
        | _ :: _ :: _ :: _, h => cases h
        | [e1, e2], h => cases h
    | _ => cases h
  | .or r1 r2, e, h => by
    cases e with
    | BoolOp op vs p =>
      cases op with
      | Or =>
        match vs, h with
        | [], h => cases h
        | [_], h => cases h
        | _ :: _ :: _ :: _, h => cases h
        | [e1, e2], h =>
          have h' : (okH M c n r1 e1 && okH M c n r2 e2) = true := h
          rw [Bool.and_eq_true] at h'
          refine PE.imp (pe_or (hE hx nd nc r1 h'.1) (pe_one (hE hx nd nc r2 h'.2))) fun σc H Q z => ?_
          obtain ⟨ι, S, σ, v', L, G, hs, rx, ev, qq⟩ := z
          obtain ⟨v1, e1, ev⟩ := Option.bind_eq_some_iff.mp (show ((evH T x σ r1).bind fun v => match v with
            | .bl true => some (PV.bl true)
            | .bl false => evH T x σ r2
            | _ => none) = some v' from ev)
          cases v1 with
          | bl b =>
            refine ⟨ι, S, σ, _, L, G, hs, rx, e1, fun H1 y g ry => ⟨b, ry, ?_⟩⟩
            cases b with
            | false =>
              rw [if_neg (by decide)]
              exact ⟨ι, S, σ, v', ly_gr L g, G.ext (ext_gr g), hs, rx_gr rx g, ev, fun H2 y2 g2 r2 => qq H2 y2 (g.trans g2) r2⟩
            | true =>
              rw [if_pos rfl]
              cases ev
              exact qq H1 (.bl true) g rfl
          | _ => cases ev
      | _ => match vs, h with
        | [], h => cases h
        | [_], h => cases h
        | _ :: _ :: _ :: _, h => cases h
        | [e1, e2], h => cases h
    | _ => cases h
  | .tup es, e, h => by
    cases e with
    | Tuple vs k p =>
      have h' : (okHs M c n es vs && noStar vs && decide (vs.length ≤ 1000)) = true := h
      simp only [Bool.and_eq_true, decide_eq_true_eq] at h'
      refine PE.imp (pe_tup (hEs hx nd nc es h'.1.1 h'.1.2)) fun σc H Q z => ?_
      obtain ⟨ι, S, σ, v', L, G, hs, rx, ev, qq⟩ := z
      obtain ⟨vs1, e1, rfl⟩ := Option.map_eq_some_iff.mp (show (evHs T x σ es).map PV.tup = some v' from ev)
      refine ⟨ι, S, σ, vs1, L, G, hs, rx, e1, fun H1 ys g r1 => ⟨?_, fun p hp => ?_⟩⟩
      · rw [r1.len, hs_len es vs vs1 h'.1.1 e1, lim_eq]
        show vs.length ≤ 16777216
        omega
      · exact qq _ _ (g.trans (gr_new hp)) ⟨p, ys, rfl, .inl (.inl upd_same), r1.exi (ext_gr (gr_new hp)).exi⟩
    | _ => cases h
theorem hEs (hx : HX X D F T M C lv W c x i n a oe d) (nd : (n == ("__debug__" : Str)) = false) (nc : (n == ("__classdict__" : Str)) = false) : ∀ (r : HEs) {es : List Expr}, okHs M c n r es = true → noStar es = true → PA (X.suite a ((a, oe) :: pn)) es (rdHs D T x a i (.ref (D.xa x.cls)) d r)
  | .nil, es, h, _ => by
    cases es with
    | cons _ _ => cases h
    | nil =>
      refine PA.imp pa_nil fun σc H Q z => ?_
      obtain ⟨ι, S, σ, v', L, G, hs, rx, ev, qq⟩ := z
      cases ev
      exact qq H [] Gr.refl rfl
  | .cons r rs, es, h, hn => by
    cases es with
    | nil => cases h
    | cons e es =>
      have h' : (okH M c n r e && okHs M c n rs es) = true := h
      rw [Bool.and_eq_true] at h'
      have hn' := noStar_cons (env := X.env) hn
      refine PA.imp (pa_cons (hE hx nd nc r h'.1) (hEs hx nd nc rs h'.2 hn'.2) (hs := hn'.1)) fun σc H Q z => ?_
      obtain ⟨ι, S, σ, vs', L, G, hs, rx, ev, qq⟩ := z
      obtain ⟨v1, e1, ev⟩ := Option.bind_eq_some_iff.mp (show ((evH T x σ r).bind fun v => (evHs T x σ rs).map (v :: ·)) = some vs' from ev)
      obtain ⟨ws, e2, rfl⟩ := Option.map_eq_some_iff.mp ev
      refine ⟨ι, S, σ, v1, L, G, hs, rx, e1, fun H1 y g r1 => ?_⟩
      refine ⟨ι, S, σ, ws, ly_gr L g, G.ext (ext_gr g), hs, rx_gr rx g, e2, fun H2 ys g2 r2 => ?_⟩
      exact qq H2 (y :: ys) (g.trans g2) ⟨y, ys, rfl, r1.exi (ext_gr g2).exi, r2⟩
end
/-! ### tests -/
def rdHT (D : Ad) (T : Tab) (x : Ex) (a : Addr) (i : Nat) (cls : Value) (d : Option Addr) (r : HE) : TT := fun σc H Q => ∃ ι S σ b, Ly D ι H S ∧ RG D ι H σ σc ∧ σc[i]? = some (some (V.ref a)) ∧ RX D ι H x cls d ∧ evH T x σ r = some (.bl b) ∧ ∀ H1, Gr H H1 → Q b H1
theorem ht_val {r : HE} {e : Expr} (h : PE (X.suite a ((a, oe) :: pn)) e (rdH D T x a i (.ref (D.xa x.cls)) d r)) (he : ∀ whole, isTrue e X.env whole = (do let v ← whole; standAt e.pos; holding [v] (truthy v))) : PT (X.suite a ((a, oe) :: pn)) e (rdHT D T x a i (.ref (D.xa x.cls)) d r) :=
  PT.imp (pt_val h he) fun σc H Q z => by
    obtain ⟨ι, S, σ, b, L, G, hs, rx, ev, qq⟩ := z
    exact ⟨ι, S, σ, .bl b, L, G, hs, rx, ev, fun H1 y g r => ⟨b, r, qq H1 g⟩⟩
theorem hT (hx : HX X D F T M C lv W c x i n a oe d) (nd : (n == ("__debug__" : Str)) = false) (nc : (n == ("__classdict__" : Str)) = false) : ∀ (r : HE) {e : Expr}, okH M c n r e = true → PT (X.suite a ((a, oe) :: pn)) e (rdHT D T x a i (.ref (D.xa x.cls)) d r)
  | .const v, e, h => by
    have q := hE (pn := pn) hx nd nc (.const v) h
    cases e with
    | Constant k j p => exact ht_val q fun _ => rfl
    | _ => cases h
  | .loc j, e, h => by
    have q := hE (pn := pn) hx nd nc (.loc j) h
    cases e with
    | Name y p => exact ht_val q fun _ => rfl
    | _ => cases h
  | .fld f, e, h => by
    have q := hE (pn := pn) hx nd nc (.fld f) h
    cases e with
    | Attribute e y p => exact ht_val q fun _ => rfl
    | _ => cases h
  | .isin one ps, e, h => by
    have q := hE (pn := pn) hx nd nc (.isin one ps) h
    cases e with
    | Call g as kws p => exact ht_val q fun _ => rfl
    | _ => cases h
  | .tup es, e, h => ⟨fun pins s σc H Q I z => by
    obtain ⟨ι, S, σ, b, L, G, hs, rx, ev, qq⟩ := z
    obtain ⟨_, _, e⟩ := Option.map_eq_some_iff.mp (show (evHs T x σ es).map PV.tup = some (PV.bl b) from ev)
    cases e⟩
  | .not r, e, h => by
    cases e with
    | UnaryOp op e p =>
      cases op with
      | Not =>
        refine PT.imp (pt_not (hT hx nd nc r (show okH M c n r e = true from h))) fun σc H Q z => ?_
        obtain ⟨ι, S, σ, b, L, G, hs, rx, ev, qq⟩ := z
        obtain ⟨v1, e1, ev⟩ := Option.bind_eq_some_iff.mp (show ((evH T x σ r).bind fun v => match v with
          | .bl b => some (PV.bl !b)
          | _ => none) = some (.bl b) from ev)
        cases v1 with
        | bl b' =>
          cases ev
          exact ⟨ι, S, σ, b', L, G, hs, rx, e1, fun H1 g => qq H1 g⟩
        | _ => cases ev
      | _ => cases h
    | _ => cases h
  | .and r1 r2, e, h => by
    cases e with
    | BoolOp op vs p =>
      cases op with
      | And =>
        match vs, h with
        | [], h => cases h
        | [_], h => cases h
        | _ :: _ :: _ :: _, h => cases h
        | [e1, e2], h =>
          have h' : (okH M c n r1 e1 && okH M c n r2 e2) = true := h
          rw [Bool.and_eq_true] at h'
          refine PT.imp (pw_and (hT hx nd nc r1 h'.1) (pw_and1 (hT hx nd nc r2 h'.2))).pt fun σc H Q z => ?_
          obtain ⟨ι, S, σ, v', L, G, hs, rx, ev, qq⟩ := z
          obtain ⟨v1, e1, ev⟩ := Option.bind_eq_some_iff.mp (show ((evH T x σ r1).bind fun v => match v with
            | .bl true => evH T x σ r2
            | .bl false => some (PV.bl false)
            | _ => none) = some (.bl v') from ev)
          cases v1 with
          | bl b =>
            refine ⟨ι, S, σ, b, L, G, hs, rx, e1, fun H1 g => ?_⟩
            cases b with
            | true =>
              rw [if_pos rfl]
              exact ⟨ι, S, σ, v', ly_gr L g, G.ext (ext_gr g), hs, rx_gr rx g, ev, fun H2 g2 => qq H2 (g.trans g2)⟩
            | false =>
              rw [if_neg (by decide)]
              cases ev
              exact qq H1 g
          | _ => cases ev
      | _ => match vs, h with
        | [], h => cases h
        | [_], h => cases h
        | _ :: _ :: _ :: _, h => cases h
        | [e1, e2], h => cases h
    | _ => cases h
  | .or r1 r2, e, h => by
    cases e with
    | BoolOp op vs p =>
      cases op with
      | Or =>
        match vs, h with
        | [], h => cases h
        | [_], h => cases h
        | _ :: _ :: _ :: _, h => cases h
        | [e1, e2], h =>
          have h' : (okH M c n r1 e1 && okH M c n r2 e2) = true := h
          rw [Bool.and_eq_true] at h'
          refine PT.imp (pw_or (hT hx nd nc r1 h'.1) (pw_or1 (hT hx nd nc r2 h'.2))).pt fun σc H Q z => ?_
          obtain ⟨ι, S, σ, v', L, G, hs, rx, ev, qq⟩ := z
          obtain ⟨v1, e1, ev⟩ := Option.bind_eq_some_iff.mp (show ((evH T x σ r1).bind fun v => match v with
            | .bl true => some (PV.bl true)
            | .bl false => evH T x σ r2
            | _ => none) = some (.bl v') from ev)
          cases v1 with
          | bl b =>
            refine ⟨ι, S, σ, b, L, G, hs, rx, e1, fun H1 g => ?_⟩
            cases b with
            | false =>
              rw [if_neg (by decide)]
              exact ⟨ι, S, σ, v', ly_gr L g, G.ext (ext_gr g), hs, rx_gr rx g, ev, fun H2 g2 => qq H2 (g.trans g2)⟩
            | true =>
              rw [if_pos rfl]
              cases ev
              exact qq H1 g
          | _ => cases ev
      | _ => match vs, h with
        | [], h => cases h
        | [_], h => cases h
        | _ :: _ :: _ :: _, h => cases h
        | [e1, e2], h => cases h
    | _ => cases h
/-! ### statements -/
/-- the reading of a statement: the error stays in its slot -/
def rdHw (wp : Sg → Store → En → Prop) (D : Ad) (x : Ex) (a : Addr) (i : Nat) (cls : Value) (d : Option Addr) : TS := fun De σc H => ∃ ι S σ Da, Ly D ι H S ∧ RG D ι H σ σc ∧ σ[i]? = some .none ∧ σc[i]? = some (some (V.ref a)) ∧ RX D ι H x cls d ∧ wp σ S Da ∧
  (∀ H' σ' σc', Gr H H' → RG D ι H' σ' σc' → σ'[i]? = some .none → σc'[i]? = some (some (V.ref a)) → Da.nx σ' S → De.nx σc' H') ∧ (∀ H' v y, Gr H H' → RV D ι H' v y → Da.rt v S → De.rt y H')
mutual
theorem hS (hx : HX X D F T M C lv W c x i n a oe d) (nd : (n == ("__debug__" : Str)) = false) (nc : (n == ("__classdict__" : Str)) = false) : ∀ (r : HS) {e : Stmt}, okHS M c n r e = true → PS (X.suite a ((a, oe) :: pn)) e (rdHw (wpH T x r) D x a i (.ref (D.xa x.cls)) d)
  | .asg j r, e, h => by
    cases e with
    | Assign ts v p =>
      match ts, h with
      | [], h => cases h
      | t :: _ :: _, h => cases t <;> cases h
      | [t], h =>
        cases t with
        | Name y py =>
          have h' : (decide (c.N[j]? = some y) && c.lcl y && !decide (y = n) && noSwap (.Name y py) v && okH M c n r v) = true := h
          simp only [Bool.and_eq_true, decide_eq_true_eq, Bool.not_eq_true', decide_eq_false_iff_not] at h'
          obtain ⟨⟨⟨⟨h1, h2⟩, h3⟩, h4⟩, h5⟩ := h'
          have hl := lcl_vis h2
          have hN : X.N[j]? = some y := by rw [hx.o.hN]; exact h1
          have hlo : X.env.scope.names.lookup y = some .local := by rw [hx.o.hsc]; exact hl
          refine PS.imp (ps_set (X := X.suite a ((a, oe) :: pn)) hx.o.nd hN (.inl hlo) (hE hx nd nc r h5) (swap_no h4) (.inr hlo)) fun De σc H z => ?_
          obtain ⟨ι, S, σ, Da, L, G, hn, hs, rx, hw, qn, qr⟩ := z
          obtain ⟨v', ev, q⟩ := onS_ex (show onS (evH T x σ r) fun v => Da.nx (σ.set j (some v)) S from hw)
          have hij : j ≠ i := fun z => by
            subst z
            have := hx.hi
            rw [h1] at this
            cases this
            exact h3 rfl
          refine ⟨ι, S, σ, v', L, G, hs, rx, ev, fun H1 u g ru => ?_⟩
          exact qn H1 _ _ g ((G.ext (ext_gr g)).set j ru) (by rw [List.getElem?_set_ne hij]; exact hn) (by rw [List.getElem?_set_ne hij]; exact hs) q
        | _ => cases h
    | _ => cases h
  | .ife r b, e, h => by
    cases e with
    | If v y z p =>
      cases z with
      | cons _ _ => cases h
      | nil =>
        have h' : (okH M c n r v && okHSs M c n b y) = true := h
        rw [Bool.and_eq_true] at h'
        refine PS.imp (ps_if (hT hx nd nc r h'.1) (hSs hx nd nc b h'.2) pss_nil) fun De σc H z => ?_
        obtain ⟨ι, S, σ, Da, L, G, hn, hs, rx, hw, qn, qr⟩ := z
        obtain ⟨v', ev, q⟩ := onS_ex (show onS (evH T x σ r) fun v => isBool v fun k => if k = true then wpHs T x b σ S Da else Da.nx σ S from hw)
        obtain ⟨k, rfl, q⟩ := isBool_ex q
        refine ⟨ι, S, σ, k, L, G, hs, rx, ev, fun H1 g => ?_⟩
        cases k with
        | true =>
          rw [if_pos rfl]
          exact ⟨ι, S, σ, Da, ly_gr L g, G.ext (ext_gr g), hn, hs, rx_gr rx g, q, fun H2 σ' σc' g2 => qn H2 σ' σc' (g.trans g2), fun H2 v y g2 => qr H2 v y (g.trans g2)⟩
        | false =>
          rw [if_neg (by decide)]
          exact qn H1 σ σc g (G.ext (ext_gr g)) hn hs q
    | _ => cases h
  | .ret r, e, h => by
    cases e with
    | Return v p =>
      cases v with
      | none => cases h
      | some v =>
        refine PS.imp (ps_ret (hE hx nd nc r (show okH M c n r v = true from h))) fun De σc H z => ?_
        obtain ⟨ι, S, σ, Da, L, G, hn, hs, rx, hw, qn, qr⟩ := z
        obtain ⟨v', ev, q⟩ := onS_ex (show onS (evH T x σ r) fun v => Da.rt v S from hw)
        exact ⟨ι, S, σ, v', L, G, hs, rx, ev, fun H1 u g ru => qr H1 v' u g ru q⟩
    | _ => cases h
theorem hSs (hx : HX X D F T M C lv W c x i n a oe d) (nd : (n == ("__debug__" : Str)) = false) (nc : (n == ("__classdict__" : Str)) = false) : ∀ (r : HSs) {es : List Stmt}, okHSs M c n r es = true → PSs (X.suite a ((a, oe) :: pn)) es (rdHw (wpHs T x r) D x a i (.ref (D.xa x.cls)) d)
  | .nil, es, h => by
    cases es with
    | cons _ _ => cases h
    | nil =>
      refine PSs.imp pss_nil fun De σc H z => ?_
      obtain ⟨ι, S, σ, Da, L, G, hn, hs, rx, hw, qn, qr⟩ := z
      exact qn H σ σc Gr.refl G hn hs hw
  | .cons r rs, es, h => by
    cases es with
    | nil => cases h
    | cons e es =>
      have h' : (okHS M c n r e && okHSs M c n rs es) = true := h
      rw [Bool.and_eq_true] at h'
      refine PSs.imp (pss_cons (hS hx nd nc r h'.1) (hSs hx nd nc rs h'.2)) fun De σc H z => ?_
      obtain ⟨ι, S, σ, Da, L, G, hn, hs, rx, hw, qn, qr⟩ := z
      refine ⟨ι, S, σ, { Da with nx := fun σ' S' => wpHs T x rs σ' S' Da }, L, G, hn, hs, rx, hw, fun H1 σ1 σc1 g G1 hn1 hs1 q1 => ?_, qr⟩
      exact ⟨ι, S, σ1, Da, ly_gr L g, G1, hn1, hs1, rx_gr rx g, q1, fun H2 σ' σc' g2 => qn H2 σ' σc' (g.trans g2), fun H2 v y g2 => qr H2 v y (g.trans g2)⟩
end
end
end
end Rp
/-! # raise, try -/
namespace Rp
open PySem PySem.Spec PySem.Calls PyProof.Rows L2
section
variable {X : Cx} {D : Ad} {F : Fd} {T : Tab} {M : Nm} {C : CS} {lv : Nat} {W : WX} {c : Sc} {pos : Pos}
theorem zip_keys : ∀ {fs : List Nat} {ws : List PV} {xs : List V}, ws.length = fs.length → xs.length = fs.length → ((fs.map dN).zip xs).map (·.1) = ((fs.zip ws).map fun p => dN p.1)
  | [], _, _, _, _ => rfl
  | f :: fs, w :: ws, x :: xs, h1, h2 => by
    simp only [List.map_cons, List.zip_cons_cons, List.cons.injEq, true_and]
    exact zip_keys (by simpa using h1) (by simpa using h2)
  | _ :: _, [], _, h, _ => by cases h
  | _ :: _, _ :: _, [], _, h => by cases h
theorem zip_vals {α β : Type} : ∀ {fs : List α} {xs : List β}, xs.length = fs.length → (fs.zip xs).map (·.2) = xs
  | [], [], _ => rfl
  | f :: fs, x :: xs, h => by
    rw [List.zip_cons_cons, List.map_cons, zip_vals (by simpa using h)]
  | [], _ :: _, h => by cases h
  | _ :: _, [], h => by cases h
theorem s_raise {k : Nat} {s : String} {es : REs} {z : Str} {e : Expr} {as : List Expr} {q p : Pos} (o : Okx X D F T M M.fl C lv W c) (h1 : okGl c s z = true) (h2 : (M.gx.any fun q => q.1 == s && q.2 == k) = true) (hmk : ∃ ed, T.exs[k]? = some ed ∧ ed.made = true) (ha : PA X (e :: as) (rdEs D T C W es))
    (hst : starEach (e :: as) X.env = (false, eval e X.env) :: starEach as X.env) (hst2 : (backTo p (starEach as X.env)).any (·.1) = false) : PS X (.Raise (some (.Call (.Name z q) (e :: as) [] p)) none pos) (rdS D T C W (.raise k s es)) := by
  obtain ⟨e', hg, hd, hnn⟩ := gl_of o h1
  subst e'
  obtain ⟨pr, hm, e2⟩ := List.any_eq_true.mp h2
  obtain ⟨s', k'⟩ := pr
  simp only [Bool.and_eq_true, beq_iff_eq] at e2
  obtain ⟨rfl, rfl⟩ := e2
  obtain ⟨g1, g2⟩ := o.lk.gx _ _ hm
  have hK : X.K = D.K := o.hK
  refine ⟨fun pins s1 σc H De I z => ?_⟩
  obtain ⟨ι, S, σ, Da, L, G, hw, cn⟩ := z
  have hw : wpEs T C es σ S (fun vs S1 => onS (T.exs[k']?) fun d => onT (d.made && decide (vs.length = d.fs.length)) (Da.ex ⟨k', (d.fs.zip vs).reverse⟩ σ S1)) (fun x S1 => Da.ex x σ S1) := hw
  obtain ⟨ed, he, hmk⟩ := hmk
  have XF := o.lk.xs k' ed he
  obtain ⟨_, nw, _, tl, BS, ox, fne, fl, fI, fd, ps, iC, tI, F1, hb⟩ := XF.mkd hmk
  refine (ps_raise o.calm o.tk (pmk_oeb (CX := L2.CX X.prog X.w) (C := D.xa k') (fI := fI) (k := 1) (fd := fd) (ps := ps) (sp := spI (D.xa k') (ed.fs.map dN)) (ds := []) (dvs := []) BS (by rw [hK]; exact ox) (by rw [hK]; exact iC) (by rw [hK]; exact tI) (by rw [hK]; exact F1) (o.room.mono (by have := o.lk.l1; omega)) (by rw [hK]; exact hb) .nil
    (fun _ _ _ _ _ _ _ z => by obtain ⟨_, _, _, _, _, _, _, _, _, _, _, _, z⟩ := z; exact z.elim) hg g1 ha hd hst hst2)).run pins s1 σc H De I ?_
  refine ⟨ι, S, σ, _, _, L, G, hw, fun ι1 S1 H1 ws xs e1 L1 r1 l1 q1 => ?_, cn.cx G⟩
  obtain ⟨ed', he', q1⟩ := onS_ex q1
  rw [he] at he'
  cases he'
  obtain ⟨hq, q1⟩ := onT_ex q1
  simp only [Bool.and_eq_true, decide_eq_true_eq] at hq
  have lx : xs.length = ed.fs.length := by rw [r1.len]; exact hq.2
  refine ⟨by omega, fun a ha1 => ?_⟩
  refine ⟨a, xs, by rw [List.append_nil], by rw [List.length_map]; exact lx, upd_same, fun dd hd1 hne => ?_⟩
  have hd2 : H1 dd = none := by rw [upd_ne hne] at hd1; exact hd1
  refine ⟨rfl, dd, ((ed.fs.map dN).zip xs).reverse, upd_same, by rw [upd_ne hne, upd_same], hd2, ?_⟩
  have eH : upd (del (upd (upd (upd H1 a (exo a (D.xa k') none)) dd (exd dd ((ed.fs.map dN).zip xs).reverse)) a (exo a (D.xa k') (some dd))) a) dd (.xd ((ed.fs.map dN).zip xs).reverse) = upd H1 dd (.xd ((ed.fs.map dN).zip xs).reverse) := by
    funext b
    by_cases hb1 : b = dd
    · subst hb1
      rw [upd_same, upd_same]
    · rw [upd_ne hb1, upd_ne hb1]
      by_cases hb2 : b = a
      · subst hb2
        rw [del_same, ha1]
      · rw [del_ne hb2, upd_ne hb2, upd_ne hb1, upd_ne hb2]
  show W (.ref (D.xa k')) (some dd) σc _
  rw [eH]
  have gn : Gr H1 (upd H1 dd (.xd ((ed.fs.map dN).zip xs).reverse)) := gr_new hd2
  refine cn.ex ι1 S1 _ σ σc ⟨k', (ed.fs.zip ws).reverse⟩ (.ref (D.xa k')) (some dd) (e1.trans (ext_gr gn)) (ly_gr L1 gn) ((G.ext e1).ext (ext_gr gn)) ⟨rfl, .inr ⟨dd, _, rfl, upd_same, ?_, ?_⟩⟩ q1
  · rw [List.map_reverse, List.map_reverse, zip_keys hq.2 lx]
  · rw [List.map_reverse, List.map_reverse, zip_vals hq.2, zip_vals (by rw [List.length_map]; exact lx)]
    exact (r1.exi (ext_gr gn).exi).rev
/-- where a def's own body stands -/
structure Fr (X : Cx) : Prop where
  hp : PassesOwn (model X.prog X.w) X.A X.env X.xe
  hs : X.stack = X.env :: X.outer
  hf : X.env.frame = some X.env.locals
theorem rg_unset {ι : List Addr} {H : Hp} {σ : Sg} {σc : L2.St} {i : Nat} (G : RG D ι H σ σc) (h : σ[i]? = some .none) {u : Option V} : RG D ι H σ (σc.set i u) := by
  refine ⟨by rw [List.length_set]; exact G.len, fun j v e => ?_⟩
  have hj : i ≠ j := fun z => by
    subst z
    rw [h] at e
    cases e
  rw [List.getElem?_set_ne hj]
  exact G.at_ j v e
theorem rg_none {ι : List Addr} {H : Hp} {σ : Sg} {σc : L2.St} {i : Nat} (G : RG D ι H σ σc) {u : Option V} : RG D ι H (σ.set i .none) (σc.set i u) := by
  refine ⟨by rw [List.length_set, List.length_set]; exact G.len, fun j v e => ?_⟩
  by_cases hj : i = j
  · subst hj
    by_cases hi : i < σ.length
    · rw [List.getElem?_set_self hi] at e
      cases e
    · rw [List.getElem?_eq_none (by rw [List.length_set]; omega)] at e
      cases e
  · rw [List.getElem?_set_ne hj] at e ⊢
    exact G.at_ j v e
theorem s_try {a : RSs} {k : Nat} {s : String} {i : Nat} {h : HSs} {body suite : List Stmt} {z n : Str} {np pos' : Pos} {b₀ : Stmt} (o : Okx X D F T M M.fl C lv W c) (fr : Fr X) (h1 : okGl c s z = true) (h2 : (M.gx.any fun q => q.1 == s && q.2 == k) = true) (hi : c.N[i]? = some n) (hl : c.lcl n = true)
    (nd : (n == ("__debug__" : Str)) = false) (nc : (n == ("__classdict__" : Str)) = false) (h3 : okHSs M c n h (b₀ :: suite) = true)
    (hb : ∀ (W' : WX) (pn : List (Addr × Obj)) (xe : Value → Shared → Prop), Takes (X.tr pn xe) W' → PassesOwn (model X.prog X.w) X.A X.env xe → PSs (X.tr pn xe) body (rdSs D T C W' a)) :
    PS X (.Try body [.ExceptHandler (some (.Name z np)) (some n) (b₀ :: suite) pos'] [] [] pos) (rdS D T C W (.tryE a k s i h)) := by
  obtain ⟨e', hg, hd, hnn⟩ := gl_of o h1
  subst e'
  obtain ⟨pr, hm, e2⟩ := List.any_eq_true.mp h2
  obtain ⟨s', k'⟩ := pr
  simp only [Bool.and_eq_true, beq_iff_eq] at e2
  obtain ⟨rfl, rfl⟩ := e2
  obtain ⟨g1, g2⟩ := o.lk.gx _ _ hm
  have hK : X.K = D.K := o.hK
  have hN : X.N[i]? = some n := by rw [o.hN]; exact hi
  have hln : X.env.kindOf n = some .local := by
    show X.env.scope.names.lookup n = some .local
    rw [o.hsc]
    exact lcl_vis hl
  refine PS.imp (ps_try_as (c := .ref (D.xa k')) (i := i) (tb := fun W' => rdSs D T C W' a) (Wout := W)
    (ts := fun a cls d De σc H => ∃ x ed, T.exs[x.cls]? = some ed ∧ cls = .ref (D.xa x.cls) ∧ rdHw (wpHs T x h) D x a i cls d De σc H) fr.hs fr.hf o.nd hN hln ⟨hg, hd, .inl g1⟩ o.tk hb (fun a oe cls d pn hz hf => ⟨fun pins s1 σc H De I z => ?_⟩)) fun De σc H z => ?_
  · obtain ⟨x, ed, he, rfl, z⟩ := z
    have hx : HX X D F T M C lv W c x i n a oe d := ⟨o, ⟨ed, he, o.lk.xs x.cls ed he⟩, o.lk.gx, hi, hl, hz, hf⟩
    exact (hSs hx nd nc h h3).run pins s1 σc H De I z
  · obtain ⟨ι, S, σ, Da, L, G, hw, cn⟩ := z
    refine ⟨ι, S, σ, _, L, G, hw, cn.nx, cn.rt, cn.bk, cn.ct, fun ι' S' H' σ' σc' x cls dd e L' G' rx q => ?_⟩
    obtain ⟨ed, he, q⟩ := onS_ex q
    have XF := o.lk.xs x.cls ed he
    refine ⟨ed.up.contains k', by rw [hK, rx.1]; exact (XF.ii k' g2).2, fun hb1 a ha => ?_, fun hb1 => ?_⟩
    · rw [if_pos hb1] at q
      obtain ⟨hlt, q⟩ := onT_ex q
      have hlt := of_decide_eq_true hlt
      refine ⟨x, ed, he, rx.1, ι', S', σ'.set i .none, Da, L', rg_none G', by rw [List.getElem?_set_self hlt], by rw [List.getElem?_set_self (by rw [← G'.len]; exact hlt)], rx, q, fun H2 σ2 σc2 g G2 hn2 hs2 q2 => ?_, fun H2 v y g r q2 => ?_⟩
      · exact cn.nx ι' S' H2 σ2 _ (e.trans (ext_gr g)) (ly_gr L' g) (rg_unset G2 hn2) q2
      · exact cn.rt ι' S' H2 v y (e.trans (ext_gr g)) (ly_gr L' g) r q2
    · rw [if_neg (by rw [hb1]; decide)] at q
      exact cn.ex ι' S' H' σ' σc' x cls dd e L' G' rx q
end
end Rp
/-! # The look is enough: expressions -/
namespace Rp
open PySem PySem.Spec PyProof.Rows L2
section
variable {D : Ad} {F : Fd} {T : Tab} {M : Nm} {C : CS} {lv : Nat}
theorem pt_no {X : Cx} {W : WX} {r : RE} {e : Expr} (h : ∀ σ S Qb Ra, ¬ wpT T C r σ S Qb Ra) : PT X e (rdT D T C W r) := ⟨fun pins s σc H Q I z => by
  obtain ⟨ι, S, σ, Qb, Ra, L, G, hw, _⟩ := z
  exact (h _ _ _ _ hw).elim⟩
theorem pe_no {X : Cx} {W : WX} {r : RE} {e : Expr} (h : ∀ σ S Qb Ra, ¬ wpE T C r σ S Qb Ra) : PE X e (rdE D T C W r) := ⟨fun pins s σc H Q I z => by
  obtain ⟨ι, S, σ, Qb, Ra, L, G, hw, _⟩ := z
  exact (h _ _ _ _ hw).elim⟩
/-- what is shown of a tree -/
def SE (D : Ad) (F : Fd) (T : Tab) (M : Nm) (C : CS) (lv : Nat) (r : RE) : Prop := ∀ {X : Cx} {c : Sc} {W : WX} {e : Expr}, Okx X D F T M M.fl C lv W c → okE M T c r e = true → PE X e (rdE D T C W r) ∧ PT X e (rdT D T C W r)
def SEs (D : Ad) (F : Fd) (T : Tab) (M : Nm) (C : CS) (lv : Nat) (r : REs) : Prop := ∀ {X : Cx} {c : Sc} {W : WX} {es : List Expr}, Okx X D F T M M.fl C lv W c → okEs M T c r es = true →
  (noStar es = true → PA X es (rdEs D T C W r)) ∧ (∀ pos, PW X (.BoolOp .And es pos) (rdAnd D T C W r)) ∧ (∀ pos, PW X (.BoolOp .Or es pos) (rdOr D T C W r)) ∧ (∀ pos, PE X (.BoolOp .And es pos) (rdAndV D T C W r)) ∧ (∀ pos, PE X (.BoolOp .Or es pos) (rdOrV D T C W r)) ∧ PTs X es (rdTs D T C r)
def SKs (D : Ad) (F : Fd) (T : Tab) (M : Nm) (C : CS) (lv : Nat) (r : REs) : Prop := ∀ {X : Cx} {c : Sc} {W : WX} {ks : List Keyword}, Okx X D F T M M.fl C lv W c → okKs M T c r ks = true → PK X ks (rdEs D T C W r)
def SO' (D : Ad) (F : Fd) (T : Tab) (M : Nm) (C : CS) (lv : Nat) (r : RO) : Prop := ∀ {X : Cx} {c : Sc} {W : WX} {e : Option Expr}, Okx X D F T M M.fl C lv W c → okO M T c r e = true → PO X e (rdO D T C W r)
def SI (D : Ad) (F : Fd) (T : Tab) (M : Nm) (C : CS) (lv : Nat) (r : RI) : Prop := ∀ {X : Cx} {c : Sc} {W : WX} {tg e : Expr}, Okx X D F T M M.fl C lv W c → tupIt r tg = true → okI M T c r e = true → PI X tg e (rdI D T C W r)
def ST (D : Ad) (F : Fd) (T : Tab) (M : Nm) (C : CS) (lv : Nat) (r : RT) : Prop := ∀ {X : Cx} {c : Sc} {W : WX} {e : Expr}, Okx X D F T M M.fl C lv W c → okT M T c r e = true → PG X e (rdTg D T C r)
def STs (D : Ad) (F : Fd) (T : Tab) (M : Nm) (C : CS) (lv : Nat) (r : RTs) : Prop := ∀ {X : Cx} {c : Sc} {W : WX} {es : List Expr}, Okx X D F T M M.fl C lv W c → noStarT es = true → okTs M T c r es = true → PGs X es (rdTgs D T C r) ∧ es.length = r.len ∧ ∀ n, r.cnt n = r.len

theorem e_loc {i : Nat} : SE D F T M C lv (.loc i) := by
  intro X c W e o h
  cases e with
  | Name x p => exact ⟨s_loc o h, t_val o (s_loc o h) (fun _ => rfl) fun _ _ _ _ z => z⟩
  | _ => cases h
theorem e_const {v : PV} : SE D F T M C lv (.const v) := by
  intro X c W e o h
  cases e with
  | Constant k j p => exact ⟨s_const h, t_val o (s_const h) (fun _ => rfl) fun _ _ _ _ z => z⟩
  | _ => cases h
theorem e_glob {x : String} {v : PV} : SE D F T M C lv (.glob x v) := by
  intro X c W e o h
  cases e with
  | Name y p =>
    have h' : (okGl c x y && M.gv.any fun p => p.1 == x && PV.eqb p.2 v) = true := h
    rw [Bool.and_eq_true] at h'
    exact ⟨s_glob o h'.1 h'.2, pt_no fun _ _ _ _ z => z⟩
  | _ => cases h
theorem e_bin {op : Operator} {a b : RE} (ha : SE D F T M C lv a) (hb : SE D F T M C lv b) : SE D F T M C lv (.bin op a b) := by
  intro X c W e o h
  cases e with
  | BinOp l op' r p =>
    have h' : (decide (op' = op) && okE M T c a l && okE M T c b r) = true := h
    simp only [Bool.and_eq_true, decide_eq_true_eq] at h'
    obtain ⟨⟨rfl, h1⟩, h2⟩ := h'
    exact ⟨s_bin o (ha o h1).1 (hb o h2).1, pt_no fun _ _ _ _ z => z⟩
  | _ => cases h
theorem e_neg {a : RE} (ha : SE D F T M C lv a) : SE D F T M C lv (.neg a) := by
  intro X c W e o h
  cases e with
  | UnaryOp u x p =>
    cases u with
    | USub => exact ⟨s_neg (ha o h).1, pt_no fun _ _ _ _ z => z⟩
    | _ => cases h
  | _ => cases h
theorem e_not {a : RE} (ha : SE D F T M C lv a) : SE D F T M C lv (.not a) := by
  intro X c W e o h
  cases e with
  | UnaryOp u x p =>
    cases u with
    | Not => exact ⟨s_not o (ha o h).1, t_not (ha o h).2⟩
    | _ => cases h
  | _ => cases h
theorem e_cmp {op : CmpOp} {a b : RE} (ha : SE D F T M C lv a) (hb : SE D F T M C lv b) : SE D F T M C lv (.cmp op a b) := by
  intro X c W e o h
  cases e with
  | Compare l ops rs p =>
    match ops, rs, h with
    | [o'], [r], h =>
      have h' : (decide (o' = op) && !behindInMarks op r && okE M T c a l && okE M T c b r) = true := h
      simp only [Bool.and_eq_true, decide_eq_true_eq, Bool.not_eq_true'] at h'
      obtain ⟨⟨⟨rfl, h0⟩, h1⟩, h2⟩ := h'
      exact ⟨s_cmp o h0 (ha o h1).1 (hb o h2).1, t_cmp o h0 (ha o h1).1 (hb o h2).1⟩
    | [], _, h => cases h
    | [_], [], h => cases h
    | [_], _ :: _ :: _, h => cases h
    | _ :: _ :: _, _, h => cases h
  | _ => cases h
theorem e_chain {op op' : CmpOp} {a b d : RE} (ha : SE D F T M C lv a) (hb : SE D F T M C lv b) (hd : SE D F T M C lv d) : SE D F T M C lv (.chain op op' a b d) := by
  intro X c W e o h
  cases e with
  | Compare l ops rs p =>
    match ops, rs, h with
    | [o1, o2], [r, t], h =>
      have h' : (decide (o1 = op) && decide (o2 = op') && !lastMarks [op, op'] [r, t] && okE M T c a l && okE M T c b r && okE M T c d t) = true := h
      simp only [Bool.and_eq_true, decide_eq_true_eq, Bool.not_eq_true'] at h'
      obtain ⟨⟨⟨⟨⟨rfl, rfl⟩, h0⟩, h1⟩, h2⟩, h3⟩ := h'
      exact ⟨s_chain o h0 (ha o h1).1 (hb o h2).1 (hd o h3).1, t_chain o h0 (ha o h1).1 (hb o h2).1 (hd o h3).1⟩
    | [], _, h => cases h
    | [_], _, h => cases h
    | [_, _], [], h => cases h
    | [_, _], [_], h => cases h
    | [_, _], _ :: _ :: _ :: _, h => cases h
    | _ :: _ :: _ :: _, _, h => cases h
  | _ => cases h
theorem e_and {es : REs} (hs : SEs D F T M C lv es) : SE D F T M C lv (.and es) := by
  intro X c W e o h
  cases e with
  | BoolOp op vs p =>
    cases op with
    | And => exact ⟨PE.imp ((hs o h).2.2.2.1 p) fun _ _ _ z => z, t_and ((hs o h).2.1 p)⟩
    | Or => cases h
  | _ => cases h
theorem e_or {es : REs} (hs : SEs D F T M C lv es) : SE D F T M C lv (.or es) := by
  intro X c W e o h
  cases e with
  | BoolOp op vs p =>
    cases op with
    | Or => exact ⟨PE.imp ((hs o h).2.2.2.2.1 p) fun _ _ _ z => z, t_or ((hs o h).2.2.1 p)⟩
    | And => cases h
  | _ => cases h
theorem e_ite {d a b : RE} (hd : SE D F T M C lv d) (ha : SE D F T M C lv a) (hb : SE D F T M C lv b) : SE D F T M C lv (.ite d a b) := by
  intro X c W e o h
  cases e with
  | IfExp t x y p =>
    have h' : (okE M T c d t && okE M T c a x && okE M T c b y) = true := h
    simp only [Bool.and_eq_true] at h'
    exact ⟨s_ite (hd o h'.1.1).2 (ha o h'.1.2).1 (hb o h'.2).1, t_ite (hd o h'.1.1).2 (ha o h'.1.2).2 (hb o h'.2).2⟩
  | _ => cases h
theorem e_tup {es : REs} (hs : SEs D F T M C lv es) : SE D F T M C lv (.tup es) := by
  intro X c W e o h
  cases e with
  | Tuple vs k p =>
    have h' : (okEs M T c es vs && noStar vs && decide (vs.length ≤ 1000)) = true := h
    simp only [Bool.and_eq_true, decide_eq_true_eq] at h'
    exact ⟨s_tup h'.2 (okEs_len h'.1.1) ((hs o h'.1.1).1 h'.1.2), pt_no fun _ _ _ _ z => z⟩
  | _ => cases h
theorem e_lst {m : Bool} {es : REs} (hs : SEs D F T M C lv es) : SE D F T M C lv (.lst m es) := by
  intro X c W e o h
  cases e with
  | List vs p =>
    have h' : (okEs M T c es vs && noStar vs && decide (vs.length ≤ 1000)) = true := h
    simp only [Bool.and_eq_true, decide_eq_true_eq] at h'
    exact ⟨s_lst h'.2 (okEs_len h'.1.1) ((hs o h'.1.1).1 h'.1.2), pt_no fun _ _ _ _ z => z⟩
  | _ => cases h
theorem e_call {f : Nat} {s : String} {es : REs} {ks : List String} {kes : REs} {arr : List (Nat ⊕ PV)} (hs : SEs D F T M C lv es) (hk : SKs D F T M C lv kes) : SE D F T M C lv (.call f s es ks kes arr) := by
  intro X c W e o h
  cases e with
  | Call g as kws p =>
    cases g with
    | Name x q =>
      have h' : (okGl c s x && M.gf.any (fun p => p.1 == s && p.2 == f) && okEs M T c es as && noStar as && okKs M T c kes kws && decide (namesOf kws = ks.map fun k => some (sN k)) && (kws.isEmpty || !as.isEmpty) && M.has f false as.length ks arr) = true := h
      simp only [Bool.and_eq_true, decide_eq_true_eq] at h'
      obtain ⟨⟨⟨⟨⟨⟨⟨h1, h2⟩, h3⟩, h4⟩, h5⟩, h6⟩, h7⟩, h8⟩ := h'
      have z := s_call (pos := p) (p := q) o h1 h2 (okEs_len h3) ((hs o h3).1 h4) h4 (hk o h5) (okKs_len h5) h6 h7 h8
      exact ⟨z, t_val o z (fun _ => rfl) fun _ _ _ _ z => z⟩
    | _ => cases h
  | _ => cases h
theorem e_callE {f : RE} {es : REs} (hf : SE D F T M C lv f) (hs : SEs D F T M C lv es) : SE D F T M C lv (.callE f es) := by
  intro X c W e o h
  cases e with
  | Call g as kws p =>
    cases kws with
    | nil =>
      have h' : (isCallee g && okE M T c f g && okEs M T c es as && noStar as) = true := h
      simp only [Bool.and_eq_true] at h'
      obtain ⟨⟨⟨h1, h2⟩, h3⟩, h4⟩ := h'
      exact ⟨s_callE o h1 (hf o h2).1 (okEs_len h3) ((hs o h3).1 h4) h4, pt_no fun _ _ _ _ z => z⟩
    | cons _ _ => cases g <;> cases h
  | _ => cases h
theorem e_make {d : Nat} {s : String} {es : REs} {ks : List String} {kes : REs} {arr : List (Nat ⊕ PV)} (hs : SEs D F T M C lv es) (hk : SKs D F T M C lv kes) : SE D F T M C lv (.make d s es ks kes arr) := by
  intro X c W e o h
  cases e with
  | Call g as kws p =>
    cases g with
    | Name x q =>
      have h' : (okGl c s x && M.gc.any (fun p => p.1 == s && p.2 == d) && okEs M T c es as && noStar as && okKs M T c kes kws && decide (namesOf kws = ks.map fun k => some (sN k)) && (kws.isEmpty || !as.isEmpty) && (match (T.cls[d]?).bind (·.ini) with
        | some f => M.has f true as.length ks arr
        | .none => false)) = true := h
      simp only [Bool.and_eq_true, decide_eq_true_eq] at h'
      obtain ⟨⟨⟨⟨⟨⟨⟨h1, h2⟩, h3⟩, h4⟩, h5⟩, h6⟩, h7⟩, h8⟩ := h'
      cases hf : (T.cls[d]?).bind (·.ini) with
      | none => rw [hf] at h8; cases h8
      | some f =>
        rw [hf] at h8
        exact ⟨s_make o h1 h2 (okEs_len h3) ((hs o h3).1 h4) h4 (hk o h5) (okKs_len h5) h6 h7 (fun g hg => by rw [hf] at hg; cases hg; exact h8) ⟨f, hf⟩, pt_no fun _ _ _ _ z => z⟩
    | _ => cases h
  | _ => cases h
theorem e_mko {d : Nat} {s : String} {es : REs} {ks : List String} {kes : REs} {arr : List (Nat ⊕ PV)} {fz : List (Nat × Nat)} (hs : SEs D F T M C lv es) (hk : SKs D F T M C lv kes) : SE D F T M C lv (.mko d s es ks kes arr fz) := by
  intro X c W e o h
  cases e with
  | Call g as kws p =>
    cases g with
    | Name x q =>
      have h' : (okGl c s x && M.gc.any (fun p => p.1 == s && p.2 == d) && okEs M T c es as && noStar as && okKs M T c kes kws && decide (namesOf kws = ks.map fun k => some (sN k)) && (kws.isEmpty || !as.isEmpty) && (match (T.cls[d]?).bind (·.ini) with
        | some f => M.has f true as.length ks arr
        | .none => false)) = true := h
      simp only [Bool.and_eq_true, decide_eq_true_eq] at h'
      obtain ⟨⟨⟨⟨⟨⟨⟨h1, h2⟩, h3⟩, h4⟩, h5⟩, h6⟩, h7⟩, h8⟩ := h'
      cases hf : (T.cls[d]?).bind (·.ini) with
      | none => rw [hf] at h8; cases h8
      | some f =>
        rw [hf] at h8
        exact ⟨s_mko o h1 h2 (okEs_len h3) ((hs o h3).1 h4) h4 (hk o h5) (okKs_len h5) h6 h7 (fun g hg => by rw [hf] at hg; cases hg; exact h8) ⟨f, hf⟩, pt_no fun _ _ _ _ z => z⟩
    | _ => cases h
  | _ => cases h
theorem e_dead : SE D F T M C lv .dead := fun _ _ => ⟨pe_no fun _ _ _ _ z => z, pt_no fun _ _ _ _ z => z⟩
theorem e_listM {es : REs} (hs : SEs D F T M C lv es) : SE D F T M C lv (.listM es) := by
  intro X c W e o h
  cases e with
  | Call g as kws p =>
    cases g with
    | Name x q =>
      cases kws with
      | nil =>
        have h' : (okGl c "list" x && M.nb.any (· == "list") && okEs M T c es as && noStar as && !as.isEmpty) = true := h
        simp only [Bool.and_eq_true] at h'
        obtain ⟨⟨⟨⟨h1, h2⟩, h3⟩, h4⟩, h5⟩ := h'
        exact ⟨s_listM (pos := p) (p := q) o h1 h2 ((hs o h3).1 h4) h4 h5, pt_no fun _ _ _ _ z => z⟩
      | cons _ _ => cases h
    | _ => cases h
  | _ => cases h
theorem e_blt {b : Blt} {es : REs} (hs : SEs D F T M C lv es) : SE D F T M C lv (.blt b es) := by
  intro X c W e o h
  cases e with
  | Call g as kws p =>
    cases g with
    | Name x q =>
      cases kws with
      | nil =>
        have h' : (okGl c b.nm x && M.nb.any (· == b.nm) && okEs M T c es as && noStar as && !as.isEmpty) = true := h
        simp only [Bool.and_eq_true] at h'
        obtain ⟨⟨⟨⟨h1, h2⟩, h3⟩, h4⟩, h5⟩ := h'
        have z := s_blt (pos := p) (p := q) o h1 h2 ((hs o h3).1 h4) h4 h5
        exact ⟨z, t_val o z (fun _ => rfl) fun _ _ _ _ z => z⟩
      | cons _ _ => cases h
    | _ => cases h
  | _ => cases h
theorem e_bltK {b : Blt} {es kes : REs} {ks : List String} (hs : SEs D F T M C lv es) (hk : SKs D F T M C lv kes) : SE D F T M C lv (.bltK b es ks kes) := by
  intro X c W e o h
  cases e with
  | Call g as kws p =>
    cases g with
    | Name x q =>
      have h' : (decide (b = .max) && okGl c b.nm x && M.nb.any (· == b.nm) && okEs M T c es as && noStar as && !as.isEmpty && okKs M T c kes kws && decide (namesOf kws = ks.map fun k => some (sN k))) = true := h
      simp only [Bool.and_eq_true, decide_eq_true_eq] at h'
      obtain ⟨⟨⟨⟨⟨⟨⟨h0, h1⟩, h2⟩, h3⟩, h4⟩, h5⟩, h6⟩, h7⟩ := h'
      exact ⟨s_bltK o h0 h1 h2 ((hs o h3).1 h4) h4 h5 (hk o h6) h7, pt_no fun _ _ _ _ z => z⟩
    | _ => cases h
  | _ => cases h
theorem e_meth {a : RE} {m : Nat} {b : Option BM} {es : REs} {ks : List String} {kes : REs} {arr : List (Nat ⊕ PV)} (ha : SE D F T M C lv a) (hs : SEs D F T M C lv es) (hk : SKs D F T M C lv kes) : SE D F T M C lv (.meth a m b es ks kes arr) := by
  intro X c W e o h
  cases e with
  | Call g as kws p =>
    cases g with
    | Attribute e' x q =>
      have h' : (strB (dN m) x && notSuper e' && (q.endLine == p.line) && okE M T c a e' && okEs M T c es as && noStar as && okKs M T c kes kws && decide (namesOf kws = ks.map fun k => some (sN k)) && (kws.isEmpty || !as.isEmpty) &&
        decide (as.length + kws.length < 20) && (T.cls.all fun d => match d.ms.lookup m with
          | some f => M.has f true as.length ks arr
          | .none => true) && (match (generalizing := false) b with
          | some b' => b'.nm == m && kws.isEmpty
          | .none => true)) = true := h
      simp only [Bool.and_eq_true, decide_eq_true_eq] at h'
      obtain ⟨⟨⟨⟨⟨⟨⟨⟨⟨⟨⟨h1, h2⟩, h3⟩, h4⟩, h5⟩, h6⟩, h7⟩, h8⟩, h9⟩, h10⟩, h11⟩, h12⟩ := h'
      have e1 : dN m = x := of_decide_eq_true h1
      subst e1
      have z := s_meth (pos := p) o h2 h3 (ha o h4).1 (okEs_len h5) ((hs o h5).1 h6) h6 (hk o h7) (okKs_len h7) h8 h9 h10 h11 h12
      exact ⟨z, t_val o z (fun _ => rfl) fun _ _ _ _ z => z⟩
    | _ => cases h
  | _ => cases h
theorem e_fld {a : RE} {f : Nat} (ha : SE D F T M C lv a) : SE D F T M C lv (.fld a f) := by
  intro X c W e o h
  cases e with
  | Attribute e' x p =>
    have h' : (strB (dN f) x && notSuper e' && M.fl.contains f && okE M T c a e') = true := h
    simp only [Bool.and_eq_true] at h'
    obtain ⟨⟨⟨h1, h2⟩, h3⟩, h4⟩ := h'
    have e1 : dN f = x := of_decide_eq_true h1
    subst e1
    have z := s_fld (pos := p) o (by simpa using h3) h2 (ha o h4).1
    exact ⟨z, t_val o z (fun _ => rfl) fun _ _ _ _ z => z⟩
  | _ => cases h
theorem e_sub {a i : RE} (ha : SE D F T M C lv a) (hi : SE D F T M C lv i) : SE D F T M C lv (.sub a i) := by
  intro X c W e o h
  cases e with
  | Subscript e' k p =>
    have h' : (!isSlice k && okE M T c a e' && okE M T c i k) = true := h
    simp only [Bool.and_eq_true, Bool.not_eq_true'] at h'
    have z := s_sub (pos := p) o h'.1.1 (ha o h'.1.2).1 (hi o h'.2).1
    exact ⟨z, t_val o z (fun _ => rfl) fun _ _ _ _ z => z⟩
  | _ => cases h
theorem e_subI {a i : RE} (ha : SE D F T M C lv a) (hi : SE D F T M C lv i) : SE D F T M C lv (.subI a i) := by
  intro X c W e o h
  cases e with
  | Subscript e' k p =>
    have h' : (!isSlice k && okE M T c a e' && okE M T c i k) = true := h
    simp only [Bool.and_eq_true, Bool.not_eq_true'] at h'
    exact ⟨s_subI (pos := p) o h'.1.1 (ha o h'.1.2).1 (hi o h'.2).1, pt_no fun _ _ _ _ z => z⟩
  | _ => cases h
theorem e_subK {a : RE} {f : Nat} (ha : SE D F T M C lv a) : SE D F T M C lv (.subK a f) := by
  intro X c W e o h
  cases e with
  | Subscript e' k p =>
    have h' : (isKey f k && okE M T c a e') = true := h
    rw [Bool.and_eq_true] at h'
    exact ⟨s_subK (pos := p) o h'.1 (ha o h'.2).1, pt_no fun _ _ _ _ z => z⟩
  | _ => cases h
theorem e_slice {a : RE} {lo hi : RO} (ha : SE D F T M C lv a) (hl : SO' D F T M C lv lo) (hh : SO' D F T M C lv hi) : SE D F T M C lv (.slice a lo hi) := by
  intro X c W e o h
  cases e with
  | Subscript e' k p =>
    cases k with
    | Slice l h1 st p2 =>
      cases st with
      | none =>
        have h' : (okE M T c a e' && okO M T c lo l && okO M T c hi h1) = true := h
        simp only [Bool.and_eq_true] at h'
        exact ⟨s_slice o (ha o h'.1.1).1 (hl o h'.1.2) (hh o h'.2), pt_no fun _ _ _ _ z => z⟩
      | some _ => cases h
    | _ => cases h
  | _ => cases h
theorem e_step {a : RE} {st : Int} (ha : SE D F T M C lv a) : SE D F T M C lv (.step a st) := by
  intro X c W e o h
  cases e with
  | Subscript e' k p =>
    cases k with
    | Slice l h1 s2 p2 =>
      cases l with
      | some _ => cases h1 <;> cases s2 <;> cases h
      | none =>
        cases h1 with
        | some _ => cases s2 <;> cases h
        | none =>
          cases s2 with
          | none => cases h
          | some u =>
            have h' : (stepOk st u && okE M T c a e') = true := h
            rw [Bool.and_eq_true] at h'
            exact ⟨s_step o h'.1 (ha o h'.2).1, pt_no fun _ _ _ _ z => z⟩
    | _ => cases h
  | _ => cases h
theorem e_eqO {neg : Bool} {a b : RE} (ha : SE D F T M C lv a) (hb : SE D F T M C lv b) : SE D F T M C lv (.eqO neg a b) := by
  intro X c W e o h
  cases e with
  | Compare l ops rs p =>
    match ops, rs, h with
    | [o'], [r], h =>
      have h' : (decide (o' = if neg = true then .NotEq else .Eq) && !behindInMarks o' r && okE M T c a l && okE M T c b r && T.cls.all fun d => match d.ms.lookup nEq with
        | some f => M.has f true 1 [] [.inl 0]
        | .none => true) = true := h
      simp only [Bool.and_eq_true, decide_eq_true_eq, Bool.not_eq_true'] at h'
      obtain ⟨⟨⟨⟨h0, h1⟩, h2⟩, h3⟩, h4⟩ := h'
      exact ⟨s_eqO (pos := p) o h0 h1 h4 (ha o h2).1 (hb o h3).1, t_eqO (pos := p) o h0 h1 h4 (ha o h2).1 (hb o h3).1⟩
    | [], _, h => cases h
    | [_], [], h => cases h
    | [_], _ :: _ :: _, h => cases h
    | _ :: _ :: _, _, h => cases h
  | _ => cases h
theorem e_eqP {a b : RE} (ha : SE D F T M C lv a) (hb : SE D F T M C lv b) : SE D F T M C lv (.eqP a b) := by
  intro X c W e o h
  cases e with
  | Compare l ops rs p =>
    match ops, rs, h with
    | [o'], [r], h =>
      have h' : (decide (o' = .Eq) && !behindInMarks o' r && okE M T c a l && okE M T c b r && T.cls.all fun d => match d.ms.lookup nEq with
        | some f => M.has f true 1 [] [.inl 0]
        | .none => true) = true := h
      simp only [Bool.and_eq_true, decide_eq_true_eq, Bool.not_eq_true'] at h'
      obtain ⟨⟨⟨⟨h0, h1⟩, h2⟩, h3⟩, h4⟩ := h'
      subst h0
      exact ⟨s_eqP (pos := p) o h1 h4 (ha o h2).1 (hb o h3).1, pt_no fun _ _ _ _ z => z⟩
    | [], _, h => cases h
    | [_], [], h => cases h
    | [_], _ :: _ :: _, h => cases h
    | _ :: _ :: _, _, h => cases h
  | _ => cases h
theorem e_fmtR {a : RE} (ha : SE D F T M C lv a) : SE D F T M C lv (.fmtR a) := by
  intro X c W e o h
  cases e with
  | FormattedValue e cv sp p =>
    cases sp with
    | some _ => cases h
    | none =>
      have h' : (decide (cv = 114) && okE M T c a e) = true := h
      simp only [Bool.and_eq_true, decide_eq_true_eq] at h'
      obtain ⟨rfl, h1⟩ := h'
      exact ⟨s_fmtR (p := p) o (ha o h1).1, pt_no fun _ _ _ _ z => z⟩
  | _ => cases h
theorem e_fOwn {a : RE} (ha : SE D F T M C lv a) : SE D F T M C lv (.fOwn a) := by
  intro X c W e o h
  cases e with
  | JoinedStr vs p =>
    cases vs with
    | nil => cases h
    | cons x r =>
      cases x with
      | FormattedValue e cv f p1 =>
        cases f with
        | some _ => cases h
        | none =>
          cases r with
          | cons _ _ => cases h
          | nil =>
            have h' : (decide (cv = -1) && okE M T c a e && T.cls.all fun d => match d.ms.lookup nStr with
              | some f => M.has f true 0 [] []
              | .none => true) = true := h
            simp only [Bool.and_eq_true, decide_eq_true_eq] at h'
            obtain ⟨⟨h1, h2⟩, h3⟩ := h'
            subst h1
            exact ⟨s_fOwn (pos := p) o (ha o h2).1 h3, pt_no fun _ _ _ _ z => z⟩
      | _ => cases h
  | _ => cases h
theorem e_join {a b : RE} (ha : SE D F T M C lv a) (hb : SE D F T M C lv b) : SE D F T M C lv (.join a b) := by
  intro X c W e o h
  cases e with
  | Call g as kws p =>
    cases g with
    | Attribute e' x q =>
      match as, kws, h with
      | [r], [], h =>
        have h' : (decide (x = ("join" : Str)) && notSuper e' && (q.endLine == p.line) && noStar [r] && okE M T c a e' && okE M T c b r) = true := h
        simp only [Bool.and_eq_true, decide_eq_true_eq] at h'
        obtain ⟨⟨⟨⟨⟨h1, h2⟩, h3⟩, h4⟩, h5⟩, h6⟩ := h'
        subst h1
        exact ⟨s_join (pos := p) o h2 h3 h4 (ha o h5).1 (hb o h6).1, pt_no fun _ _ _ _ z => z⟩
      | [], _, h => cases h
      | [_], _ :: _, h => cases h
      | _ :: _ :: _, _, h => cases h
    | _ => cases h
  | _ => cases h
theorem e_split {m : Bool} {a b : RE} (ha : SE D F T M C lv a) (hb : SE D F T M C lv b) : SE D F T M C lv (.split m a b) := by
  intro X c W e o h
  cases e with
  | Call g as kws p =>
    cases g with
    | Attribute e' x q =>
      match as, kws, h with
      | [r], [], h =>
        have h' : (decide (x = ("split" : Str)) && notSuper e' && (q.endLine == p.line) && noStar [r] && okE M T c a e' && okE M T c b r) = true := h
        simp only [Bool.and_eq_true, decide_eq_true_eq] at h'
        obtain ⟨⟨⟨⟨⟨h1, h2⟩, h3⟩, h4⟩, h5⟩, h6⟩ := h'
        subst h1
        exact ⟨s_split (pos := p) o h2 h3 h4 (ha o h5).1 (hb o h6).1, pt_no fun _ _ _ _ z => z⟩
      | [], _, h => cases h
      | [_], _ :: _, h => cases h
      | _ :: _ :: _, _, h => cases h
    | _ => cases h
  | _ => cases h
theorem e_subT {a i : RE} (ha : SE D F T M C lv a) (hi : SE D F T M C lv i) : SE D F T M C lv (.subT a i) := by
  intro X c W e o h
  cases e with
  | Subscript e' k p =>
    have h' : (!isSlice k && okE M T c a e' && okE M T c i k) = true := h
    simp only [Bool.and_eq_true, Bool.not_eq_true'] at h'
    exact ⟨s_subT (pos := p) h'.1.1 (ha o h'.1.2).1 (hi o h'.2).1, pt_no fun _ _ _ _ z => z⟩
  | _ => cases h
theorem e_inT {a b : RE} (ha : SE D F T M C lv a) (hb : SE D F T M C lv b) : SE D F T M C lv (.inT a b) := by
  intro X c W e o h
  cases e with
  | Compare l ops rs p =>
    match ops, rs, h with
    | [o'], [r], h =>
      have h' : (decide (o' = .In) && !behindInMarks o' r && okE M T c a l && okE M T c b r) = true := h
      simp only [Bool.and_eq_true, decide_eq_true_eq, Bool.not_eq_true'] at h'
      obtain ⟨⟨⟨h0, h1⟩, h2⟩, h3⟩ := h'
      exact ⟨s_inT (pos := p) h0 h1 (ha o h2).1 (hb o h3).1, pt_no fun _ _ _ _ z => z⟩
    | [], _, h => cases h
    | [_], [], h => cases h
    | [_], _ :: _ :: _, h => cases h
    | _ :: _ :: _, _, h => cases h
  | _ => cases h
theorem e_eqE {neg : Bool} {a b : RE} (ha : SE D F T M C lv a) (hb : SE D F T M C lv b) : SE D F T M C lv (.eqE neg a b) := by
  intro X c W e o h
  cases e with
  | Compare l ops rs p =>
    match ops, rs, h with
    | [o'], [r], h =>
      have h' : (decide (o' = if neg = true then .NotEq else .Eq) && !behindInMarks o' r && okE M T c a l && okE M T c b r) = true := h
      simp only [Bool.and_eq_true, decide_eq_true_eq, Bool.not_eq_true'] at h'
      obtain ⟨⟨⟨h0, h1⟩, h2⟩, h3⟩ := h'
      exact ⟨s_eqE (pos := p) o h0 h1 (ha o h2).1 (hb o h3).1, t_eqE (pos := p) o h0 h1 (ha o h2).1 (hb o h3).1⟩
    | [], _, h => cases h
    | [_], [], h => cases h
    | [_], _ :: _ :: _, h => cases h
    | _ :: _ :: _, _, h => cases h
  | _ => cases h
theorem e_inO {neg : Bool} {a b : RE} (ha : SE D F T M C lv a) (hb : SE D F T M C lv b) : SE D F T M C lv (.inO neg a b) := by
  intro X c W e o h
  cases e with
  | Compare l ops rs p =>
    match ops, rs, h with
    | [o'], [r], h =>
      have h' : (decide (o' = if neg = true then .NotIn else .In) && !behindInMarks o' r && okE M T c a l && okE M T c b r && T.cls.all fun d => match d.ms.lookup nEq with
        | some f => M.has f true 1 [] [.inl 0]
        | .none => true) = true := h
      simp only [Bool.and_eq_true, decide_eq_true_eq, Bool.not_eq_true'] at h'
      obtain ⟨⟨⟨⟨h0, h1⟩, h2⟩, h3⟩, h4⟩ := h'
      exact ⟨s_inO (pos := p) o h0 h1 h4 (ha o h2).1 (hb o h3).1, t_inO (pos := p) o h0 h1 h4 (ha o h2).1 (hb o h3).1⟩
    | [], _, h => cases h
    | [_], [], h => cases h
    | [_], _ :: _ :: _, h => cases h
    | _ :: _ :: _, _, h => cases h
  | _ => cases h
theorem e_bltO {b : Blt} {a : RE} (ha : SE D F T M C lv a) (hs : SEs D F T M C lv (.cons a .nil)) : SE D F T M C lv (.bltO b a) := by
  intro X c W e o h
  cases e with
  | Call g as kws p =>
    cases g with
    | Name x q =>
      cases kws with
      | cons _ _ => cases as with
        | nil => cases h
        | cons y ys => cases ys <;> cases h
      | nil =>
        match as, h with
        | [e], h =>
          have h' : (okGl c b.nm x && M.nb.any (· == b.nm) && okE M T c a e && noStar [e] && ((decide (b = .len) && T.cls.all fun d => match d.ms.lookup nLen with
            | some f => M.has f true 0 [] []
            | .none => true) || (decide (b = .str) && T.cls.all fun d => match d.ms.lookup nStr with
            | some f => M.has f true 0 [] []
            | .none => true) || (decide (b = .repr) && T.cls.all fun d => match d.ms.lookup nRepr with
            | some f => M.has f true 0 [] []
            | .none => true))) = true := h
          simp only [Bool.and_eq_true, Bool.or_eq_true, decide_eq_true_eq] at h'
          obtain ⟨⟨⟨⟨h1, h2⟩, h3⟩, h4⟩, h5⟩ := h'
          have hes : okEs M T c (.cons a .nil) [e] = true := by
            show (okE M T c a e && true) = true
            rw [h3] <;> rfl
          rcases h5 with (⟨rfl, h5⟩ | ⟨rfl, h5⟩) | ⟨rfl, h5⟩
          · exact ⟨s_lenO o h1 h2 ((hs o hes).1 h4) h4 h5, pt_no fun _ _ _ _ z => z⟩
          · exact ⟨s_strO o h1 h2 ((hs o hes).1 h4) h4 h5, pt_no fun _ _ _ _ z => z⟩
          · exact ⟨s_reprO o h1 h2 ((hs o hes).1 h4) h4 h5, pt_no fun _ _ _ _ z => z⟩
        | [], h => cases h
        | _ :: _ :: _, h => cases h
    | _ => cases as with
      | nil => cases kws <;> cases h
      | cons y ys => cases ys <;> cases kws <;> cases h
  | _ => cases h
theorem rngArg_is {r : Expr} {y : Str} {e : Expr} (h : rngArg r = some (y, e)) : ∃ q p, r = .Call (.Name y q) [e] [] p := by
  unfold rngArg at h
  split at h
  · cases h
    exact ⟨_, _, rfl⟩
  · cases h
theorem e_srt {m : Bool} {a : RE} (ha : SE D F T M C lv a) (hs : SEs D F T M C lv (.cons a .nil)) : SE D F T M C lv (.srt m a) := by
  intro X c W e o h
  cases e with
  | Call g as kws p =>
    cases g with
    | Name x q =>
      cases kws with
      | cons _ _ => cases as with
        | nil => cases h
        | cons y ys => cases ys <;> cases h
      | nil =>
        match as, h with
        | [r], h =>
          have h' : (okGl c "sorted" x && M.nb.any (· == "sorted") && okE M T c a r && noStar [r]) = true := h
          rw [Bool.and_eq_true, Bool.and_eq_true, Bool.and_eq_true] at h'
          obtain ⟨⟨⟨h1, h2⟩, h3⟩, h4⟩ := h'
          have hes : okEs M T c (.cons a .nil) [r] = true := by
            show (okE M T c a r && true) = true
            rw [h3] <;> rfl
          exact ⟨s_srt o h1 h2 ((hs o hes).1 h4) h4, pt_no fun _ _ _ _ z => z⟩
        | [], h => cases h
        | _ :: _ :: _, h => cases h
    | _ => cases as with
      | nil => cases kws <;> cases h
      | cons y ys => cases ys <;> cases kws <;> cases h
  | _ => cases h
theorem e_srtSet {m : Bool} {a : RE} (ha : SE D F T M C lv a) (hs : SEs D F T M C lv (.cons a .nil)) : SE D F T M C lv (.srtSet m a) := by
  intro X c W e o h
  cases e with
  | Call g as kws p =>
    cases g with
    | Name x q =>
      cases kws with
      | cons _ _ => cases as with
        | nil => cases h
        | cons y ys => cases ys <;> cases h
      | nil =>
        match as, h with
        | [r], h =>
          have h' : (okGl c "sorted" x && M.nb.any (· == "sorted") && M.nb.any (· == "set") && (match (generalizing := false) rngArg r with
            | some (y, e) => okGl c "set" y && okE M T c a e && noStar [e]
            | .none => false)) = true := h
          rw [Bool.and_eq_true, Bool.and_eq_true, Bool.and_eq_true] at h'
          obtain ⟨⟨⟨h1, h2⟩, h4⟩, h3⟩ := h'
          cases er : rngArg r with
          | none => rw [er] at h3; cases h3
          | some ye =>
            obtain ⟨y, e1⟩ := ye
            rw [er] at h3
            have h3 : (okGl c "set" y && okE M T c a e1 && noStar [e1]) = true := h3
            rw [Bool.and_eq_true, Bool.and_eq_true] at h3
            obtain ⟨q2, p2, rfl⟩ := rngArg_is er
            have hes : okEs M T c (.cons a .nil) [e1] = true := by
              show (okE M T c a e1 && true) = true
              rw [h3.1.2] <;> rfl
            exact ⟨s_srtSet o h1 h2 h3.1.1 h4 ((hs o hes).1 h3.2) h3.2, pt_no fun _ _ _ _ z => z⟩
        | [], h => cases h
        | _ :: _ :: _, h => cases h
    | _ => cases as with
      | nil => cases kws <;> cases h
      | cons y ys => cases ys <;> cases kws <;> cases h
  | _ => cases h
theorem e_lenR {a : RE} (ha : SE D F T M C lv a) (hs : SEs D F T M C lv (.cons a .nil)) : SE D F T M C lv (.lenR a) := by
  intro X c W e o h
  cases e with
  | Call g as kws p =>
    cases g with
    | Name x q =>
      cases kws with
      | cons _ _ => cases as with
        | nil => cases h
        | cons y ys => cases ys <;> cases h
      | nil =>
        match as, h with
        | [r], h =>
          have h' : (okGl c "len" x && M.nb.any (· == "len") && M.nb.any (· == "range") && (match (generalizing := false) rngArg r with
            | some (y, e) => okGl c "range" y && okE M T c a e && noStar [e]
            | .none => false)) = true := h
          rw [Bool.and_eq_true, Bool.and_eq_true, Bool.and_eq_true] at h'
          obtain ⟨⟨⟨h1, h2⟩, h4⟩, h3⟩ := h'
          cases er : rngArg r with
          | none => rw [er] at h3; cases h3
          | some ye =>
            obtain ⟨y, e1⟩ := ye
            rw [er] at h3
            have h3 : (okGl c "range" y && okE M T c a e1 && noStar [e1]) = true := h3
            rw [Bool.and_eq_true, Bool.and_eq_true] at h3
            obtain ⟨q2, p2, rfl⟩ := rngArg_is er
            have hes : okEs M T c (.cons a .nil) [e1] = true := by
              show (okE M T c a e1 && true) = true
              rw [h3.1.2] <;> rfl
            exact ⟨s_lenR o h1 h2 h3.1.1 h4 ((hs o hes).1 h3.2) h3.2, pt_no fun _ _ _ _ z => z⟩
        | [], h => cases h
        | _ :: _ :: _, h => cases h
    | _ => cases as with
      | nil => cases kws <;> cases h
      | cons y ys => cases ys <;> cases kws <;> cases h
  | _ => cases h
theorem e_lstR {m : Bool} {a : RE} (ha : SE D F T M C lv a) : SE D F T M C lv (.lstR m a) := by
  intro X c W e o h
  cases e with
  | Call g as kws p =>
    cases g with
    | Name x q =>
      cases kws with
      | cons _ _ => cases as with
        | nil => cases h
        | cons y ys => cases ys <;> cases h
      | nil =>
        match as, h with
        | [r], h =>
          have h' : (okGl c "list" x && M.nb.any (· == "list") && M.nb.any (· == "range") && (match (generalizing := false) rngArg r with
            | some (y, e) => okGl c "range" y && okE M T c a e && noStar [e]
            | .none => false)) = true := h
          rw [Bool.and_eq_true, Bool.and_eq_true, Bool.and_eq_true] at h'
          obtain ⟨⟨⟨h1, h2⟩, h4⟩, h3⟩ := h'
          cases er : rngArg r with
          | none => rw [er] at h3; cases h3
          | some ye =>
            obtain ⟨y, e1⟩ := ye
            rw [er] at h3
            have h3 : (okGl c "range" y && okE M T c a e1 && noStar [e1]) = true := h3
            rw [Bool.and_eq_true, Bool.and_eq_true] at h3
            obtain ⟨q2, p2, rfl⟩ := rngArg_is er
            exact ⟨s_lstR o h1 h2 h3.1.1 h4 (ha o h3.1.2).1 h3.2, pt_no fun _ _ _ _ z => z⟩
        | [], h => cases h
        | _ :: _ :: _, h => cases h
    | _ => cases as with
      | nil => cases kws <;> cases h
      | cons y ys => cases ys <;> cases kws <;> cases h
  | _ => cases h
theorem e_gty {n : BT} : SE D F T M C lv (.gty n) := by
  intro X c W e o h
  cases e with
  | Name x p =>
    have h' : (okGl c n.nm x && decide (n ≠ .non) && M.nb.any (· == n.nm)) = true := h
    simp only [Bool.and_eq_true, decide_eq_true_eq] at h'
    exact ⟨s_gty o h'.1.1 h'.1.2 (by simpa using h'.2), pt_no fun _ _ _ _ z => z⟩
  | _ => cases h
theorem e_rev {m : Bool} {a : RE} (ha : SE D F T M C lv a) : SE D F T M C lv (.rev m a) := by
  intro X c W e o h
  cases e with
  | Subscript e' k p =>
    cases k with
    | Slice l h1 s2 p2 =>
      cases l with
      | some _ => cases s2 <;> cases h
      | none =>
        cases h1 with
        | some _ => cases s2 <;> cases h
        | none =>
          cases s2 with
          | none => cases h
          | some u =>
            cases u with
            | UnaryOp uo x q =>
              cases uo with
              | USub =>
                cases x with
                | Constant k j q2 =>
                  cases k with
                  | int n =>
                    have h' : (n == 1 && okE M T c a e') = true := h
                    rw [Bool.and_eq_true] at h'
                    have e1 : n = 1 := eq_of_beq h'.1
                    subst e1
                    exact ⟨s_rev o (ha o h'.2).1, pt_no fun _ _ _ _ z => z⟩
                  | _ => cases h
                | _ => cases h
              | _ => cases h
            | _ => cases h
    | _ => cases h
  | _ => cases h
/-- the parts of a text put together -/
def fTs (D : Ad) (T : Tab) (C : CS) (W : WX) : REs → List TE
  | .nil => []
  | .cons r rs => tFmt (rdE D T C W r) :: fTs D T C W rs
def SFs (D : Ad) (F : Fd) (T : Tab) (M : Nm) (C : CS) (lv : Nat) (r : REs) : Prop := ∀ {X : Cx} {c : Sc} {W : WX} {es : List Expr}, Okx X D F T M M.fl C lv W c → okFs M T c r es = true → PJ X es (fTs D T C W r)
theorem fmt_const {W : WX} {X : Cx} {z : Str} {j : Nat} {p : Pos} : PE X (.Constant (.str z) j p) (tFmt (rdE D T C W (.const (.str z)))) := by
  refine PE.imp pe_str fun σc H Q h => ?_
  obtain ⟨ι, S, σ, Qa, Ra, L, G, hw, cn, cx⟩ := h
  have q := cn.here L (show RV D ι H (.str z) (.str z) from rfl) (show Qa (.str z) S from hw)
  rcases q with ⟨y, e, _, q⟩ | ⟨i, e, _⟩
  · cases e
    exact q
  · cases e
theorem f_nil : SFs D F T M C lv .nil := by
  intro X c W es o h
  cases es with
  | nil => exact .nil
  | cons e es => cases e <;> cases h
theorem f_cons {r : RE} {rs : REs} (hr : SE D F T M C lv r) (hs : SFs D F T M C lv rs) : SFs D F T M C lv (.cons r rs) := by
  intro X c W es o h
  cases es with
  | nil => cases h
  | cons e es =>
    cases e with
    | FormattedValue e cv sp p =>
      cases sp with
      | some _ => cases h
      | none =>
        have h' : (((decide (cv = -1) && okE M T c r e) || okE M T c r (.FormattedValue e cv none p)) && okFs M T c rs es) = true := h
        simp only [Bool.and_eq_true, Bool.or_eq_true, decide_eq_true_eq] at h'
        obtain ⟨⟨rfl, h1⟩ | h1, h2⟩ := h'
        · exact .cons (pe_fmt (hr o h1).1) (hs o h2)
        · have q := (hr (W := W) o h1).1
          have er : r = .dead ∨ ∃ a, r = .fmtR a := by cases r <;> first | exact .inl rfl | exact .inr ⟨_, rfl⟩ | cases h1
          rcases er with rfl | ⟨a, rfl⟩
          · refine .cons (PE.imp q fun σc H Q z => ?_) (hs o h2)
            obtain ⟨ι, S, σ, Qa, Ra, L, G, hw, cn, cx⟩ := z
            exact (show False from hw).elim
          · exact .cons (fmt_R q) (hs o h2)
    | Constant k j p =>
      have h' : (okTx r k && okFs M T c rs es) = true := h
      rw [Bool.and_eq_true] at h'
      obtain ⟨z, rfl, rfl⟩ := okTx_eq h'.1
      exact .cons fmt_const (hs o h'.2)
    | _ => cases h
theorem js_run {W : WX} {σc : L2.St} : ∀ (r : REs) (acc : Str) {H : Hp} {Q : VK} {ι : List Addr} {S : Store} {σ : Sg} {Qa : QV} {Ra : QX}, Ly D ι H S → RG D ι H σ σc → wpJs T C r acc σ S Qa Ra → Cnt D ι H Qa Q → CnX D ι H Ra σc W → tJs (fTs D T C W r) acc σc H (fun out H1 => Q (.str out) H1)
  | .nil, acc, H, Q, ι, S, σ, Qa, Ra, L, G, hw, cn, cx => cn.here L (show RV D ι H (.str acc) (.str acc) from rfl) (show Qa (.str acc) S from hw)
  | .cons r rs, acc, H, Q, ι, S, σ, Qa, Ra, L, G, hw, cn, cx => by
    show rdE D T C W r σc H _
    refine ⟨ι, S, σ, _, Ra, L, G, hw, fun ι1 S1 H1 v x e1 L1 r1 q1 => ?_, cx⟩
    obtain ⟨y, hy, q⟩ := onS_ex q1
    obtain ⟨hl, q⟩ := onT_ex q
    have hl := of_decide_eq_true hl
    have rest := js_run rs (acc ++ y) L1 (G.ext e1) q (cn.ext e1) (cx.ext e1)
    cases v with
    | str z =>
      have ez := rv_str r1
      subst ez
      simp only [txtOf] at hy
      split at hy
      · rename_i hz
        cases hy
        exact .inl ⟨y, rfl, by rw [sizeLine_eq]; exact hz, y, rfl, by rw [sizeLine_eq]; exact hl, rest⟩
      · cases hy
    | int i =>
      cases rv_int r1
      simp only [txtOf] at hy
      split at hy
      · rename_i hz
        cases hy
        rw [itS_eq] at hl rest
        exact .inr ⟨i, rfl, hz, toString i, rfl, by rw [sizeLine_eq]; exact hl, rest⟩
      · cases hy
    | _ => simp [txtOf] at hy
theorem e_fstr {es : REs} (hs : SFs D F T M C lv es) : SE D F T M C lv (.fstr es) := by
  intro X c W e o h
  cases e with
  | JoinedStr vs p =>
    have h' : (okFs M T c es vs && decide (2 ≤ vs.length)) = true := h
    simp only [Bool.and_eq_true, decide_eq_true_eq] at h'
    refine ⟨?_, pt_no fun _ _ _ _ z => z⟩
    have q := hs (W := W) o h'.1
    match vs, h'.2, q with
    | v1 :: v2 :: rest, _, q =>
      refine PE.imp (pe_joined q) fun σc H Q z => ?_
      obtain ⟨ι, S, σ, Qa, Ra, L, G, hw, cn, cx⟩ := z
      exact js_run es Str.empty L G hw cn cx
  | _ => cases h
/-- the pairs of a display -/
def dTs (D : Ad) (T : Tab) (C : CS) (W : WX) : List DK → REs → List (TE × TE)
  | k :: ks, .cons r rs => (tC (L2.kV (dkK k)), rdE D T C W r) :: dTs D T C W ks rs
  | _, _ => []
def SDs (D : Ad) (F : Fd) (T : Tab) (M : Nm) (C : CS) (lv : Nat) (r : REs) : Prop := ∀ {X : Cx} {c : Sc} {W : WX} {ks : List DK} {keys : List (Option Expr)} {vs : List Expr} {pos : Pos}, Okx X D F T M M.fl C lv W c → okDk M c ks keys = true → okEs M T c r vs = true → keys.length = vs.length →
  PPs X pos keys vs (dTs D T C W ks r) ∧ ks.length = r.len ∧ ks.length = keys.length
theorem ds_nil : SDs D F T M C lv .nil := by
  intro X c W ks keys vs pos o hk h hl
  cases vs with
  | cons _ _ => cases h
  | nil =>
    cases keys with
    | cons _ _ => cases hl
    | nil =>
      cases ks with
      | cons _ _ => cases hk
      | nil => exact ⟨pps_nil, rfl, rfl⟩
theorem ds_cons {r : RE} {rs : REs} (hr : SE D F T M C lv r) (hs : SDs D F T M C lv rs) : SDs D F T M C lv (.cons r rs) := by
  intro X c W ks keys vs pos o hk h hl
  cases vs with
  | nil => cases h
  | cons e es =>
    have h' : (okE M T c r e && okEs M T c rs es) = true := h
    rw [Bool.and_eq_true] at h'
    cases keys with
    | nil => cases hl
    | cons k0 kr =>
      cases ks with
      | nil => cases hk
      | cons k ks =>
        cases k0 with
        | none => cases hk
        | some ke =>
          have hk' : (okKey M c k ke && okDk M c ks kr) = true := hk
          rw [Bool.and_eq_true] at hk'
          obtain ⟨q1, q2, q3⟩ := hs (pos := pos) o hk'.2 h'.2 (by simpa using hl)
          exact ⟨pps_cons (pe_key o hk'.1) (hr o h'.1).1 q1, by rw [List.length_cons, q2]; rfl, by rw [List.length_cons, List.length_cons, q3]⟩
theorem d_run {W : WX} {σc : L2.St} : ∀ (r : REs) (ks : List DK) {H : Hp} {Q : List (V × V) → Hp → Prop} {ι : List Addr} {S : Store} {σ : Sg} {Qs : List PV → Store → Prop} {Ra : QX}, ks.length = r.len → Ly D ι H S → RG D ι H σ σc → wpEs T C r σ S Qs Ra →
    (∀ ι' S' H' ws xs, Ext ι H ι' H' → Ly D ι' H' S' → RVs D ι' H' ws xs → ws.length = ks.length → Qs ws S' → Q ((ks.zip xs).map fun p => (L2.kV (dkK p.1), p.2)) H') → CnX D ι H Ra σc W → tPairs (dTs D T C W ks r) σc H Q
  | .nil, [], H, Q, ι, S, σ, Qs, Ra, _, L, G, hw, cn, cx => cn ι S H [] [] Ext.refl L .nil rfl (show Qs [] S from hw)
  | .nil, _ :: _, _, _, _, _, _, _, _, hl, _, _, _, _, _ => by cases hl
  | .cons r rs, [], _, _, _, _, _, _, _, hl, _, _, _, _, _ => by cases hl
  | .cons r rs, k :: ks, H, Q, ι, S, σ, Qs, Ra, hl, L, G, hw, cn, cx => by
    have hl' : ks.length = rs.len := by
      have : ks.length + 1 = rs.len + 1 := hl
      omega
    show rdE D T C W r σc H _
    refine ⟨ι, S, σ, _, Ra, L, G, hw, fun ι1 S1 H1 v x e1 L1 r1 q1 => ?_, cx⟩
    refine d_run rs ks hl' L1 (G.ext e1) q1 (fun ι2 S2 H2 ws xs e2 L2' r2 l2 q2 => ?_) (cx.ext e1)
    exact cn ι2 S2 H2 (v :: ws) (x :: xs) (e1.trans e2) L2' (.cons (r1.ext e2) r2) (by rw [List.length_cons, List.length_cons, l2]) q2
theorem ly_push2 {p : Addr} {ι : List Addr} {H H' : Hp} {S : Store} {o : SO} {ho : HO} (L : Ly D ι H S) (np : p ∉ ι) (ex : Exi ι H (ι ++ [p]) H') (k : ∀ b u, b ≠ p → H b = some u → H' b = some u) (hp : ∀ u, H p = some u → (∀ ps, u ≠ .tbl ps) ∧ ∀ φ, u ≠ .ext φ) (e : H' p = some ho) (r : RO' D (ι ++ [p]) H' o ho) : Ly D (ι ++ [p]) H' (S ++ [o]) := by
  refine ⟨by rw [List.length_append, List.length_append, L.len]; rfl, ?_, fun i u hu => ?_, tabs_mv L.tb (fun b ps q => k b _ (fun z => by rw [z] at q; exact (hp _ q).1 _ rfl) q) fun b φ q => k b _ (fun z => by rw [z] at q; exact (hp _ q).2 _ rfl) q⟩
  · refine List.nodup_append.mpr ⟨L.nd, by simp, fun a ha b hb => ?_⟩
    rw [List.mem_singleton.mp hb]
    rintro rfl
    exact np ha
  · by_cases hi : i < S.length
    · rw [List.getElem?_append_left hi] at hu
      obtain ⟨a, h, e1, e2, e3⟩ := L.at_ i u hu
      exact ⟨a, h, ex.get i a e1, k a h (fun z => np (by rw [← z]; exact List.mem_of_getElem? e1)) e2, e3.exi ex⟩
    · have hi' : i = S.length := by
        have := (List.getElem?_eq_some_iff.mp hu).1
        rw [List.length_append, List.length_singleton] at this
        omega
      subst hi'
      rw [List.getElem?_append_right (Nat.le_refl _), Nat.sub_self] at hu
      cases hu
      refine ⟨p, ho, ?_, e, r⟩
      rw [← L.len, List.getElem?_append_right (Nat.le_refl _), Nat.sub_self]
      rfl
theorem dic_zip {ι : List Addr} {H : Hp} : ∀ {ks : List DK} {ws : List PV} {xs : List V}, ws.length = ks.length → RVs D ι H ws xs →
    ((ks.zip xs).map fun p => (dkK p.1, p.2)).map (·.1) = (ks.zip ws).map (fun p => dkK p.1) ∧ RVs D ι H ((ks.zip ws).map (·.2)) (((ks.zip xs).map fun p => (dkK p.1, p.2)).map (·.2))
  | [], [], _, _, r => by
    cases r
    exact ⟨rfl, .nil⟩
  | [], _ :: _, _, h, _ => by cases h
  | _ :: _, [], _, h, _ => by cases h
  | k :: ks, w :: ws, xs, h, r => by
    obtain ⟨x, rs, rfl, a, b⟩ := r
    obtain ⟨p1, p2⟩ := dic_zip (ks := ks) (ws := ws) (by simpa using h) b
    simp only [List.zip_cons_cons, List.map_cons]
    exact ⟨by rw [p1] <;> rfl, .cons a p2⟩
theorem d_fin {ι ι1 : List Addr} {H H1 : Hp} {S S1 : Store} {p : Addr} {Qa : QV} {Q : VK} {ks : List DK} {ws : List PV} {xs : List V} (cn : Cnt D ι H Qa Q) (L : Ly D ι H S) (hp : H p = none) (e1 : Ext ι (upd H p (.dK [])) ι1 H1) (L1 : Ly D ι1 H1 S1) (hl : ws.length = ks.length) (r : RVs D ι1 H1 ws xs) (q : Qa (.ref S1.length) (S1 ++ [.dic (mergeD [] (ks.zip ws))])) :
    H1 p = some (.dK []) ∧ Q (.ref p) (upd H1 p (.dK (mergeK [] ((ks.zip xs).map fun p => (dkK p.1, p.2))))) := by
  have np0 := not_mem_of_none L hp
  have hp1 : H1 p = some (.dK []) := e1.out p _ np0 upd_same fun _ z => nomatch z
  obtain ⟨l, el, hl0⟩ := e1.pre
  have npl : p ∉ l := fun z => by
    have := hl0 p z
    rw [upd_same] at this
    cases this
  have np : p ∉ ι1 := fun z => by
    rw [el, List.mem_append] at z
    exact z.elim np0 npl
  have ne : ∀ b u, H b = some u → b ≠ p := fun b u h z => by rw [z, hp] at h; cases h
  have ex : Exi ι1 H1 (ι1 ++ [p]) (upd H1 p (.dK (mergeK [] ((ks.zip xs).map fun p => (dkK p.1, p.2))))) := ⟨fun i a h => by rw [List.getElem?_append_left (List.getElem?_eq_some_iff.mp h).1]; exact h, fun b o h im => by
    rw [upd_ne (fun z => ?_)]
    · exact h
    · rw [z, hp1] at h
      cases h
      exact im, fun b C dx fs hb h => by
    have hbp : b ≠ p := fun z => by
      rw [z, hp1] at h
      cases h
    exact ⟨fun m => by
      rcases List.mem_append.mp m with m | m
      · exact hb m
      · exact hbp (List.mem_singleton.mp m), by rw [upd_ne hbp]; exact h⟩, fun b φ hb h => by
    have hbp : b ≠ p := fun z => by
      rw [z, hp1] at h
      cases h
    exact ⟨fun m => by
      rcases List.mem_append.mp m with m | m
      · exact hb m
      · exact hbp (List.mem_singleton.mp m), by rw [upd_ne hbp]; exact h⟩⟩
  refine ⟨hp1, cn (ι1 ++ [p]) (S1 ++ [.dic (mergeD [] (ks.zip ws))]) _ (.ref S1.length) (.ref p) ⟨⟨l ++ [p], by rw [el, List.append_assoc], fun a ha => ?_⟩, fun b o hb h nt => ?_, fun b o h im => ?_, fun b o h => ?_⟩ (ly_push2 L1 np ex (fun b u hb h => by rw [upd_ne hb]; exact h) (fun u hu => by rw [hp1] at hu; cases hu; exact ⟨fun _ z => (nomatch z), fun _ z => (nomatch z)⟩) upd_same ?_) ⟨p, ?_, rfl⟩ q⟩
  · rw [List.mem_append, List.mem_singleton] at ha
    rcases ha with ha | rfl
    · have h0 := hl0 a ha
      rw [upd_ne (fun z => npl (by rw [← z]; exact ha))] at h0
      exact h0
    · exact hp
  · rw [upd_ne (ne b o h)]
    exact e1.out b o hb (by rw [upd_ne (ne b o h)]; exact h) nt
  · rw [upd_ne (ne b o h)]
    exact e1.imm b o (by rw [upd_ne (ne b o h)]; exact h) im
  · obtain ⟨o', h'⟩ := e1.trk b o (by rw [upd_ne (ne b o h)]; exact h)
    exact ⟨o', by rw [upd_ne (ne b o h)]; exact h'⟩
  · obtain ⟨z1, z2⟩ := dic_zip (H := H1) hl r
    obtain ⟨y1, y2⟩ := dic_merge (kvs := []) (kvs' := []) z1 z2 rfl .nil
    exact ⟨_, rfl, y1, y2.exi ex⟩
  · rw [← L1.len, List.getElem?_append_right (Nat.le_refl _), Nat.sub_self]
    rfl
theorem e_dic {ks : List DK} {vs : REs} (hs : SDs D F T M C lv vs) : SE D F T M C lv (.dic ks vs) := by
  intro X c W e o h
  cases e with
  | Dict keys es pos =>
    have h' : (okDk M c ks keys && okEs M T c vs es && decide (keys.length = es.length) && decide (keys.length ≤ 15)) = true := h
    simp only [Bool.and_eq_true, decide_eq_true_eq] at h'
    obtain ⟨⟨⟨h1, h2⟩, h3⟩, h4⟩ := h'
    obtain ⟨q1, q2, q3⟩ := hs (pos := pos) (W := W) o h1 h2 h3
    refine ⟨?_, pt_no fun _ _ _ _ z => z⟩
    have hall : keys.all (·.isSome) = true := by
      have : ∀ (ks : List DK) (keys : List (Option Expr)), okDk M c ks keys = true → keys.all (·.isSome) = true := by
        intro ks
        induction ks with
        | nil =>
          intro keys h
          cases keys with
          | nil => rfl
          | cons _ _ => cases h
        | cons k ks ih =>
          intro keys h
          cases keys with
          | nil => rfl
          | cons k0 kr =>
            cases k0 with
            | none => cases h
            | some ke =>
              have h' : (okKey M c k ke && okDk M c ks kr) = true := h
              rw [Bool.and_eq_true] at h'
              show (true && kr.all (·.isSome)) = true
              rw [ih kr h'.2]
              rfl
      exact this ks keys h1
    by_cases h0 : keys = []
    · subst h0
      have e1 : es = [] := List.eq_nil_of_length_eq_zero h3.symm
      subst e1
      have e2 : ks = [] := List.eq_nil_of_length_eq_zero q3
      subst e2
      cases vs with
      | cons _ _ => cases h2
      | nil =>
        refine PE.imp pe_dnewK fun σc H Q z => ?_
        obtain ⟨ι, S, σ, Qa, Ra, L, G, hw, cn, cx⟩ := z
        intro p hp
        have := (d_fin (ks := []) (ws := []) (xs := []) cn L hp Ext.refl (ly_new L hp) rfl .nil hw).2
        have eu : upd (upd H p (.dK [])) p (.dK (mergeK [] (([] : List (DK × V)).map fun p => (dkK p.1, p.2)))) = upd H p (.dK []) := upd_upd
        rw [← eu]
        exact this
    · refine PE.imp (pe_disp q1 hall h3 h0 h4) fun σc H Q z => ?_
      obtain ⟨ι, S, σ, Qa, Ra, L, G, hw, cn, cx⟩ := z
      intro p hp
      refine d_run vs ks q2 (ly_new L hp) (G.ext (ext_new L hp)) hw (fun ι1 S1 H1 ws xs e1 L1 r1 l1 q => ?_) (cx.ext (ext_new L hp))
      obtain ⟨y1, y2⟩ := d_fin (ks := ks) cn L hp e1 L1 l1 r1 q
      refine ⟨y1, (ks.zip xs).map fun p => (dkK p.1, p.2), ?_, ?_, y2⟩
      · rw [List.map_map]
        rfl
      · rw [List.length_map, List.length_zip]
        have := Nat.min_le_left ks.length xs.length
        omega
  | _ => cases h
theorem d_finF {ι ι1 : List Addr} {H H1 : Hp} {S S1 : Store} {p : Addr} {Qa : QV} {Q : VK} {ks : List DK} {ws : List PV} {xs : List V} (cn : Cnt D ι H Qa Q) (L : Ly D ι H S) (hp : H p = none) (e1 : Ext ι (upd H p (.dK [])) ι1 H1) (L1 : Ly D ι1 H1 S1) (hl : ws.length = ks.length) (r : RVs D ι1 H1 ws xs)
    (q : Qa (.dct ((mergeD [] (ks.zip ws)).map fun p => dkS p.1) ((mergeD [] (ks.zip ws)).map (·.2))) S1) : H1 p = some (.dK []) ∧ lockK Q (.ref p) (upd H1 p (.dK (mergeK [] ((ks.zip xs).map fun p => (dkK p.1, p.2))))) := by
  have np0 := not_mem_of_none L hp
  have hp1 : H1 p = some (.dK []) := e1.out p _ np0 upd_same fun _ z => nomatch z
  obtain ⟨l, el, hl0⟩ := e1.pre
  have npl : p ∉ l := fun z => by
    have := hl0 p z
    rw [upd_same] at this
    cases this
  have np : p ∉ ι1 := fun z => by
    rw [el, List.mem_append] at z
    exact z.elim np0 npl
  have ne : ∀ b u, H b = some u → b ≠ p := fun b u h z => by rw [z, hp] at h; cases h
  refine ⟨hp1, p, _, rfl, upd_same, trivial, fun od => ?_⟩
  rw [upd_upd]
  generalize hX : HO.frz od (.dK (mergeK [] ((ks.zip xs).map fun p => (dkK p.1, p.2)))) = X
  have ex : Exi ι1 H1 ι1 (upd H1 p X) := ⟨fun _ _ h => h, fun b o h im => by
    rw [upd_ne (fun z => ?_)]
    · exact h
    · rw [z, hp1] at h
      cases h
      exact im, fun b C dx fs hb h => by
    have hbp : b ≠ p := fun z => by
      rw [z, hp1] at h
      cases h
    exact ⟨hb, by rw [upd_ne hbp]; exact h⟩, fun b φ hb h => by
    have hbp : b ≠ p := fun z => by
      rw [z, hp1] at h
      cases h
    exact ⟨hb, by rw [upd_ne hbp]; exact h⟩⟩
  obtain ⟨z1, z2⟩ := dic_zip (H := H1) hl r
  obtain ⟨y1, y2⟩ := dic_merge (kvs := []) (kvs' := []) z1 z2 rfl .nil
  refine cn ι1 S1 _ (.dct ((mergeD [] (ks.zip ws)).map fun p => dkS p.1) ((mergeD [] (ks.zip ws)).map (·.2))) (.ref p) ⟨⟨l, el, fun a ha => ?_⟩, fun b o hb h nt => ?_, fun b o h im => ?_, fun b o h => ?_⟩ ⟨L1.len, L1.nd, fun i u hu => ?_, tabs_upd L1.tb hp1 (fun _ z => (nomatch z)) fun _ z => (nomatch z)⟩ ⟨p, _, rfl, ⟨od, ?_⟩, ?_, y2.exi ex⟩ q
  · have h0 := hl0 a ha
    rw [upd_ne (fun z => npl (by rw [← z]; exact ha))] at h0
    exact h0
  · rw [upd_ne (ne b o h)]
    exact e1.out b o hb (by rw [upd_ne (ne b o h)]; exact h) nt
  · rw [upd_ne (ne b o h)]
    exact e1.imm b o (by rw [upd_ne (ne b o h)]; exact h) im
  · obtain ⟨o', h'⟩ := e1.trk b o (by rw [upd_ne (ne b o h)]; exact h)
    exact ⟨o', by rw [upd_ne (ne b o h)]; exact h'⟩
  · obtain ⟨a, h, e1, e2, e3⟩ := L1.at_ i u hu
    exact ⟨a, h, e1, by rw [upd_ne (fun z => np (by rw [← z]; exact List.mem_of_getElem? e1))]; exact e2, e3.exi ex⟩
  · rw [upd_same, ← hX]
  · rw [y1, List.map_map]
    exact List.map_congr_left fun p _ => (dkP_S p.1).symm
theorem e_dicF {ks : List DK} {vs : REs} (hs : SDs D F T M C lv vs) : SE D F T M C lv (.dicF ks vs) := by
  intro X c W e o h
  cases e with
  | Dict keys es pos =>
    have h' : (okDk M c ks keys && okEs M T c vs es && decide (keys.length = es.length) && decide (keys.length ≤ 15)) = true := h
    simp only [Bool.and_eq_true, decide_eq_true_eq] at h'
    obtain ⟨⟨⟨h1, h2⟩, h3⟩, h4⟩ := h'
    obtain ⟨q1, q2, q3⟩ := hs (pos := pos) (W := W) o h1 h2 h3
    refine ⟨?_, pt_no fun _ _ _ _ z => z⟩
    have hall : keys.all (·.isSome) = true := by
      have : ∀ (ks : List DK) (keys : List (Option Expr)), okDk M c ks keys = true → keys.all (·.isSome) = true := by
        intro ks
        induction ks with
        | nil =>
          intro keys h
          cases keys with
          | nil => rfl
          | cons _ _ => cases h
        | cons k ks ih =>
          intro keys h
          cases keys with
          | nil => rfl
          | cons k0 kr =>
            cases k0 with
            | none => cases h
            | some ke =>
              have h' : (okKey M c k ke && okDk M c ks kr) = true := h
              rw [Bool.and_eq_true] at h'
              show (true && kr.all (·.isSome)) = true
              rw [ih kr h'.2]
              rfl
      exact this ks keys h1
    by_cases h0 : keys = []
    · subst h0
      have e1 : es = [] := List.eq_nil_of_length_eq_zero h3.symm
      subst e1
      have e2 : ks = [] := List.eq_nil_of_length_eq_zero q3
      subst e2
      cases vs with
      | cons _ _ => cases h2
      | nil =>
        refine PE.imp (pe_fz pe_dnewK) fun σc H Q z => ?_
        obtain ⟨ι, S, σ, Qa, Ra, L, G, hw, cn, cx⟩ := z
        intro p hp
        have := (d_finF (ks := []) (ws := []) (xs := []) cn L hp Ext.refl (ly_new L hp) rfl .nil hw).2
        have eu : upd (upd H p (.dK [])) p (.dK (mergeK [] (([] : List (DK × V)).map fun p => (dkK p.1, p.2)))) = upd H p (.dK []) := upd_upd
        rw [← eu]
        exact this
    · refine PE.imp (pe_fz (pe_disp q1 hall h3 h0 h4)) fun σc H Q z => ?_
      obtain ⟨ι, S, σ, Qa, Ra, L, G, hw, cn, cx⟩ := z
      intro p hp
      refine d_run vs ks q2 (ly_new L hp) (G.ext (ext_new L hp)) hw (fun ι1 S1 H1 ws xs e1 L1 r1 l1 q => ?_) (cx.ext (ext_new L hp))
      obtain ⟨y1, y2⟩ := d_finF (ks := ks) cn L hp e1 L1 l1 r1 q
      refine ⟨y1, (ks.zip xs).map fun p => (dkK p.1, p.2), ?_, ?_, y2⟩
      · rw [List.map_map]
        rfl
      · rw [List.length_map, List.length_zip]
        have := Nat.min_le_left ks.length xs.length
        omega
  | _ => cases h
theorem lc_parts {mu : Bool} {el tg : Expr} {gs : List Comprehension} {scope : Scope} {p : Pos} {elt : RE} {t : RT} {it : RI} {ifs : REs} {own : List Nat} {c : Sc} (h : okE M T c (.lc mu elt t it ifs own) (.ListComp el gs scope p) = true) :
    ∃ tg iter fs, gs = [⟨tg, iter, fs, 0⟩] ∧ blkC c.N c.sc scope (ownOf c.N own) = true ∧ tgIn t own = true ∧ tupIt it tg = true ∧ noSet iter = true ∧ okI M T c it iter = true ∧ okT M T (relSc c scope) t tg = true ∧ okEs M T (relSc c scope) ifs fs = true ∧ okE M T (relSc c scope) elt el = true := by
  match gs, h with
  | [⟨tg, iter, fs, z⟩], h =>
    have h' : (z == 0 && blkC c.N c.sc scope (ownOf c.N own) && tgIn t own && tupIt it tg && noSet iter && okI M T c it iter && okT M T (relSc c scope) t tg && okEs M T (relSc c scope) ifs fs && okE M T (relSc c scope) elt el) = true := h
    simp only [Bool.and_eq_true, beq_iff_eq] at h'
    obtain ⟨⟨⟨⟨⟨⟨⟨⟨rfl, h1⟩, h2⟩, h3⟩, h4⟩, h5⟩, h6⟩, h7⟩, h8⟩ := h'
    exact ⟨tg, iter, fs, rfl, h1, h2, h3, h4, h5, h6, h7, h8⟩
  | [], h => cases h
  | ⟨_, _, _, _⟩ :: _ :: _, h => cases h
theorem e_lc {mu : Bool} {elt : RE} {t : RT} {it : RI} {ifs : REs} {own : List Nat} (he : SE D F T M C lv elt) (ht : ST D F T M C lv t) (hi : SI D F T M C lv it) (hf : SEs D F T M C lv ifs) : SE D F T M C lv (.lc mu elt t it ifs own) := by
  intro X c W e o h
  cases e with
  | ListComp el gs scope p =>
    obtain ⟨tg, iter, fs, rfl, h1, h2, h3, h4, h5, h6, h7, h8⟩ := lc_parts (tg := el) h
    exact ⟨s_lc o h2 h1 h4 (hi o h3 h5) (fun s H Cc cl fp => ht (okx_blk o) h6) (fun s H Cc cl fp => (hf (okx_blk o) h7).2.2.2.2.2) (fun s H Cc cl fp => (he (okx_blk o) h8).1), pt_no fun _ _ _ _ z => z⟩
  | _ => cases h

/-! ### rows -/
theorem es_nil : SEs D F T M C lv .nil := by
  intro X c W es o h
  cases es with
  | nil => exact ⟨fun _ => s_nil, fun _ => t_and_nil, fun _ => t_or_nil, fun _ => ⟨fun pins s σc H Q I z => by obtain ⟨ι, S, σ, Qb, Ra, L, G, hw, _⟩ := z; exact (show False from hw).elim⟩, fun _ => ⟨fun pins s σc H Q I z => by obtain ⟨ι, S, σ, Qb, Ra, L, G, hw, _⟩ := z; exact (show False from hw).elim⟩, fs_nil⟩
  | cons _ _ => cases h
theorem es_cons {r : RE} {rs : REs} (hr : SE D F T M C lv r) (hs : SEs D F T M C lv rs) : SEs D F T M C lv (.cons r rs) := by
  intro X c W es o h
  cases es with
  | nil => cases h
  | cons e es =>
    have h' : (okE M T c r e && okEs M T c rs es) = true := h
    rw [Bool.and_eq_true] at h'
    obtain ⟨p1, p2⟩ := hr o h'.1
    obtain ⟨q1, q2, q3, q4, q5, q6⟩ := hs o h'.2
    refine ⟨fun n => s_cons n p1 (q1 (noStar_cons (env := X.env) n).2), fun pos => t_and_cons p2 (q2 pos), fun pos => t_or_cons p2 (q3 pos), fun pos => ?_, fun pos => ?_, ?_⟩
    · cases rs with
      | nil =>
        cases es with
        | nil => exact s_and_one p1
        | cons _ _ => cases h'.2
      | cons r2 rs2 =>
        cases es with
        | nil => cases h'.2
        | cons e2 es2 => exact s_and_cons o p1 (q4 pos)
    · cases rs with
      | nil =>
        cases es with
        | nil => exact s_or_one p1
        | cons _ _ => cases h'.2
      | cons r2 rs2 =>
        cases es with
        | nil => cases h'.2
        | cons e2 es2 => exact s_or_cons o p1 (q5 pos)
    · cases rs with
      | nil =>
        cases es with
        | nil => exact fs_one p2
        | cons _ _ => cases h'.2
      | cons r2 rs2 => exact ⟨fun pins s σc H Q I z => by obtain ⟨ι, S, σ, Qb, L, G, hw, _⟩ := z; exact (show False from hw).elim⟩
theorem k_nil : SKs D F T M C lv .nil := by
  intro X c W es o h
  cases es with
  | nil => exact sk_nil
  | cons _ _ => cases h
theorem k_cons {r : RE} {rs : REs} (hr : SE D F T M C lv r) (hs : SKs D F T M C lv rs) : SKs D F T M C lv (.cons r rs) := by
  intro X c W es o h
  cases es with
  | nil => cases h
  | cons e es =>
    obtain ⟨nm, e, kp⟩ := e
    have h' : (okE M T c r e && okKs M T c rs es) = true := h
    rw [Bool.and_eq_true] at h'
    exact sk_cons (hr o h'.1).1 (hs o h'.2)
theorem o_none : SO' D F T M C lv .none := by
  intro X c W e o h
  cases e with
  | none => exact so_none
  | some _ => cases h
theorem o_some {r : RE} (hr : SE D F T M C lv r) : SO' D F T M C lv (.some r) := by
  intro X c W e o h
  cases e with
  | none => cases h
  | some e => exact so_some (hr o h).1

/-! ### what is walked; targets -/
theorem it_val {r : RE} (hr : SE D F T M C lv r) : SI D F T M C lv (.val r) := by
  intro X c W tg e o _ h
  exact i_val o (hr o h).1
theorem it_txt {r : RE} (hr : SE D F T M C lv r) : SI D F T M C lv (.txt r) := by
  intro X c W tg e o _ h
  exact i_txt (hr o h).1
theorem it_range {es : REs} (hs : SEs D F T M C lv es) : SI D F T M C lv (.range es) := by
  intro X c W tg e o _ h
  cases e with
  | Call g as kws p =>
    cases g with
    | Name x q =>
      cases kws with
      | nil =>
        have h' : (okGl c "range" x && M.nb.any (· == "range") && okEs M T c es as && noStar as && (as.length == 1 || as.length == 2)) = true := h
        simp only [Bool.and_eq_true] at h'
        obtain ⟨⟨⟨⟨h1, h2⟩, h3⟩, h4⟩, h5⟩ := h'
        obtain ⟨e1, hg, _, _⟩ := gl_of o h1
        obtain ⟨y, hy, ey⟩ := List.any_eq_true.mp h2
        have ey : y = "range" := eq_of_beq ey
        subst ey e1
        have hm := o.lk.nb _ hy
        match as, h3, h4, h5 with
        | [a], h3, h4, h5 => exact i_range1 o hg hm h4 (okEs_len h3) ((hs o h3).1 h4)
        | [a, b], h3, h4, h5 => exact i_range2 o hg hm h4 (okEs_len h3) ((hs o h3).1 h4)
        | [], _, _, h5 => cases h5
        | _ :: _ :: _ :: _, _, _, h5 => simp at h5
      | cons _ _ => cases h
    | _ => cases h
  | _ => cases h
theorem tup_is {t : Expr} (h : isTup t = true) : ∃ es k p, t = .Tuple es k p := by
  cases t <;> first
    | exact ⟨_, _, _, rfl⟩
    | cases h
theorem it_enum {r : RE} {k : Int} (hr : SE D F T M C lv r) : SI D F T M C lv (.enum r k) := by
  intro X c W tg e o ht h
  obtain ⟨es, kk, tp, rfl⟩ := tup_is ht
  cases e with
  | Call g as kws p =>
    cases g with
    | Name x q =>
      match as, h with
      | [a], h =>
        have h' : (okGl c "enumerate" x && M.nb.any (· == "enumerate") && okE M T c r a && noStar [a] && enumKw k kws) = true := h
        simp only [Bool.and_eq_true] at h'
        obtain ⟨⟨⟨⟨h1, h2⟩, h3⟩, h4⟩, h5⟩ := h'
        obtain ⟨e1, hg, _, _⟩ := gl_of o h1
        obtain ⟨y, hy, ey⟩ := List.any_eq_true.mp h2
        have ey : y = "enumerate" := eq_of_beq ey
        subst ey e1
        exact i_enum o hg (o.lk.nb _ hy) h4 h5 (hr o h3).1
      | [], h => cases h
      | _ :: _ :: _, h => cases h
    | _ => cases h
  | _ => cases h
theorem zipKw_is {st : Bool} {ks : List Keyword} (h : zipKw st ks = true) : (st = false ∧ ks = []) ∨ (st = true ∧ ∃ j p kp, ks = [⟨some (sN "strict"), .Constant (.bool true) j p, kp⟩]) := by
  cases st with
  | false => exact .inl ⟨rfl, List.isEmpty_iff.mp h⟩
  | true =>
    match ks, h with
    | [⟨kn, kv, kp⟩], h =>
      have h' : (decide (kn = some (sN "strict")) && isYes kv) = true := h
      simp only [Bool.and_eq_true, decide_eq_true_eq] at h'
      obtain ⟨rfl, h2⟩ := h'
      cases kv with
      | Constant kc j q2 =>
        cases kc with
        | bool bb =>
          cases bb with
          | true => exact .inr ⟨rfl, j, q2, kp, rfl⟩
          | false => cases h2
        | _ => cases h2
      | _ => cases h2
    | [], h => cases h
    | ⟨_, _, _⟩ :: _ :: _, h => cases h
theorem it_zip {a b : RE} {st : Bool} (ha : SE D F T M C lv a) (hb : SE D F T M C lv b) : SI D F T M C lv (.zip a b st) := by
  intro X c W tg e o ht h
  obtain ⟨es, k, tp, rfl⟩ := tup_is ht
  cases e with
  | Call g as kws p =>
    cases g with
    | Name x q =>
      match as, h with
      | [u, v], h =>
        have h' : (okGl c "zip" x && M.nb.any (· == "zip") && okE M T c a u && okE M T c b v && noStar [u, v] && zipKw st kws) = true := h
        simp only [Bool.and_eq_true] at h'
        obtain ⟨⟨⟨⟨⟨h1, h2⟩, h3⟩, h4⟩, h5⟩, h6⟩ := h'
        obtain ⟨e1, hg, _, _⟩ := gl_of o h1
        obtain ⟨y, hy, ey⟩ := List.any_eq_true.mp h2
        have ey : y = "zip" := eq_of_beq ey
        subst ey e1
        rcases zipKw_is h6 with ⟨rfl, rfl⟩ | ⟨rfl, j, p2, kp, rfl⟩
        · exact i_zip o hg (o.lk.nb _ hy) h5 (ha o h3).1 (hb o h4).1
        · exact i_zipS o hg (o.lk.nb _ hy) h5 (ha o h3).1 (hb o h4).1
      | [], h => cases h
      | [_], h => cases h
      | _ :: _ :: _ :: _, h => cases h
    | _ => cases h
  | _ => cases h
theorem g_name {i : Nat} : ST D F T M C lv (.name i) := by
  intro X c W e o h
  cases e with
  | Name x p => exact t_name o h
  | _ => cases h
theorem g_sub {a i : RE} (ha : SE D F T M C lv a) (hi : SE D F T M C lv i) : ST D F T M C lv (.sub a i) := by
  intro X c W e o h
  cases e with
  | Subscript e' k p =>
    have h' : (!isSlice k && okE M T c a e' && okE M T c i k) = true := h
    simp only [Bool.and_eq_true, Bool.not_eq_true'] at h'
    exact t_sub o h'.1.1 (ha o h'.1.2).1 (hi o h'.2).1
  | _ => cases h
theorem g_subK {a : RE} {f : Nat} (ha : SE D F T M C lv a) : ST D F T M C lv (.subK a f) := by
  intro X c W e o h
  cases e with
  | Subscript e' k p =>
    have h' : (isKey f k && okE M T c a e') = true := h
    rw [Bool.and_eq_true] at h'
    exact t_subK o h'.1 (ha o h'.2).1
  | _ => cases h
theorem g_fld {a : RE} {f : Nat} (ha : SE D F T M C lv a) : ST D F T M C lv (.fld a f) := by
  intro X c W e o h
  cases e with
  | Attribute e' x p =>
    have h' : (strB (dN f) x && M.fl.contains f && okE M T c a e') = true := h
    simp only [Bool.and_eq_true] at h'
    obtain ⟨⟨h1, h2⟩, h3⟩ := h'
    have e1 : dN f = x := of_decide_eq_true h1
    subst e1
    exact t_fld o (by simpa using h2) (ha o h3).1
  | _ => cases h
theorem g_tup {ts : RTs} (hs : STs D F T M C lv ts) : ST D F T M C lv (.tup ts) := by
  intro X c W e o h
  cases e with
  | Tuple es k p =>
    have h : ((okTs M T c ts es && noStarT es) || (okStar c ts es && decide (es.length ≤ 100))) = true := h
    rw [Bool.or_eq_true, Bool.and_eq_true, Bool.and_eq_true, decide_eq_true_eq] at h
    rcases h with h' | h'
    · obtain ⟨q1, q2⟩ := hs o h'.2 h'.1
      exact t_tup o h'.2 q2 q1
    · exact t_star o h'.1 h'.2
  | _ => cases h
theorem gs_nil : STs D F T M C lv .nil := by
  intro X c W es o _ h
  cases es with
  | nil => exact ⟨ts_nil, rfl, fun _ => rfl⟩
  | cons _ _ => cases h
theorem gs_cons {t : RT} {ts : RTs} (ht : ST D F T M C lv t) (hs : STs D F T M C lv ts) : STs D F T M C lv (.cons t ts) := by
  intro X c W es o hn h
  cases es with
  | nil => cases h
  | cons e es =>
    have h' : (okT M T c t e && okTs M T c ts es) = true := h
    rw [Bool.and_eq_true] at h'
    obtain ⟨q1, q2⟩ := hs o (noStarT_cons (env := X.env) hn).2 h'.2
    exact ⟨ts_cons hn (ht o h'.1) q1, by rw [List.length_cons, q2.1]; rfl, fun n => by show ts.cnt (n - 1) + 1 = _; rw [q2.2]; rfl⟩
theorem gs_star {i : Nat} : STs D F T M C lv (.star i) := by
  intro X c W es o hn h
  cases es <;> cases h

mutual
theorem sndE : ∀ r : RE, SE D F T M C lv r
  | .loc i => e_loc
  | .const v => e_const
  | .glob x v => e_glob
  | .bin op a b => e_bin (sndE a) (sndE b)
  | .neg a => e_neg (sndE a)
  | .cmp op a b => e_cmp (sndE a) (sndE b)
  | .chain op op' a b d => e_chain (sndE a) (sndE b) (sndE d)
  | .and es => e_and (sndEs es)
  | .or es => e_or (sndEs es)
  | .not a => e_not (sndE a)
  | .ite d a b => e_ite (sndE d) (sndE a) (sndE b)
  | .tup es => e_tup (sndEs es)
  | .lst m es => e_lst (sndEs es)
  | .mko d x es ks kes arr fz => e_mko (sndEs es) (sndKs kes)
  | .listM es => e_listM (sndEs es)
  | .subK a f => e_subK (sndE a)
  | .subI a i => e_subI (sndE a) (sndE i)
  | .dead => e_dead
  | .dic ks vs => e_dic (sndDs vs)
  | .dicF ks vs => e_dicF (sndDs vs)
  | .fstr es => e_fstr (sndFs es)
  | .call f x es ks kes arr => e_call (sndEs es) (sndKs kes)
  | .make d x es ks kes arr => e_make (sndEs es) (sndKs kes)
  | .callE f es => e_callE (sndE f) (sndEs es)
  | .blt b es => e_blt (sndEs es)
  | .bltK b es ks kes => e_bltK (sndEs es) (sndKs kes)
  | .meth a m b es ks kes arr => e_meth (sndE a) (sndEs es) (sndKs kes)
  | .fld a f => e_fld (sndE a)
  | .sub a i => e_sub (sndE a) (sndE i)
  | .slice a lo hi => e_slice (sndE a) (sndO lo) (sndO hi)
  | .rev m a => e_rev (sndE a)
  | .step a st => e_step (sndE a)
  | .gty n => e_gty
  | .eqO neg a b => e_eqO (sndE a) (sndE b)
  | .inO neg a b => e_inO (sndE a) (sndE b)
  | .eqE neg a b => e_eqE (sndE a) (sndE b)
  | .join a b => e_join (sndE a) (sndE b)
  | .split _ a b => e_split (sndE a) (sndE b)
  | .subT a b => e_subT (sndE a) (sndE b)
  | .inT a b => e_inT (sndE a) (sndE b)
  | .fOwn a => e_fOwn (sndE a)
  | .fmtR a => e_fmtR (sndE a)
  | .eqP a b => e_eqP (sndE a) (sndE b)
  | .lenR a => e_lenR (sndE a) (es_cons (sndE a) es_nil)
  | .lstR _ a => e_lstR (sndE a)
  | .srt _ a => e_srt (sndE a) (es_cons (sndE a) es_nil)
  | .srtSet _ a => e_srtSet (sndE a) (es_cons (sndE a) es_nil)
  | .bltO b a => e_bltO (sndE a) (es_cons (sndE a) es_nil)
  | .lc m elt t it ifs own => e_lc (sndE elt) (sndTg t) (sndI it) (sndEs ifs)
theorem sndEs : ∀ r : REs, SEs D F T M C lv r
  | .nil => es_nil
  | .cons r rs => es_cons (sndE r) (sndEs rs)
theorem sndFs : ∀ r : REs, SFs D F T M C lv r
  | .nil => f_nil
  | .cons r rs => f_cons (sndE r) (sndFs rs)
theorem sndDs : ∀ r : REs, SDs D F T M C lv r
  | .nil => ds_nil
  | .cons r rs => ds_cons (sndE r) (sndDs rs)
theorem sndKs : ∀ r : REs, SKs D F T M C lv r
  | .nil => k_nil
  | .cons r rs => k_cons (sndE r) (sndKs rs)
theorem sndO : ∀ r : RO, SO' D F T M C lv r
  | .none => o_none
  | .some r => o_some (sndE r)
theorem sndI : ∀ r : RI, SI D F T M C lv r
  | .val r => it_val (sndE r)
  | .txt r => it_txt (sndE r)
  | .range es => it_range (sndEs es)
  | .enum r k => it_enum (sndE r)
  | .zip a b st => it_zip (sndE a) (sndE b)
theorem sndTg : ∀ r : RT, ST D F T M C lv r
  | .name i => g_name
  | .tup ts => g_tup (sndTgs ts)
  | .sub a i => g_sub (sndE a) (sndE i)
  | .fld a f => g_fld (sndE a)
  | .subK a f => g_subK (sndE a)
theorem sndTgs : ∀ r : RTs, STs D F T M C lv r
  | .nil => gs_nil
  | .cons t ts => gs_cons (sndTg t) (sndTgs ts)
  | .star i => gs_star
end
end
end Rp
/-! # The look is enough: statements -/
namespace Rp
open PySem PySem.Spec PyProof.Rows L2
section
variable {D : Ad} {F : Fd} {T : Tab} {M : Nm} {C : CS} {lv : Nat}
def SS (D : Ad) (F : Fd) (T : Tab) (M : Nm) (C : CS) (lv : Nat) (r : RS) : Prop := ∀ {X : Cx} {c : Sc} {W : WX} {s : Stmt}, Okx X D F T M M.fl C lv W c → Fr X → okS M T c r s = true → PS X s (rdS D T C W r)
def SSs (D : Ad) (F : Fd) (T : Tab) (M : Nm) (C : CS) (lv : Nat) (r : RSs) : Prop := ∀ {X : Cx} {c : Sc} {W : WX} {s : List Stmt}, Okx X D F T M M.fl C lv W c → Fr X → okSs M T c r s = true → PSs X s (rdSs D T C W r)

theorem n_asg {t : RT} {r : RE} : SS D F T M C lv (.asg t r) := by
  intro X c W s o hp h
  have gen : ∀ {tg v : Expr} {p : Pos}, (okT M T c t tg && noStarT [tg] && (noSwap tg v || notLcl c.sc tg) && noExch c.sc tg v && okE M T c r v) = true → PS X (.Assign [tg] v p) (rdS D T C W (.asg t r)) := fun {tg v p} h' => by
    rw [Bool.and_eq_true, Bool.and_eq_true, Bool.and_eq_true, Bool.and_eq_true] at h'
    obtain ⟨⟨⟨⟨h1, h2⟩, h3⟩, h4⟩, h5⟩ := h'
    exact q_asg (by rw [o.hsc]; exact h3) (by rw [o.hsc]; exact h4) h2 (sndE r o h5).1 (sndTg t o h1)
  cases s with
  | Assign ts v p =>
    match ts, h with
    | [tg], h => exact gen h
    | [], h => cases t <;> cases h
    | t1 :: _ :: _, h =>
      cases t <;> first
        | (cases h; done)
        | (cases t1 <;> cases h)
  | _ => cases t <;> cases h
theorem n_setlc {mu : Bool} {i : Nat} {elt : RE} {t : RT} {it : RI} {ifs : REs} {own : List Nat} : SS D F T M C lv (.setlc mu i elt t it ifs own) := by
  intro X c W s o hp h
  cases s with
  | Assign ts v p =>
    match ts, h with
    | [tg], h =>
      cases tg with
      | Name y py =>
        cases v with
        | ListComp el gs scope p2 =>
          have h' : (decide (c.N[i]? = some y) && c.lcl y && (py.line == p2.line) && !(scope.names.any fun (n, k) => n == y && (k == .local || k == .cell)) && okE M T c (.lc mu elt t it ifs own) (.ListComp el gs scope p2)) = true := h
          simp only [Bool.and_eq_true, decide_eq_true_eq, Bool.not_eq_true'] at h'
          obtain ⟨⟨⟨⟨h1, h2⟩, h3⟩, h4⟩, h5⟩ := h'
          obtain ⟨tg, iter, fs, rfl, k1, k2, k3, k4, k5, k6, k7, k8⟩ := lc_parts (tg := el) h5
          exact q_setlc o h1 (lcl_of h2) h3 h4 k2 k1 k4 (sndI it o k3 k5) (fun s H Cc cl fp => sndTg t (okx_blk o) k6) (fun s H Cc cl fp => (sndEs ifs (okx_blk o) k7).2.2.2.2.2) (fun s H Cc cl fp => (sndE elt (okx_blk o) k8).1)
        | _ => cases h
      | _ => cases h
    | [], h => cases h
    | t1 :: _ :: _, h =>
      cases t1 <;> first
        | (cases h; done)
        | (cases v <;> cases h)
  | _ => cases h
theorem n_asg2 {t u : RT} {r : RE} : SS D F T M C lv (.asg2 t u r) := by
  intro X c W s o hp h
  cases s with
  | Assign ts v p =>
    match ts, h with
    | [t1, t2], h =>
      have h' : (okT M T c t t1 && okT M T c u t2 && noStarT [t1, t2] && okE M T c r v) = true := h
      simp only [Bool.and_eq_true] at h'
      obtain ⟨⟨⟨h1, h2⟩, h3⟩, h4⟩ := h'
      exact q_asg2 h3 (sndE r o h4).1 (sndTg t o h1) (sndTg u o h2)
    | [], h => cases h
    | [_], h => cases h
    | _ :: _ :: _ :: _, h => cases h
  | _ => cases h
theorem n_asg3 {t u w : RT} {r : RE} : SS D F T M C lv (.asg3 t u w r) := by
  intro X c W s o hp h
  cases s with
  | Assign ts v p =>
    match ts, h with
    | [t1, t2, t3], h =>
      have h' : (okT M T c t t1 && okT M T c u t2 && okT M T c w t3 && noStarT [t1, t2, t3] && okE M T c r v) = true := h
      simp only [Bool.and_eq_true] at h'
      obtain ⟨⟨⟨⟨h1, h2⟩, h5⟩, h3⟩, h4⟩ := h'
      exact q_asg3 h3 (sndE r o h4).1 (sndTg t o h1) (sndTg u o h2) (sndTg w o h5)
    | [], h => cases h
    | [_], h => cases h
    | [_, _], h => cases h
    | _ :: _ :: _ :: _ :: _, h => cases h
  | _ => cases h
theorem n_par {is : List Nat} {es : REs} : SS D F T M C lv (.par is es) := by
  intro X c W s o hp h
  cases s with
  | Assign ts v p =>
    match ts, h with
    | [tg], h =>
      have h' : (parS c is tg v && okEs M T c es (tupOf v)) = true := h
      rw [Bool.and_eq_true] at h'
      obtain ⟨h1, h5⟩ := h'
      unfold parS at h1
      split at h1
      · simp only [Bool.and_eq_true, decide_eq_true_eq, Bool.not_eq_true', beq_eq_false_iff_ne] at h1
        obtain ⟨⟨⟨h1, h2⟩, h3⟩, h4⟩ := h1
        refine q_par o h1 h2 h3 h4 (okEs_len h5) ((sndEs es o h5).1 ?_)
        unfold parB at h4
        simp only [Bool.and_eq_true] at h4
        exact h4.1.1.2
      · simp only [Bool.and_eq_true, decide_eq_true_eq, Bool.not_eq_true', beq_eq_false_iff_ne] at h1
        obtain ⟨⟨⟨⟨⟨⟨h1, h2⟩, h3⟩, h4⟩, h6⟩, h7⟩, h8⟩ := h1
        refine q_par3 o h1 h2 h3 h4 h6 h7 h8 (okEs_len h5) ((sndEs es o h5).1 ?_)
        unfold parB3 at h8
        simp only [Bool.and_eq_true] at h8
        exact h8.1.1.2
      · cases h1
    | [], h => cases h
    | _ :: _ :: _, h => cases h
  | _ => cases h
theorem n_aug {i : Nat} {op : Operator} {r : RE} : SS D F T M C lv (.aug i op r) := by
  intro X c W s o hp h
  cases s with
  | AugAssign t op' v p =>
    cases t with
    | Name x q =>
      have h' : (decide (op' = op) && okPut c i x && okE M T c r v) = true := h
      simp only [Bool.and_eq_true, decide_eq_true_eq] at h'
      obtain ⟨⟨rfl, h1⟩, h2⟩ := h'
      exact q_aug o h1 (sndE r o h2).1
    | _ => cases h
  | _ => cases h
theorem n_augF {a : RE} {f : Nat} {op : Operator} {r : RE} : SS D F T M C lv (.augF a f op r) := by
  intro X c W s o hp h
  cases s with
  | AugAssign t op' v p =>
    cases t with
    | Attribute e x q =>
      have h' : (decide (op' = op) && strB (dN f) x && M.fl.contains f && okE M T c a e && okE M T c r v) = true := h
      simp only [Bool.and_eq_true, decide_eq_true_eq] at h'
      obtain ⟨⟨⟨⟨rfl, h1⟩, h2⟩, h3⟩, h4⟩ := h'
      have e1 : dN f = x := of_decide_eq_true h1
      subst e1
      exact q_augF o (by simpa using h2) (sndE a o h3).1 (sndE r o h4).1
    | _ => cases h
  | _ => cases h
theorem n_expr {r : RE} : SS D F T M C lv (.expr r) := by
  intro X c W s o hp h
  cases s with
  | Expr v p =>
    have h' : (noComp v && okE M T c r v) = true := h
    rw [Bool.and_eq_true] at h'
    exact q_expr h'.1 (sndE r o h'.2).1
  | _ => cases h
theorem n_doc : SS D F T M C lv .doc := by
  intro X c W s o hp h
  cases s with
  | Expr v p =>
    cases v with
    | Constant k j q =>
      cases k with
      | str x => exact q_doc
      | _ => cases h
    | _ => cases h
  | _ => cases h
theorem n_ret {r : RE} : SS D F T M C lv (.ret r) := by
  intro X c W s o hp h
  cases s with
  | Return v p =>
    cases v with
    | some v => exact q_ret (sndE r o h).1
    | none => cases h
  | _ => cases h
theorem n_retN : SS D F T M C lv .retN := by
  intro X c W s o hp h
  cases s with
  | Return v p =>
    cases v with
    | none => exact q_retN
    | some v => cases h
  | _ => cases h
theorem n_if {r : RE} {a b : RSs} (ha : SSs D F T M C lv a) (hb : SSs D F T M C lv b) : SS D F T M C lv (.ife r a b) := by
  intro X c W s o hp h
  cases s with
  | If v x y p =>
    have h' : (okE M T c r v && okSs M T c a x && okSs M T c b y) = true := h
    simp only [Bool.and_eq_true] at h'
    exact q_if (sndE r o h'.1.1).2 (ha o hp h'.1.2) (hb o hp h'.2)
  | _ => cases h
theorem n_whl {r : RE} {a : RSs} (ha : SSs D F T M C lv a) : SS D F T M C lv (.whl r a) := by
  intro X c W s o hp h
  cases s with
  | While v x y p =>
    cases y with
    | nil =>
      have h' : (okE M T c r v && okSs M T c a x) = true := h
      rw [Bool.and_eq_true] at h'
      exact q_whl hp.hp (sndE r o h'.1).2 (ha o hp h'.2)
    | cons _ _ => cases h
  | _ => cases h
theorem n_for {t : RT} {it : RI} {a : RSs} (ha : SSs D F T M C lv a) : SS D F T M C lv (.for_ t it a) := by
  intro X c W s o hp h
  cases s with
  | For tg iter x y p =>
    cases y with
    | nil =>
      have h' : (tupIt it tg && noSet iter && okI M T c it iter && okT M T c t tg && okSs M T c a x) = true := h
      simp only [Bool.and_eq_true] at h'
      obtain ⟨⟨⟨⟨h1, h2⟩, h3⟩, h4⟩, h5⟩ := h'
      exact q_for o hp.hp h2 (sndI it o h1 h3) (sndTg t o h4) (ha o hp h5)
    | cons _ _ => cases h
  | _ => cases h
theorem n_brk : SS D F T M C lv .brk := by
  intro X c W s o hp h
  cases s with
  | Break p => exact q_brk
  | _ => cases h
theorem n_cont : SS D F T M C lv .cont := by
  intro X c W s o hp h
  cases s with
  | Continue p => exact q_cont
  | _ => cases h
theorem n_pass : SS D F T M C lv .pass := by
  intro X c W s o hp h
  cases s with
  | Pass p => exact q_pass
  | _ => cases h
theorem n_raise {k : Nat} {s : String} {es : REs} : SS D F T M C lv (.raise k s es) := by
  intro X c W st o hp h
  cases st with
  | Raise v cs p =>
    have h' : okRaise M T c k s es v cs = true := h
    unfold okRaise at h'
    split at h'
    · rename_i x q e as p2
      simp only [Bool.and_eq_true] at h'
      obtain ⟨⟨⟨⟨h1, h2⟩, h3⟩, h4⟩, h5⟩ := h'
      have hmk : ∃ ed, T.exs[k]? = some ed ∧ ed.made = true := by
        cases e : T.exs[k]? with
        | none => rw [e] at h5; cases h5
        | some ed => rw [e] at h5; exact ⟨ed, rfl, h5⟩
      exact s_raise o h1 h2 hmk ((sndEs es o h3).1 h4) (noStar_cons (env := X.env) h4).1 (noStar_any (env := X.env) (pos := p2) (noStar_cons (env := X.env) h4).2)
    · cases h'
  | _ => cases h
theorem n_try {a : RSs} {k : Nat} {s : String} {i : Nat} {hh : HSs} (ha : SSs D F T M C lv a) : SS D F T M C lv (.tryE a k s i hh) := by
  intro X c W st o hp h
  cases st with
  | Try body hs els fin p =>
    have h' : okTry M c k s i hh (okSs M T c a body) hs els fin = true := h
    unfold okTry at h'
    split at h'
    · rename_i x q n b suite p2
      simp only [Bool.and_eq_true] at h'
      obtain ⟨⟨⟨⟨⟨h1, h2⟩, h3⟩, h4⟩, h5⟩, h6⟩ := h'
      have h40 := h4
      unfold okName at h40
      simp only [Bool.and_eq_true, Bool.not_eq_true'] at h40
      obtain ⟨⟨⟨e1, e2⟩, e3⟩, e4⟩ := h40
      refine s_try o hp h2 h3 (of_decide_eq_true e1) h5 e3 e4 h6 fun W' pn xe tk po => ?_
      have o' : Okx (X.tr pn xe) D F T M M.fl C lv W' c := ⟨o.hK, o.hN, o.hsc, o.nd, o.calm, o.grd, o.room, tk, o.hfn, o.lk⟩
      exact ha o' ⟨po, hp.hs, hp.hf⟩ h1
    · cases h'
  | _ => cases h
theorem n_dead : SS D F T M C lv .dead := fun _ _ _ => q_dead
theorem ns_nil : SSs D F T M C lv .nil := by
  intro X c W s o hp h
  cases s with
  | nil => exact qs_nil
  | cons _ _ => cases h
theorem ns_cons {r : RS} {rs : RSs} (h1 : SS D F T M C lv r) (h2 : SSs D F T M C lv rs) : SSs D F T M C lv (.cons r rs) := by
  intro X c W s o hp h
  cases s with
  | nil => cases h
  | cons s ss =>
    have h' : (okS M T c r s && okSs M T c rs ss) = true := h
    rw [Bool.and_eq_true] at h'
    exact qs_cons (h1 o hp h'.1) (h2 o hp h'.2)
mutual
theorem sndS : ∀ r : RS, SS D F T M C lv r
  | .asg t e => n_asg
  | .setlc m i elt t it ifs own => n_setlc
  | .asg2 t u e => n_asg2
  | .asg3 t u w e => n_asg3
  | .par is es => n_par
  | .aug i op e => n_aug
  | .augF a f op e => n_augF
  | .expr e => n_expr
  | .doc => n_doc
  | .ret e => n_ret
  | .retN => n_retN
  | .ife e a b => n_if (sndSs a) (sndSs b)
  | .whl e a => n_whl (sndSs a)
  | .for_ t it a => n_for (sndSs a)
  | .brk => n_brk
  | .cont => n_cont
  | .pass => n_pass
  | .raise k s es => n_raise
  | .tryE a k s i h => n_try (sndSs a)
  | .dead => n_dead
theorem sndSs : ∀ r : RSs, SSs D F T M C lv r
  | .nil => ns_nil
  | .cons s ss => ns_cons (sndS s) (sndSs ss)
end
end
end Rp
/-! # Functions that nested defs made: their bodies -/
namespace Rp
open PySem PySem.Spec PyProof.Rows L2

/-! ### the frame of a made function, with cells of its own -/
theorem cells_app : ∀ (names : List (Str × NameKind)) (n : Nat) (acc : List (Str × Addr)), cellsFrom n names acc = cellsFrom n names [] ++ acc
  | [], n, acc => rfl
  | (x, k) :: r, n, acc => by
    unfold cellsFrom
    split
    · rw [cells_app r (n + 1) ((x, n) :: acc), cells_app r (n + 1) [(x, n)]]
      simp
    · exact cells_app r n acc
theorem cells_kind : ∀ (names : List (Str × NameKind)) (n : Nat) (x : Str) (c : Addr), (x, c) ∈ cellsFrom n names [] → (x, NameKind.cell) ∈ names
  | [], n, x, c, h => by cases h
  | (y, k) :: r, n, x, c, h => by
    unfold cellsFrom at h
    split at h
    · rename_i e
      rw [cells_app] at h
      rcases List.mem_append.mp h with h | h
      · exact List.mem_cons_of_mem _ (cells_kind r _ x c h)
      · have h := List.mem_singleton.mp h
        cases h
        rw [eq_of_beq e]
        exact List.mem_cons_self ..
    · exact List.mem_cons_of_mem _ (cells_kind r _ x c h)
/-- the names: parameters, captured ones, then its own -/
structure NSc (N ps fr : List Str) (sc : Scope) : Prop where
  kind : sc.kind = .function
  co : sc.isCoroutine = false
  gen : sc.isGenerator = false
  nd : N.Nodup
  pre : N.take (ps.length + fr.length) = ps ++ fr
  par : ∀ x ∈ ps, sc.names.lookup x = some .local ∨ sc.names.lookup x = some .cell
  free : ∀ y ∈ sc.names, y.2 = .free → y.1 ∈ fr
  frk : ∀ x ∈ fr, sc.names.lookup x = some .free
  ndk : (sc.names.map (·.1)).Nodup
def nscB (N ps fr : List Str) (sc : Scope) : Bool :=
  decide (sc.kind = .function) && !sc.isCoroutine && !sc.isGenerator && decide N.Nodup && decide (N.take (ps.length + fr.length) = ps ++ fr) && (ps.all fun x => decide (sc.names.lookup x = some .local) || decide (sc.names.lookup x = some .cell)) &&
    (sc.names.all fun y => !decide (y.2 = .free) || decide (y.1 ∈ fr)) && (fr.all fun x => decide (sc.names.lookup x = some .free)) && decide (sc.names.map (·.1)).Nodup
theorem nsc_by {N ps fr : List Str} {sc : Scope} (h : nscB N ps fr sc = true) : NSc N ps fr sc := by
  unfold nscB at h
  simp only [Bool.and_eq_true, Bool.not_eq_true', decide_eq_true_eq, List.all_eq_true, Bool.or_eq_true, decide_eq_false_iff_not] at h
  obtain ⟨⟨⟨⟨⟨⟨⟨⟨h1, h2⟩, h3⟩, h4⟩, h5⟩, h6⟩, h7⟩, h8⟩, h9⟩ := h
  exact ⟨h1, h2, h3, h4, h5, h6, fun y hy e => (h7 y hy).elim (fun z => absurd e z) id, h8, h9⟩
theorem mem_look {β : Type} : ∀ {l : List (Str × β)} {x : Str} {v : β}, (l.map (·.1)).Nodup → (x, v) ∈ l → l.lookup x = some v
  | [], x, v, _, h => by cases h
  | (y, w) :: r, x, v, nd, h => by
    rw [List.map_cons, List.nodup_cons] at nd
    rcases List.mem_cons.mp h with e | h2
    · cases e
      rw [List.lookup_cons, beq_self_eq_true]
    · have ne : (x == y) = false := by
        rw [beq_eq_false_iff_ne]
        intro q
        exact nd.1 (List.mem_map.mpr ⟨(x, v), h2, q⟩)
      rw [List.lookup_cons, ne]
      exact mem_look nd.2 h2
/-- all its cells: its own, then the captured ones -/
abbrev allC (F : NW) (L : Addr) (cl : List (Str × Addr)) : List (Str × Addr) := cellsFrom (L + 1) F.scope.names [] ++ cl
abbrev envY (F : NW) (f L : Addr) (c : Addr) (cl : List (Str × Addr)) : Env := PySem.W.envX F.qual F.scope L f (.ref c) (allC F L cl)
/-- the context of its body -/
def ncy (P : Program) (w : World) (mg : Str → Option Value) (base : Heap) (D : Ad) (k : Nat) (N : List Str) (f : Addr) (cl : List (Str × Addr)) (c : Addr) (A : Around) (outer : List Env) (s : Shared) (H : Hp) : Cx where
  prog := P
  w := w
  K := D.K
  mg := mg
  base := base
  A := A.deeper (envY (D.nf k) f s.heap.objs.size c cl)
  N := N
  s_0 := s
  H_0 := H
  env := envY (D.nf k) f s.heap.objs.size c cl
  outer := outer
  stack := envY (D.nf k) f s.heap.objs.size c cl :: outer
  ex := []
  calm := true
  fn := fun x => decide ((D.nf k).scope.names.lookup x = some .cell)
  pn := []
  xe := fun e s' => wpAny (model P w) (A.deeper (envY (D.nf k) f s.heap.objs.size c cl)) (leaving (envY (D.nf k) f s.heap.objs.size c cl) e) (fun _ s2 => L2.CX P w outer H s (fun _ _ _ => False) e s2) (fun e2 s2 => L2.CX P w outer H s (fun _ _ _ => False) e2 s2) s'
section
variable {Md : Model} {A : Around} {E : Value → Shared → Prop} {s : Shared}
theorem store_eq {e e' : Env} {n : Str} {v : Value} (h1 : e'.scope = e.scope) (h2 : e'.locals = e.locals) (hk : e.scope.kind = .function) (h : e.kindOf n = some .local ∨ (e.kindOf n = some .cell ∧ e'.cells.lookup n = e.cells.lookup n)) : storeName e' n v = storeName e n v := by
  have kk : e'.kindOf n = e.kindOf n := by unfold Env.kindOf; rw [h1]
  unfold storeName
  rcases h with h | ⟨h, hc⟩
  · rw [kk, h]
    simp only [h1, h2, hk]
    rfl
  · rw [kk, h]
    simp only [h1, h2, hk, PySem.cellOf, hc]
    rfl
theorem bind_eq {f g : Str × Value → PUnit → Sem (ForInStep PUnit)} : ∀ (l : List (Str × Value)), (∀ p ∈ l, f p = g p) → (forIn l PUnit.unit f : Sem PUnit) = forIn l PUnit.unit g
  | [], _ => by rw [List.forIn_nil, List.forIn_nil]
  | p :: r, h => by
    rw [List.forIn_cons, List.forIn_cons, h p (List.mem_cons_self ..)]
    congr 1
    funext x
    cases x with
    | done b => rfl
    | yield b =>
      cases b
      exact bind_eq r fun q hq => h q (List.mem_cons_of_mem _ hq)
theorem env_clo {scope : Scope} {globals : Addr} {cl : List (Str × Addr)} {binds : List (Str × Value)} {qual : Str} {func : Option Addr} {code : Value} {builtins : Addr} {Q : Env → Shared → Prop} (hk : scope.kind = .function)
    (hkind : ∀ x ∈ binds, scope.names.lookup x.1 = some .local ∨ (scope.names.lookup x.1 = some .cell ∧ ((cellsFrom (s.heap.objs.size + 1) scope.names []).lookup x.1).isSome = true))
    (hQ : ∀ s', InCallC s s.heap.objs.size (bindL (fun y => scope.names.lookup y) binds fun _ => none) (cellsFrom (s.heap.objs.size + 1) scope.names []) (bindC (fun y => scope.names.lookup y) binds fun _ => none) s' →
      Q (newEnv scope s.heap.objs.size globals (cellsFrom (s.heap.objs.size + 1) scope.names [] ++ cl) qual func code none builtins) s') :
    wpAny Md A (newFunctionEnv scope globals cl binds qual func code none builtins) Q E s := by
  simp only [newFunctionEnv, Option.isSome_none, Bool.false_eq_true, if_false]
  refine wpAny_bind (wpAny_alloc (wpAny_bind (wpAny_layCells _ (fun name kind cells => by cases hkc : kind == NameKind.cell <;> simp [hkc]) _ _ _ _ ?_)))
  have ok := cellsFrom_ok scope.names (s.heap.push { cls := .type "frame", data := .dict #[] }) (s.heap.objs.size + 1) [] ⟨fun _ _ hm => (nomatch hm), List.Pairwise.nil⟩ (by rw [Heap.size_push]; exact Nat.le_refl _)
  rw [Heap.size_push] at ok
  have sz : ({ s with heap := s.heap.push { cls := .type "frame", data := .dict #[] } } : Shared).heap.objs.size = s.heap.objs.size + 1 := Heap.size_push ..
  rw [sz, cells_app]
  have eqs := bind_eq (f := fun (p : Str × Value) (_ : PUnit) => (do storeName (newEnv scope s.heap.objs.size globals (cellsFrom (s.heap.objs.size + 1) scope.names [] ++ cl) qual func code none builtins) p.1 p.2; pure (.yield ⟨⟩) : Sem (ForInStep PUnit)))
    (g := fun (p : Str × Value) (_ : PUnit) => (do storeName (newEnv scope s.heap.objs.size globals (cellsFrom (s.heap.objs.size + 1) scope.names []) qual func code none builtins) p.1 p.2; pure (.yield ⟨⟩) : Sem (ForInStep PUnit))) binds (fun p hp => by
      funext u
      rw [store_eq (e := newEnv scope s.heap.objs.size globals (cellsFrom (s.heap.objs.size + 1) scope.names []) qual func code none builtins) (e' := newEnv scope s.heap.objs.size globals (cellsFrom (s.heap.objs.size + 1) scope.names [] ++ cl) qual func code none builtins) rfl rfl hk]
      rcases hkind p hp with z | ⟨z, zc⟩
      · exact .inl z
      · refine .inr ⟨z, ?_⟩
        obtain ⟨c, hc⟩ := Option.isSome_iff_exists.mp zc
        show (cellsFrom (s.heap.objs.size + 1) scope.names [] ++ cl).lookup p.1 = (cellsFrom (s.heap.objs.size + 1) scope.names []).lookup p.1
        rw [List.lookup_append, hc]
        rfl)
  refine wpAny_bind ?_
  refine cast (congrArg (fun t => wpAny Md A t _ E _) eqs.symm) ?_
  exact wpAny_bindParams (s₀ := s) (env := newEnv scope s.heap.objs.size globals (cellsFrom (s.heap.objs.size + 1) scope.names []) qual func code none builtins)
    _ (fun _ _ _ => rfl) hk binds (fun _ => none) (fun _ => none) _ _
    ⟨⟨⟨_, _, rfl⟩, (Heap.Ns.new s.heap (.type "frame")).keeps (pushCells_keeps _ _), fun b o e => pushCells_keeps _ _ b o (Heap.get?_push_of_some _ e), Nat.le_refl _⟩, fun n c hc => (ok.empty n c (PySem.mem_of_lookup hc)).1, ok.apart, fun n c hm => (ok.empty n c hm).2⟩
    hkind fun s' x => wpAny_pure (hQ s' x)
end
section
variable {P : Program} {w : World} {mg : Str → Option Value} {base : Heap} {D : Ad} {k : Nat} {N ps : List Str} {f c : Addr} {cl : List (Str × Addr)} {A : Around} {outer : List Env} {s s1 : Shared} {H : Hp} {us : List Value} {xs : List V} {ws : List (Option V)}
theorem inv_startY (S : NSc N ps (D.nf k).fr (D.nf k).scope) (hd : A.handled = none) (e0 : Env0 P w D.K mg base A outer s H) (hl : xs.length = ps.length) (r : Vals xs us) (C : NdefX.CellsAt cl (D.nf k).fr ws s.heap H)
    (x : InCallC s s.heap.objs.size (bindL (fun y => (D.nf k).scope.names.lookup y) (ps.zip us) fun _ => none) (cellsFrom (s.heap.objs.size + 1) (D.nf k).scope.names []) (bindC (fun y => (D.nf k).scope.names.lookup y) (ps.zip us) fun _ => none) s1) :
    Inv (ncy P w mg base D k N f cl c A outer s H) [] (NdefX.startF N xs ws) H s1 := by
  have hpl : ps.length + (D.nf k).fr.length ≤ N.length := by
    have q := congrArg List.length S.pre
    rw [List.length_take, List.length_append] at q
    omega
  obtain ⟨h1, tk, rfl, hk⟩ := x.done
  generalize hown : cellsFrom (s.heap.objs.size + 1) (D.nf k).scope.names [] = own at x
  have owk : ∀ y c, own.lookup y = some c → (D.nf k).scope.names.lookup y = some .cell := fun y c e => by
    have z := PySem.mem_of_lookup e
    rw [← hown] at z
    exact mem_look S.ndk (cells_kind _ _ _ _ z)
  have owh : ∀ y, (D.nf k).scope.names.lookup y = some .cell → ∃ c, own.lookup y = some c := fun y e => by
    rw [← hown]
    exact cell_has e
  have all : allC (D.nf k) s.heap.objs.size cl = own ++ cl := by unfold allC; rw [hown]
  have look : ∀ y c, (allC (D.nf k) s.heap.objs.size cl).lookup y = some c → own.lookup y = some c ∨ (own.lookup y = none ∧ cl.lookup y = some c) := fun y c e => by
    rw [all, List.lookup_append] at e
    cases q : own.lookup y with
    | none =>
      rw [q] at e
      exact .inr ⟨rfl, e⟩
    | some c2 =>
      rw [q] at e
      exact .inl e
  have lookO : ∀ y c, own.lookup y = some c → (allC (D.nf k) s.heap.objs.size cl).lookup y = some c := fun y c e => by rw [all, List.lookup_append, e] <;> rfl
  have lookC : ∀ y c, own.lookup y = none → cl.lookup y = some c → (allC (D.nf k) s.heap.objs.size cl).lookup y = some c := fun y c e1 e2 => by rw [all, List.lookup_append, e1] <;> exact e2
  have ab : ∀ y c, own.lookup y = some c → s.heap.objs.size < c := fun y c e => x.above y c (PySem.mem_of_lookup e)
  have be : ∀ y c, cl.lookup y = some c → c < s.heap.objs.size := fun y c e => by
    obtain ⟨_, v, z⟩ := C.all y c e
    exact z.lt
  have noA : ∀ b : Addr, b ∉ (ncy P w mg base D k N f cl c A outer s H).ex := fun b z => absurd (show b ∈ ([] : List Addr) from z) (by simp)
  have frN : ∀ y ∈ (D.nf k).fr, own.lookup y = none := fun y hy => by
    cases q : own.lookup y with
    | none => rfl
    | some c2 =>
      have z := owk y c2 q
      rw [S.frk y hy] at z
      cases z
  have cellK : ∀ {c : Addr} {v : Option Value}, s.heap.IsCell c v → h1.IsCell c v := fun {c v} z => z.keeps hk
  refine ⟨⟨e0.mod, S.kind, rfl, rfl, Nat.le_refl _, fun y z a g1 g2 => ?_, fun y hy => ?_, fun y a g1 g2 => ?_, fun _ => hd, Around.frames_deeper e0.frames, .inr ⟨rfl, rfl⟩, fun b z => absurd z (noA b), e0.bs, e0.bsz, fun b _ _ => noA b, fun b z => absurd z (noA b), e0.funs, e0.frf⟩,
    rfl, e0.bare, Un.kept hk, ⟨_, x.toInCall.ns, fun i y v g1 g2 g3 => ?_⟩, fun y a g => ?_, e0.hok.fresh (Nat.le_refl _), fun y a g => ?_, fun p hp => absurd (show p ∈ ([] : List (Addr × Obj)) from hp) (by simp), e0.hok.kept hk, ?_⟩
  · rcases look y a g1 with o1 | ⟨_, o1⟩ <;> rcases look z a g2 with o2 | ⟨_, o2⟩
    · exact name_of_addr x.apart (PySem.mem_of_lookup o1) (PySem.mem_of_lookup o2)
    · exact absurd (be z a o2) (Nat.lt_asymm (ab y a o1))
    · exact absurd (be y a o1) (Nat.lt_asymm (ab z a o2))
    · exact C.inj y z a o1 o2
  · have hy : (D.nf k).scope.names.lookup y = some .cell ∨ (D.nf k).scope.names.lookup y = some .free := hy
    rcases hy with hy | hy
    · obtain ⟨a, ha⟩ := owh y hy
      exact ⟨a, lookO y a ha⟩
    · have hf := S.free _ (PySem.mem_of_lookup hy) rfl
      obtain ⟨i, hi⟩ := List.mem_iff_getElem?.mp hf
      obtain ⟨a, ha, _⟩ := C.has i y hi
      exact ⟨a, lookC y a (frN y hf) ha⟩
  · have hy : (D.nf k).scope.names.lookup y = some .cell := of_decide_eq_true g1
    obtain ⟨a', ha⟩ := owh y hy
    have e := lookO y a' ha
    have g2 : (allC (D.nf k) s.heap.objs.size cl).lookup y = some a := g2
    rw [e] at g2
    cases g2
    exact Nat.le_of_lt (ab y _ ha)
  · have g1 : N[i]? = some y := g1
    have clen := C.len
    unfold NdefX.startF at g2
    by_cases hi : i < ps.length
    · have hq : (ps ++ (D.nf k).fr)[i]? = some y := by
        rw [← S.pre, List.getElem?_take_of_lt (by omega)]
        exact g1
      rw [List.getElem?_append_left hi] at hq
      rw [List.getElem?_append_left (by rw [List.length_map]; omega), List.getElem?_map] at g2
      obtain ⟨a, ea, e2⟩ := Option.map_eq_some_iff.mp g2
      cases e2
      obtain ⟨u, hu, rv⟩ := r.get ea
      have ndP : ps.Nodup := by
        have q := S.nd.sublist (List.take_sublist (ps.length + (D.nf k).fr.length) N)
        rw [S.pre] at q
        exact (List.nodup_append.mp q).1
      refine ⟨u, rv, ?_⟩
      rcases S.par y (List.mem_of_getElem? hq) with z | z
      · exact .inl ⟨z, bindL_get ndP hq hu z⟩
      · obtain ⟨a, ha⟩ := owh y z
        refine .inr ⟨.inl z, a, lookO y a ha, ?_⟩
        have q := x.cell y a ha
        rw [bindC_get ndP hq hu (by show (D.nf k).scope.names.lookup y ≠ _; rw [z]; decide)] at q
        exact q
    · rw [List.getElem?_append_right (by rw [List.length_map]; omega), List.length_map] at g2
      by_cases h2 : i < ps.length + (D.nf k).fr.length
      · have hq : (ps ++ (D.nf k).fr)[i]? = some y := by
          rw [← S.pre, List.getElem?_take_of_lt (by omega)]
          exact g1
        rw [List.getElem?_append_right (by omega)] at hq
        rw [List.getElem?_append_left (by omega), hl] at g2
        obtain ⟨a, ha, hv⟩ := C.has (i - ps.length) y hq
        obtain ⟨u, ru, hu⟩ := hv v g2
        have hm := List.mem_of_getElem? hq
        exact ⟨u, ru, .inr ⟨.inr (S.frk y hm), a, lookC y a (frN y hm) ha, cellK hu⟩⟩
      · rw [List.getElem?_append_right (by omega), List.getElem?_replicate] at g2
        split at g2 <;> cases g2
  · rcases look y a g with o1 | ⟨_, o1⟩
    · exact ⟨_, x.cell y a o1⟩
    · obtain ⟨_, v, z⟩ := C.all y a o1
      exact ⟨v, cellK z⟩
  · rcases look y a g with o1 | ⟨_, o1⟩
    · exact e0.hok.fresh (Nat.le_of_lt (ab y a o1))
    · exact (C.all y a o1).1
  · have clen := C.len
    unfold NdefX.startF
    show _ = N.length
    rw [List.length_append, List.length_append, List.length_map, List.length_replicate]
    omega
/-- its contract by its body -/
theorem nfn_of {lv : Nat} {Cw : CS} (S : NSc N ps (D.nf k).fr (D.nf k).scope)
    (hb : ∀ (cl : List (Str × Addr)) (c : Addr) (doc pm ctv : Value) (us : List Value), us.length = ps.length → bindArgs ((D.nf k).fd cl c doc pm ctv) ⟨us, []⟩ = pure (ps.zip us))
    (len : ∀ ws xs H Q, ws.length = (D.nf k).fr.length → spN D Cw k ws xs H Q → xs.length = ps.length)
    (bod : ∀ (f : Addr) (cl : List (Str × Addr)) (c : Addr) (A : Around) (outer : List Env) (s : Shared) (H : Hp) (xs ws : List V) (Q : VK), Room lv (A.deeper (envY (D.nf k) f s.heap.objs.size c cl)) → A.guards = some [] → ws.length = (D.nf k).fr.length → spN D Cw k ws xs H Q →
      (∃ b, (D.nf k).body = .stmts b ∧ ∃ t, PSs (ncy P w mg base D k N f cl c A outer s H) b t ∧ t { nx := fun _ H' => Q .non H', rt := lockR Q } (NdefX.startF N xs (ws.map some)) H) ∨
      ∃ e, (D.nf k).body = .expr e ∧ ∃ t, PE (ncy P w mg base D k N f cl c A outer s H) e t ∧ t (NdefX.startF N xs (ws.map some)) H (lockR Q)) : NFn P w mg base (lv + 1) D Cw k := by
  intro f cl c A outer s H us xs ws Q room grd e0 hf hc ca rv hs
  have lw : ws.length = (D.nf k).fr.length := by have := ca.len; rwa [List.length_map] at this
  have lx := len ws xs H Q lw hs
  have lu : us.length = ps.length := by rw [← rv.length]; exact lx
  have nolim : s.heap.NoLimit := e0.mod.nolimit.keeps fun b o e => (e0.bs b o e).1
  obtain ⟨⟨od, sl, doc, pm, ctv, ho⟩, _⟩ := e0.hok f _ hf
  have rcd : s.heap.CodeRec (.ref c) (D.nf k).qual := NdefX.codeO_at e0.hok hc
  have kinds : ∀ y ∈ ps.zip us, (D.nf k).scope.names.lookup y.1 = some .local ∨ ((D.nf k).scope.names.lookup y.1 = some .cell ∧ ((cellsFrom (s.heap.objs.size + 1) (D.nf k).scope.names []).lookup y.1).isSome = true) := fun y hy => by
    have q := S.par y.1 (List.of_mem_zip (a := y.1) (b := y.2) hy).1
    rcases q with q | q
    · exact .inl q
    · exact .inr ⟨q, PySem.W.cellsFrom_some _ _ _ (.inl q)⟩
  rcases bod f cl c A outer s H xs ws Q (room.deeper _) grd lw hs with ⟨b, eb, t, ht, hq⟩ | ⟨e, eb, t, ht, hq⟩
  · refine codeAny_call_function room.depth ho rfl S.co S.gen eb rcd ?_
    rw [hb cl c doc pm ctv us lu]
    refine wpAny_pure (env_clo S.kind kinds fun s1 x => ⟨nolim.keeps x.toInCall.keep, ?_⟩)
    show codeAny _ _ (.func b (envY (D.nf k) f s.heap.objs.size c cl)) _ _
    refine codeAny_func ?_
    have J : Inv (ncy P w mg base D k N f cl c A outer s H) [] (NdefX.startF N xs (ws.map some)) H s1 := inv_startY S room.hd e0 lx rv ca x
    refine wpAny_mono (ht.run [] _ _ H _ J hq) (fun fl s' h => ?_) fun e s' h => h
    have z := fin_of rfl h
    cases fl with
    | ret u => exact z
    | next => exact z
    | brk => exact False.elim z
    | cont => exact False.elim z
  · refine PySem.W.kla_callFunE room.depth ho rfl S.co S.gen eb rcd ?_
    rw [hb cl c doc pm ctv us lu]
    refine wpAny_pure (env_clo S.kind kinds fun s1 x => ⟨nolim.keeps x.toInCall.keep, ?_⟩)
    show codeAny _ _ (.expr e (envY (D.nf k) f s.heap.objs.size c cl)) _ _
    have J : Inv (ncy P w mg base D k N f cl c A outer s H) [] (NdefX.startF N xs (ws.map some)) H s1 := inv_startY S room.hd e0 lx rv ca x
    refine PySem.W.kla_codeExpr (wpAny_mono (ht.run [] _ _ H _ J hq) (fun v s' h => ?_) fun e s' h => h)
    exact fin_e rfl h
end
end Rp
/-! # A def that makes a function at its end -/
namespace Rp
open PySem PySem.Spec PyProof.Rows L2

/-- the cells cl are told from now on -/
def addC (k : Nat) (cl : List (Str × Addr)) (h : Heap) (H : Hp) : Hp := fun b => if b ∈ cl.map (·.2) then (h.get? b).map (fun o => HO.frz o (.own k)) else H b
theorem caps_at {D : Ad} {ι : List Addr} {H : Hp} {σ : Sg} {σc : L2.St} (G : RG D ι H σ σc) : ∀ {js : List Nat} {caps : List PV}, capsOf σ js = some caps → ∃ xs, js.map (NdefX.slotAt σc) = xs.map some ∧ RVs D ι H caps xs
  | [], caps, h => by
    cases h
    exact ⟨[], rfl, .nil⟩
  | j :: js, caps, h => by
    unfold capsOf at h
    obtain ⟨v, e1, h⟩ := Option.bind_eq_some_iff.mp h
    obtain ⟨r, e2, rfl⟩ := Option.map_eq_some_iff.mp h
    obtain ⟨x, ex, rx⟩ := G.at_ j v (getS_ex e1)
    obtain ⟨xs, e3, rs⟩ := caps_at G e2
    exact ⟨x :: xs, by rw [List.map_cons, List.map_cons, e3, NdefX.slotAt_of ex], .cons rx rs⟩
theorem slot_set {σc : L2.St} {i : Nat} {v : Option V} : ∀ {js : List Nat}, i ∉ js → js.map (NdefX.slotAt (σc.set i v)) = js.map (NdefX.slotAt σc)
  | [], _ => rfl
  | j :: js, h => by
    have h1 : i ≠ j := fun z => h (by rw [z]; exact List.mem_cons_self ..)
    rw [List.map_cons, List.map_cons, slot_set (fun z => h (List.mem_cons_of_mem _ z))]
    congr 1
    unfold NdefX.slotAt
    rw [List.getElem?_set_ne h1]
section
variable {X : Cx} {D : Ad} {F : Fd} {T : Tab} {M : Nm} {fl : List Nat} {C : CS} {lv : Nat} {W : WX} {c : Sc}
/-- behind the making: the frame ends, what its cells hold is told -/
theorem clo_end {k : Nat} {js : List Nat} {names : List (Str × NameKind)} {f co : Addr} {σ2 : L2.St} {s2 : Shared} {H2 : Hp} {ι : List Addr} {S : Store} {caps : List PV} {xs : List V} {Q : VK} (hex : X.ex = []) (hfn : ∀ x, X.fn x = true)
    (I : Inv X [] σ2 H2 s2) (L : Ly D ι H2 S) (hfree : ∀ y ∈ names, y.2 = .free → ∃ a, X.env.cells.lookup y.1 = some a) (cp : NdefX.Caps X (cloFrom X.env.cells names []) (D.nf k).fr js)
    (h1 : H2 f = some (FnC f (D.nf k) (cloFrom X.env.cells names []) co)) (h2 : H2 co = some (LamX.CodeO co (D.nf k).qual)) (hx : js.map (NdefX.slotAt σ2) = xs.map some) (rx : RVs D ι H2 caps xs)
    (cn : ∀ H', Ext ι H2 ι H' → Ly D ι H' S → RV D ι H' (.clo k caps) (.ref f) → Q (.ref f) H') : CE X.outer X.prog X.w X.H_0 X.s_0 Q (.ref f) s2 := by
  generalize hcl : cloFrom X.env.cells names [] = cl at *
  have ca := NdefX.cells_of I cp
  rw [hx] at ca
  -- each cell: a cell of the frame, new
  have cell : ∀ b ∈ cl.map (·.2), ∃ o v, s2.heap.get? b = some o ∧ o.data = .cell v ∧ H2 b = none ∧ X.s_0.heap.objs.size ≤ b := fun b hb => by
    obtain ⟨p, hp, rfl⟩ := List.mem_map.mp hb
    rw [← hcl] at hp
    rcases cloFrom_mem (n := p.1) (c := p.2) hp with hm | ⟨z1, z2⟩
    · cases hm
    · obtain ⟨a, ha⟩ := hfree _ z1 rfl
      have ha : X.env.cells.lookup p.1 = some a := ha
      have e : p.2 = a := by rw [z2, ha] <;> rfl
      rw [e]
      obtain ⟨v, o, ho, hd⟩ := I.cell p.1 a ha
      exact ⟨o, v, ho, hd, I.freeC p.1 a ha, I.ok.cab p.1 a (hfn _) ha⟩
  have keep : ∀ b u, H2 b = some u → addC k cl s2.heap H2 b = some u := fun b u e => by
    unfold addC
    rw [if_neg (fun z => by obtain ⟨_, _, _, _, n, _⟩ := cell b z; rw [n] at e; cases e)]
    exact e
  have told : ∀ b ∈ cl.map (·.2), ∃ o v, s2.heap.get? b = some o ∧ o.data = .cell v ∧ addC k cl s2.heap H2 b = some (.frz o (.own k)) := fun b hb => by
    obtain ⟨o, v, e1, e2, _⟩ := cell b hb
    refine ⟨o, v, e1, e2, ?_⟩
    unfold addC
    rw [if_pos hb, e1]
    rfl
  have ex : Ext ι H2 ι (addC k cl s2.heap H2) := ext_gr keep
  have L' : Ly D ι (addC k cl s2.heap H2) S := ly_gr L keep
  have nι : ∀ b φ, H2 b = some (.ext φ) → b ∉ ι := fun b φ e z => by
    obtain ⟨i, hi, ei⟩ := List.mem_iff_getElem.mp z
    have hs : i < S.length := by rw [← L.len]; exact hi
    obtain ⟨a, ho, e1, e2, e3⟩ := L.at_ i S[i] (by simp [hs])
    rw [List.getElem?_eq_getElem hi, ei] at e1
    cases e1
    rw [e] at e2
    exact e3.not_ext φ (Option.some.inj e2).symm
  have hok : HOk X.prog X.w (addC k cl s2.heap H2) s2.heap := fun a o e => by
    by_cases hb : a ∈ cl.map (·.2)
    · obtain ⟨ob, v, e1, e2, e3⟩ := told a hb
      rw [e] at e3
      cases e3
      exact ⟨e1, ob, e1⟩
    · have e : H2 a = some o := by
        unfold addC at e
        rw [if_neg hb] at e
        exact e
      exact (I.hok a o e).stay (fun _ _ _ q => q) (fun b q => keep b _ q) fun b xs q => keep b _ q
  have un : Un (frs X.outer) [] X.H_0 (addC k cl s2.heap H2) X.s_0.heap s2.heap := by
    have u : Un (frs X.outer) [] X.H_0 H2 X.s_0.heap s2.heap := by
      have z := I.base
      rw [hex] at z
      exact z
    have old : ∀ b o, X.s_0.heap.get? b = some o → b ∉ cl.map (·.2) := fun b o e z => by
      obtain ⟨_, _, _, _, _, n⟩ := cell b z
      exact absurd (Nat.lt_of_lt_of_le (Heap.lt_size e) n) (Nat.lt_irrefl _)
    refine ⟨u.keep, u.slot, fun b o e n hx => ?_, u.there, fun b xs e => keep b _ (u.tups b xs e), fun b o v e => keep b _ (u.frzs b o v e), fun b ps e => ?_⟩
    · have z := u.free b o e n hx
      unfold addC
      rw [if_neg (old b o e)]
      exact z
    · obtain ⟨m, z⟩ := u.tbls b ps e
      exact ⟨m, keep b _ z⟩
  have cs : Cells D (addC k cl s2.heap H2) k cl (D.nf k).fr xs := by
    refine ⟨by have := ca.len; rwa [List.length_map] at this, fun p hp => ?_, ca.inj, fun i y e => ?_⟩
    · obtain ⟨o, v, e1, e2, e3⟩ := told p.2 (List.mem_map_of_mem hp)
      exact ⟨o, v, .inl e3, e2⟩
    · obtain ⟨a, e1, e2⟩ := ca.has i y e
      have li : i < xs.length := by
        have := ca.len
        rw [List.length_map] at this
        rw [this]
        exact (List.getElem?_eq_some_iff.mp e).1
      obtain ⟨u, ru, o, ho, hd⟩ := e2 xs[i] (by rw [List.getElem?_map, List.getElem?_eq_getElem li]; rfl)
      have hb : a ∈ cl.map (·.2) := List.mem_map.mpr ⟨(y, a), PySem.mem_of_lookup e1, rfl⟩
      obtain ⟨o', v, g1, g2, g3⟩ := told a hb
      rw [ho] at g1
      cases g1
      exact ⟨a, o, xs[i], u, e1, .inl g3, List.getElem?_eq_getElem li, ru, hd⟩
  have rv : RV D ι (addC k cl s2.heap H2) (.clo k caps) (.ref f) := ⟨f, cl, co, xs, rfl, nι f _ h1, nι co _ h2, keep f _ h1, keep co _ h2, cs, rx.ext ex⟩
  exact ⟨.ref f, _, I.os, I.bare, un, hok, rfl, cn _ ex L' rv⟩
end
/-- how a def's last rows make a function -/
inductive TailAt (D : Ad) (k : Nat) (js : List Nat) (N : List Str) (scope : Scope) (qual : Str) (cs : List (Addr × Addr)) (code : Value) : List Stmt → Prop where
  | fdef {st : Stmt} {name : Str} {pos p1 p2 : Pos} {i : Nat} {c P : Addr} {nm : Nat → Nat → Str} {fr : List Str} (hst : st = .FunctionDef name (C8.fnArgs st) (C8.fnBody st) [] none [] (C8.fnScope st) none name pos)
    (hnf : D.nf k = ⟨name, qual ++ name, C8.fnArgs st, .stmts (C8.fnBody st), C8.fnScope st, fr⟩) (hc : code = .ref c) (hcs : (c, P) ∈ cs) (hm : (P, nm) ∈ D.tabs) (hn : nm pos.line pos.col = qual ++ name) (hu : ∀ p ∈ D.tabs, p.1 = P → p.2 = nm)
    (hfr : NdefX.ndefB scope (C8.fnScope st) fr = true) (hd0 : (C8.fnArgs st).defaults = []) (hk0 : (C8.fnArgs st).kw_defaults = []) (ha : ∀ env, annTrees (C8.fnArgs st) none env = []) (hi : N[i]? = some name) (hx : scope.names.lookup name = some .local)
    (hjs : js.map (fun j => N[j]?) = fr.map some) (hij : i ∉ js) (hdb : (name == ("__debug__" : Str)) = false) (hcd : (name == ("__classdict__" : Str)) = false) : TailAt D k js N scope qual cs code [st, .Return (some (.Name name p1)) p2]
  | lam {params : Arguments} {body : Expr} {sc : Scope} {pos p2 : Pos} {c P : Addr} {nm : Nat → Nat → Str} {fr : List Str}
    (hnf : D.nf k = ⟨"<lambda>", qual ++ "<lambda>", params, .expr body, sc, fr⟩) (hc : code = .ref c) (hcs : (c, P) ∈ cs) (hm : (P, nm) ∈ D.tabs) (hn : nm pos.line pos.col = qual ++ "<lambda>") (hu : ∀ p ∈ D.tabs, p.1 = P → p.2 = nm)
    (hfr : NdefX.ndefB scope sc fr = true) (hd : ∀ env, defaultsOf params env = ([], [])) (hjs : js.map (fun j => N[j]?) = fr.map some) : TailAt D k js N scope qual cs code [.Return (some (.Lambda params body sc pos)) p2]
/-- a table that a new code object came into -/
theorem tabs_grow {T : List NdefX.NTab} {H : Hp} {P c : Addr} {nm : Nat → Nat → Str} {ps : Array Value} {pos : Pos} {q : Str} (t : NdefX.TabsN T H) (hu : ∀ p ∈ T, p.1 = P → p.2 = nm) (hn : nm pos.line pos.col = q) (hP : H P = some (.tbl ps)) (ht : TriplesOk ps.toList)
    (ha : ∀ (pos : Pos) (cv : Value), codeAmong pos ps.toList = some cv → ∃ c, cv = .ref c ∧ H c = some (LamX.CodeO c (nm pos.line pos.col))) (nc : H c = none) :
    NdefX.TabsN T (upd (upd H P (.tbl (ps ++ #[rawInt pos.line, rawInt pos.col, .ref c]))) c (LamX.CodeO c q)) := fun p hp => by
  have keep : ∀ b o, H b = some o → (∀ qs, o ≠ .tbl qs) → upd (upd H P (.tbl (ps ++ #[rawInt pos.line, rawInt pos.col, .ref c]))) c (LamX.CodeO c q) b = some o := fun b o e n => by
    have n1 : b ≠ c := ne_of_none e nc
    have n2 : b ≠ P := fun z => by
      rw [z, hP] at e
      exact n ps (Option.some.inj e).symm
    rw [upd_ne n1, upd_ne n2]
    exact e
  by_cases hb : p.1 = P
  · have el : (ps ++ #[rawInt pos.line, rawInt pos.col, .ref c]).toList = ps.toList ++ [rawInt pos.line, rawInt pos.col, .ref c] := by simp
    rw [hu p hp hb, hb]
    refine ⟨ps ++ #[rawInt pos.line, rawInt pos.col, .ref c], ?_, ?_, fun p' cv h => ?_⟩
    · rw [upd_ne (ne_of_none hP nc), upd_same]
    · rw [el]
      exact PySem.TriplesOk_snoc _ _ _ _ ht
    · rw [el] at h
      rcases NdefX.among_app2 _ ht h with z | ⟨z, z1, z2⟩
      · obtain ⟨c0, e1, e2⟩ := ha p' cv z
        exact ⟨c0, e1, keep _ _ e2 LamX.codeO_ne⟩
      · refine ⟨c, z, ?_⟩
        rw [← z1, ← z2, hn]
        exact upd_same
  · obtain ⟨qs, a1, a2, a3⟩ := t p hp
    refine ⟨qs, ?_, a2, fun p' cv h => ?_⟩
    · rw [upd_ne (ne_of_none a1 nc), upd_ne hb]
      exact a1
    · obtain ⟨c0, e1, e2⟩ := a3 p' cv h
      exact ⟨c0, e1, keep _ _ e2 LamX.codeO_ne⟩
section
variable {X : Cx} {D : Ad} {F : Fd} {T : Tab} {M : Nm} {fl : List Nat} {C : CS} {lv : Nat} {W : WX} {c : Sc}
/-- all but tables stays, tables stay tables -/
theorem ext_tab {ι : List Addr} {H H' : Hp} (e : LamX.ExtN H H') (n : ∀ b, H' b = none → H b = none) : Ext ι H ι H' := by
  refine ⟨⟨[], by simp, by simp⟩, fun b o _ h nt => e b o h nt, fun b o h im => e b o h fun ps z => by rw [z] at im; exact im, fun b o h => ?_⟩
  cases z : H' b with
  | none => rw [n b z] at h; cases h
  | some o' => exact ⟨o', rfl⟩
theorem ly_tab {ι : List Addr} {H H' : Hp} {S : Store} (L : Ly D ι H S) (e : LamX.ExtN H H') (n : ∀ b, H' b = none → H b = none) (t : NdefX.TabsN D.tabs H') : Ly D ι H' S := by
  refine ⟨L.len, L.nd, fun i u z => ?_, t⟩
  obtain ⟨a, h, e1, e2, e3⟩ := L.at_ i u z
  exact ⟨a, h, e1, e a h e2 e3.not_tbl, e3.ext (ext_tab e n)⟩
theorem inv_fnC {fd : NW} {cl : List (Str × Addr)} {co : Addr} {pins : List (Addr × Obj)} {σc : L2.St} {H : Hp} {s : Shared} {ob : Obj} {tk : Tok} {doc pm ctv : Value} (I : Inv X pins σc H s) (ho : ob = { cls := .type "function", data := .func (fd.fd cl co doc pm ctv) }) :
    Inv X pins σc (upd H s.heap.objs.size (FnC s.heap.objs.size fd cl co)) { s with heap := s.heap.push ob, toks := tk } := by
  subst ho
  refine I.laid (a := s.heap.objs.size) (fun b u e => Heap.get?_push_of_some _ e) (Nat.le_refl _) ?_
  have e : (s.heap.push ({ cls := .type "function", data := .func (fd.fd cl co doc pm ctv) } : Obj)).get? s.heap.objs.size = some ({ cls := .type "function", data := .func (fd.fd cl co doc pm ctv) } : Obj) := Heap.get?_push_size _ rfl
  exact ⟨⟨none, #[], doc, pm, ctv, e⟩, ⟨_, e⟩, fun a b q st => by
    obtain ⟨od, sl, d, p, t, z⟩ := q
    exact ⟨od, sl, d, p, t, st _ z⟩⟩
theorem tail_run {k : Nat} {js : List Nat} {cs : List (Addr × Addr)} {tl : List Stmt} {σc : L2.St} {σ : Sg} {s : Shared} {H : Hp} {ι : List Addr} {S : Store} {caps : List PV} {Q : VK} (o : Okx X D F T M fl C lv W c) (hex : X.ex = []) (hfn : ∀ x, X.fn x = true)
    (TBs : ∀ p ∈ cs, LamX.TabB X.base X.mg p.1 p.2) (ta : TailAt D k js X.N X.env.scope X.env.qual cs X.env.code tl) (I : Inv X [] σc H s) (L : Ly D ι H S) (G : RG D ι H σ σc) (hcp : capsOf σ js = some caps)
    (cn : ∀ f H', Ext ι H ι H' → Ly D ι H' S → RV D ι H' (.clo k caps) (.ref f) → Q (.ref f) H') : wpAny (model X.prog X.w) X.A (execs tl X.env) (FinP X.outer X.prog X.w X.H_0 X.s_0 Q) X.xe s := by
  obtain ⟨xs, hxs, rxs⟩ := caps_at G hcp
  cases ta with
  | @fdef st name pos p1 p2 i co P nm fr hst hnf hc hcs hm hn hu hfr hd0 hk0 ha hi hx hjs hij hdb hcd =>
    have TB := TBs _ hcs
    have hf := NdefX.ndef_free hfr
    have hq := NdefX.ps_ndefMS (X := X) (i := i) (pos := pos) (name := name) hst TB hc hm hn hu hf hd0 hk0 (ha X.env) o.nd hi (.inl hx) (.inr hx)
    refine wpAny_execs_cons (thn (hq.run [] s σc H { nx := fun σ2 H2 => ∃ f c', σ2 = σc.set i (some (.ref f)) ∧ LamX.ExtN H H2 ∧ (∀ b, H2 b = none → H b = none) ∧ NdefX.TabsN D.tabs H2 ∧ H2 f = some (FnC f (D.nf k) (cloFrom X.env.cells (C8.fnScope st).names []) c') ∧ H2 c' = some (LamX.CodeO c' (D.nf k).qual), rt := fun _ _ => False } I ⟨L.tb, fun f c' H1 e n t _ h1 h2 => ⟨f, c', rfl, e, n, t, ?_, ?_⟩⟩) fun fl s1 q1 => ?_)
    · rw [hnf]; exact h1
    · rw [hnf]; exact h2
    · cases fl with
      | next =>
        obtain ⟨σ2, H2, I2, f, c', rfl, e, n, t, h1, h2⟩ := q1
        have hl : i < σc.length := by rw [I.len]; exact (List.getElem?_eq_some_iff.mp hi).1
        refine wpAny_execs_cons (wpAny_Return_some (thn ((pe_var (X := X) (pos := p1) hi (.inl hx) hdb hcd).run [] s1 _ H2 (fun v H3 => v = .ref f ∧ H3 = H2) I2 ⟨.ref f, List.getElem?_set_self hl, rfl, rfl⟩) fun u s2 q2 => ?_))
        obtain ⟨v, H3, I3, ru, rfl, rfl⟩ := q2
        obtain rfl : u = Value.ref f := ru
        refine clo_end (k := k) (js := js) (S := S) (ι := ι) (caps := caps) (xs := xs) hex hfn I3 (ly_tab L e n t) (fun y hy ey => ?_) ?_ h1 h2 ?_ (rxs.ext (ext_tab e n)) fun H' e' L' r' => cn f H' ((ext_tab e n).trans e') L' r'
        · exact (hf y hy ey).elim (fun z => I.ok.has _ (.inl z)) fun z => I.ok.has _ (.inr z)
        · rw [hnf]
          exact NdefX.Caps.made I.ok hf (NdefX.ndef_fr hfr) hjs
        · rw [slot_set hij]
          exact hxs
      | ret u =>
        obtain ⟨_, _, _, _, _, q⟩ := q1
        exact q.elim
      | brk =>
        obtain ⟨_, _, _, q⟩ := q1
        exact False.elim q
      | cont =>
        obtain ⟨_, _, _, q⟩ := q1
        exact False.elim q
  | @lam params body sc pos p2 co P nm fr hnf hc hcs hm hn hu hfr hd hjs =>
    have TB := TBs _ hcs
    have hf := NdefX.ndef_free hfr
    have hfree : ∀ y ∈ sc.names, y.2 = .free → ∃ a, X.env.cells.lookup y.1 = some a := fun y hy ey => (hf y hy ey).elim (fun z => I.ok.has _ (.inl z)) fun z => I.ok.has _ (.inr z)
    obtain ⟨ps, hP, ht, ham⟩ := L.tb _ hm
    have bP : s.heap.BuiltinsAt X.mg P := TB.bm.keeps I.bk
    have gP : s.heap.get? P = some { cls := .none, data := .fields ps } := I.hok P _ hP
    have cap : NdefX.Caps X (cloFrom X.env.cells sc.names []) (D.nf k).fr js := by
      rw [hnf]
      exact NdefX.Caps.made I.ok hf (NdefX.ndef_fr hfr) hjs
    refine wpAny_execs_cons (wpAny_Return_some (PySem.W.kla_eval (hd X.env) ?_))
    cases hca : codeAmong pos ps.toList with
    | none =>
      refine PySem.W.kla_makeFunction (mg := X.mg) (c := co) (P := P) (ps := ps) (closure_ok hfree) I.ok.glob (I.mod.glob.keeps I.bk) hc (TB.code.keeps I.bk) gP ht hca TB.gP bP fun c' ctv h' tk k1 k2 k3 k4 k5 => ?_
      obtain ⟨c2, oc, vs, t, e2, g1, g2, g3⟩ := k4
      cases e2
      have nc : H c' = none := I.hok.fresh k2
      have I1 := LamX.inv_table (t' := tk) (more := #[rawInt pos.line, rawInt pos.col, .ref c']) (h' := h') I hP (fun b ob nb e => k1 b ob nb e) k5 k2 ⟨oc, vs, t, g1, g2, g3⟩
      have nf := I1.hok.fresh (Nat.le_refl _)
      have I2 := inv_fnC (fd := D.nf k) (cl := cloFrom X.env.cells sc.names []) (co := c') (tk := tk) (doc := .none) (pm := (X.mg "__name__").getD .none) (ctv := ctv) I1 rfl
      have en : LamX.ExtN H (upd (upd (upd H P (.tbl (ps ++ #[rawInt pos.line, rawInt pos.col, .ref c']))) c' (LamX.CodeO c' (X.env.qual ++ "<lambda>"))) h'.objs.size (FnC h'.objs.size (D.nf k) (cloFrom X.env.cells sc.names []) c')) := fun b u e n => by
        have n1 : b ≠ c' := ne_of_none e nc
        have n2 : b ≠ P := fun z => by
          rw [z, hP] at e
          exact n ps (Option.some.inj e).symm
        have e1 : upd (upd H P (.tbl (ps ++ #[rawInt pos.line, rawInt pos.col, .ref c']))) c' (LamX.CodeO c' (X.env.qual ++ "<lambda>")) b = some u := by
          rw [upd_ne n1, upd_ne n2]
          exact e
        rw [upd_ne (ne_of_none e1 nf)]
        exact e1
      have nn : ∀ b, (upd (upd (upd H P (.tbl (ps ++ #[rawInt pos.line, rawInt pos.col, .ref c']))) c' (LamX.CodeO c' (X.env.qual ++ "<lambda>"))) h'.objs.size (FnC h'.objs.size (D.nf k) (cloFrom X.env.cells sc.names []) c')) b = none → H b = none :=
        fun b e => NdefX.upd_none (NdefX.upd_none (NdefX.upd_none e))
      have tb : NdefX.TabsN D.tabs (upd (upd (upd H P (.tbl (ps ++ #[rawInt pos.line, rawInt pos.col, .ref c']))) c' (LamX.CodeO c' (X.env.qual ++ "<lambda>"))) h'.objs.size (FnC h'.objs.size (D.nf k) (cloFrom X.env.cells sc.names []) c')) :=
        tabs_all (tabs_grow L.tb hu hn hP ht ham nc) fun b u e => by rw [upd_ne (ne_of_none e nf)]; exact e
      have q2 : (upd (upd (upd H P (.tbl (ps ++ #[rawInt pos.line, rawInt pos.col, .ref c']))) c' (LamX.CodeO c' (X.env.qual ++ "<lambda>"))) h'.objs.size (FnC h'.objs.size (D.nf k) (cloFrom X.env.cells sc.names []) c')) c' = some (LamX.CodeO c' (D.nf k).qual) := by
        rw [upd_ne (Nat.ne_of_lt k3), upd_same, hnf]
      have ob : (PySem.W.kla_obj "<lambda>" (X.env.qual ++ "<lambda>") params body sc (cloFrom X.env.cells sc.names []) ((X.mg "__name__").getD .none) c' ctv) = { cls := .type "function", data := .func ((D.nf k).fd (cloFrom X.env.cells sc.names []) c' .none ((X.mg "__name__").getD .none) ctv) } := by
        rw [hnf]
      rw [ob]
      exact clo_end (k := k) (js := js) (S := S) (ι := ι) (caps := caps) (xs := xs) hex hfn I2 (ly_tab L en nn tb) hfree cap upd_same q2 hxs (rxs.ext (ext_tab en nn)) fun H' e' L' r' => cn _ H' ((ext_tab en nn).trans e') L' r'
    | some cv =>
      obtain ⟨c', e, hco⟩ := ham pos cv hca
      subst e
      have hco : H c' = some (LamX.CodeO c' (nm pos.line pos.col)) := hco
      rw [hn] at hco
      refine PySem.W.kla_makeFunctionHit (mg := X.mg) (c := co) (P := P) (ps := ps) (closure_ok hfree) I.ok.glob (I.mod.glob.keeps I.bk) hc (TB.code.keeps I.bk) gP ht hca bP fun ctv h' tk k1 k2 => ?_
      have I1 : Inv X [] σc H { s with heap := h', toks := tk } := I.kept k1
      have nf : H h'.objs.size = none := I1.hok.fresh (Nat.le_refl _)
      have I2 := inv_fnC (fd := D.nf k) (cl := cloFrom X.env.cells sc.names []) (co := c') (tk := tk) (doc := .none) (pm := (X.mg "__name__").getD .none) (ctv := ctv) I1 rfl
      have kp : ∀ b u, H b = some u → upd H h'.objs.size (FnC h'.objs.size (D.nf k) (cloFrom X.env.cells sc.names []) c') b = some u := fun b u e => by rw [upd_ne (ne_of_none e nf)]; exact e
      have q2 : upd H h'.objs.size (FnC h'.objs.size (D.nf k) (cloFrom X.env.cells sc.names []) c') c' = some (LamX.CodeO c' (D.nf k).qual) := by
        have z := kp c' _ hco
        rw [hnf] at z ⊢
        exact z
      have ob : (PySem.W.kla_fn "<lambda>" (X.env.qual ++ "<lambda>") params body sc (cloFrom X.env.cells sc.names []) ((X.mg "__name__").getD .none) (.ref c') ctv) = (D.nf k).fd (cloFrom X.env.cells sc.names []) c' .none ((X.mg "__name__").getD .none) ctv := by
        rw [hnf]
      rw [ob]
      exact clo_end (k := k) (js := js) (S := S) (ι := ι) (caps := caps) (xs := xs) hex hfn I2 (ly_gr L kp) hfree cap upd_same q2 hxs (rxs.ext (ext_gr kp)) fun H' e' L' r' => cn _ H' ((ext_gr kp).trans e') L' r'
/-- rows, then the making of a function -/
theorem rows_tail {js : List Nat} {k : Nat} {cs : List (Addr × Addr)} {tl : List Stmt} {Q : VK} (o : Okx X D F T M M.fl C lv W c) (fr : Fr X) (hex : X.ex = []) (hfn : ∀ x, X.fn x = true) (TBs : ∀ p ∈ cs, LamX.TabB X.base X.mg p.1 p.2) (ta : TailAt D k js X.N X.env.scope X.env.qual cs X.env.code tl) :
    ∀ (r : RSs) {ss : List Stmt} {σc : L2.St} {σ : Sg} {s : Shared} {H : Hp} {ι : List Addr} {S : Store} {Da : En}, okSs M T c r ss = true → Inv X [] σc H s → Ly D ι H S → RG D ι H σ σc → wpSs T C r σ S Da →
      CnE D ι H W Da { nx := fun σ' H' => ∃ ι' S' σp caps, Ly D ι' H' S' ∧ RG D ι' H' σp σ' ∧ capsOf σp js = some caps ∧ ∀ f H2, Ext ι' H' ι' H2 → Ly D ι' H2 S' → RV D ι' H2 (.clo k caps) (.ref f) → Q (.ref f) H2, rt := lockR Q } →
      wpAny (model X.prog X.w) X.A (execs (ss ++ tl) X.env) (FinP X.outer X.prog X.w X.H_0 X.s_0 Q) X.xe s
  | .nil, ss, σc, σ, s, H, ι, S, Da, h, I, L, G, hw, cn => by
    cases ss with
    | cons _ _ => cases h
    | nil =>
      obtain ⟨ι', S', σp, caps, L', G', hcp, q⟩ := cn.nx ι S H σ σc Ext.refl L G hw
      exact tail_run o hex hfn TBs ta I L' G' hcp q
  | .cons r rs, ss, σc, σ, s, H, ι, S, Da, h, I, L, G, hw, cn => by
    cases ss with
    | nil => cases h
    | cons st ss =>
      have h' : (okS M T c r st && okSs M T c rs ss) = true := h
      rw [Bool.and_eq_true] at h'
      have hs := sndS r o fr h'.1
      refine wpAny_execs_cons (thn (hs.run [] s σc H { nx := fun σ' H' => ∃ ι1 S1 σ1, Ext ι H ι1 H' ∧ Ly D ι1 H' S1 ∧ RG D ι1 H' σ1 σ' ∧ wpSs T C rs σ1 S1 Da, rt := lockR Q } I ⟨ι, S, σ, _, L, G, hw, ⟨fun ι1 S1 H1 σ1 σc1 e L1 G1 q1 => ⟨ι1, S1, σ1, e, L1, G1, q1⟩, cn.rt, cn.bk, cn.ct, cn.ex⟩⟩) fun fl s1 q1 => ?_)
      cases fl with
      | next =>
        obtain ⟨σ', H', I', ι1, S1, σ1, e, L1, G1, q⟩ := q1
        exact rows_tail o fr hex hfn TBs ta rs h'.2 I' L1 G1 q (cn.ext e)
      | ret u =>
        obtain ⟨v, σ', H', J', r', q⟩ := q1
        exact fin_e hex ⟨v, H', J', r', q⟩
      | brk =>
        obtain ⟨_, _, _, q⟩ := q1
        exact False.elim q
      | cont =>
        obtain ⟨_, _, _, q⟩ := q1
        exact False.elim q
end
end Rp
/-! # The defs of a text; the law's call -/
namespace Rp
open PySem PySem.Spec PyProof.Rows L2

/-- a def of the table, as the written part has it -/
def DefAt (D : Ad) (F : Fd) (M : Nm) (T : Tab) (cs : List (Addr × Addr)) (f : Nat) (d : FDef) : Prop :=
  ∃ (nm qual : Str) (params : Arguments) (body : List Stmt) (scope : Scope) (dV kV doc pm cdv ct oc : Value) (an od : Option Addr) (osl : Array (Option Value)),
    F.fd f = PySem.W.fnOf nm qual params body scope dV kV doc pm an cdv ct ∧ D.K.lookup (D.fa f) = some ⟨oc, od, .func (F.fd f), osl⟩ ∧ PySem.W.codeIn D.K cdv qual = true ∧
      C8.scC (d.N.map sN) ((d.N.map sN).take d.np) scope = true ∧ d.np ≤ d.N.length ∧ ∃ n, okSs M T ⟨d.N.map sN, scope, true⟩ d.body (body.take n) = true ∧ (match d.tail with
        | .none => body.drop n = []
        | .some kj => TailAt D kj.1 kj.2 (d.N.map sN) scope (qual ++ ".<locals>.") cs cdv (body.drop n))
/-- a nested def of the table -/
def NAt (D : Ad) (M : Nm) (T : Tab) (k : Nat) (d : FDef) : Prop :=
  ∃ ps : List Str, nscB (d.N.map sN) ps (D.nf k).fr (D.nf k).scope = true ∧ d.np = ps.length + (D.nf k).fr.length ∧ d.tail = .none ∧
    (∀ (cl : List (Str × Addr)) (c : Addr) (doc pm ctv : Value) (us : List Value), us.length = ps.length → bindArgs ((D.nf k).fd cl c doc pm ctv) ⟨us, []⟩ = pure (ps.zip us)) ∧
    ((∃ b, (D.nf k).body = .stmts b ∧ okSs M T ⟨d.N.map sN, (D.nf k).scope, true⟩ d.body b = true) ∨ ∃ e r, (D.nf k).body = .expr e ∧ d.body = .cons (.ret r) .nil ∧ okE M T ⟨d.N.map sN, (D.nf k).scope, true⟩ r e = true)
/-- what stands at the text's top, whatever is called -/
structure Top (D : Ad) (F : Fd) (mg : Str → Option Value) (T : Tab) (M : Nm) (cs : List (Addr × Addr)) : Prop where
  gf : ∀ x f, (x, f) ∈ M.gf → mg (sN x) = some (.ref (D.fa f)) ∧ PySem.W.keepIn D.K (.ref (D.fa f)) = true
  gc : ∀ x c, (x, c) ∈ M.gc → mg (sN x) = some (.ref (D.ca c)) ∧ ∀ f, (T.cls[c]?).bind (·.ini) = some f → Mk D.K (D.ca c) (D.fa f)
  gv : ∀ x v, (x, v) ∈ M.gv → ∃ u y, mg (sN x) = some u ∧ RelV y u ∧ ∀ ι H, RV D ι H v y
  nb : ∀ x ∈ M.nb, mg (sN x) = none
  sh : ∀ s ∈ M.shapes, ∀ d, T.fns[s.f]? = some d → ShOk D F s d
  ms : ∀ c cd, T.cls[c]? = some cd → Cls D.K (D.ca c) ∧ (∀ m f, cd.ms.lookup m = some f → Meth D.K (D.ca c) (dN m) (D.fa f)) ∧ ∀ g ∈ M.fl, NoAttr D.K (D.ca c) (dN g)
  is : IsF D T
  gx : ∀ s k, (s, k) ∈ M.gx → mg (sN s) = some (.ref (D.xa k)) ∧ k < T.exs.length
  xs : ∀ (P : Program) (w : World) (base : Heap) c d, T.exs[c]? = some d → XcF P w D mg base T c d
  sg : ∀ s ∈ M.shapes, isN T.nst s.f = false
  df : ∀ f d, T.fns[f]? = some d → isN T.nst f = false → DefAt D F M T cs f d
  nd : ∀ f d, T.fns[f]? = some d → isN T.nst f = true → NAt D M T f d

theorem start_rg {D : Ad} {ι : List Addr} {H : Hp} {n : Nat} {N : List Str} {vs : List PV} {xs : List V} (hn : N.length = n) (r : RVs D ι H vs xs) : RG D ι H (startG n vs) (L2.start N xs) := by
  have hl := r.len
  refine ⟨?_, fun i v h => ?_⟩
  · unfold startG L2.start
    rw [List.length_append, List.length_append, List.length_map, List.length_map, List.length_replicate, List.length_replicate, hl, hn]
  · unfold startG at h
    unfold L2.start
    by_cases hi : i < vs.length
    · rw [List.getElem?_append_left (by rw [List.length_map]; exact hi), List.getElem?_map] at h
      rw [List.getElem?_append_left (by rw [List.length_map, hl]; exact hi), List.getElem?_map]
      cases e : vs[i]? with
      | none => rw [e] at h; cases h
      | some u =>
        rw [e] at h
        cases h
        obtain ⟨x, ex, rx⟩ := r.get e
        exact ⟨x, by rw [ex] <;> rfl, rx⟩
    · rw [List.getElem?_append_right (by rw [List.length_map]; omega)] at h
      have := List.mem_of_getElem? h
      rw [List.mem_replicate] at this
      cases this.2
theorem call_nst {T : Tab} {k f : Nat} {rn : List Nat} {vs : List PV} {S : Store} {Q : QV} {R : QX} (h : isN T.nst f = true) (z : wpCallA T (k + 1) rn f vs S Q R) : isN rn f = false ∧ bodyC T (wpCallA T k (f :: rn)) f vs S Q R := by
  have z : (match isN T.nst f with
    | true => onT (!isN rn f) (bodyC T (wpCallA T k (f :: rn)) f vs S Q R)
    | false => bodyC T (wpCallA T k rn) f vs S Q R) := z
  rw [h] at z
  obtain ⟨h1, h2⟩ := onT_ex z
  exact ⟨by simpa using h1, h2⟩
theorem call_top {T : Tab} {k f : Nat} {rn : List Nat} {vs : List PV} {S : Store} {Q : QV} {R : QX} (h : isN T.nst f = false) (z : wpCallA T (k + 1) rn f vs S Q R) : bodyC T (wpCallA T k rn) f vs S Q R := by
  have z : (match isN T.nst f with
    | true => onT (!isN rn f) (bodyC T (wpCallA T k (f :: rn)) f vs S Q R)
    | false => bodyC T (wpCallA T k rn) f vs S Q R) := z
  rw [h] at z
  exact z
theorem inn_of {T : Tab} : ∀ (k : Nat) (rn : List Nat) (f : Nat) (vs : List PV) (S : Store) (Q : QV) (R : QX), wpCallA T k rn f vs S Q R → ∃ d, T.fns[f]? = some d
  | 0, rn, f, vs, S, Q, R, h => h.elim
  | k + 1, rn, f, vs, S, Q, R, h => by
    cases e : isN T.nst f with
    | true =>
      obtain ⟨_, d, hd, _⟩ := call_nst e h
      exact ⟨d, hd⟩
    | false =>
      obtain ⟨d, hd, _⟩ := call_top e h
      exact ⟨d, hd⟩
theorem cnt_drop {D : Ad} {ι : List Addr} {H : Hp} {S : Store} {Qa : QV} {Q : VK} (cn : Cnt D ι H Qa Q) (L : Ly D ι H S) : Cnt D ι H (dropW S Qa) (lockR Q) := by
  intro ι' S' H' v x e L' r h
  obtain ⟨v', S1, dr, q⟩ := h
  cases dr with
  | same => exact .inl (cn ι' S' H' v x e L' r q)
  | drop c i =>
    obtain ⟨l, rfl, _⟩ := id e.pre
    exact .inl (cn ι _ H' v x (ext_cut e) (ly_cut L e L' c) (r.cut L.len i) q)
  | frz hv hs hge c i =>
    rename_i k xs
    subst hv
    obtain ⟨l, rfl, n1⟩ := id e.pre
    obtain ⟨a, ha, rfl⟩ := r
    obtain ⟨a', vs, ha', hp, t⟩ := L'.lst hs
    rw [ha] at ha'
    cases ha'
    have hal : a ∈ l := by
      rw [List.getElem?_append_right (by rw [L.len]; exact hge)] at ha
      exact List.mem_of_getElem? ha
    have h0 := n1 a hal
    refine .inr ⟨a, .lst vs, rfl, hp, trivial, fun od => ?_⟩
    refine cn ι _ (upd H' a (.frz od (.lst vs))) (.ls xs) (.ref a) (ext_out (ext_cut e) h0 fun u hu => ?_) (ly_out (ly_cut L e L' c) (not_mem_of_none L h0) hp) ⟨a, vs, rfl, ⟨od, upd_same⟩, (t.cut L.len i).exi (exi_out hp)⟩ q
    rw [hp] at hu
    cases hu
    exact fun z => z
theorem cnx_drop {D : Ad} {ι : List Addr} {H : Hp} {S : Store} {Ra : QX} {σc : L2.St} {W : WX} (cx : CnX D ι H Ra σc W) (L : Ly D ι H S) : CnX D ι H (dropX S Ra) σc W := by
  intro ι' S' H' x cls d e L' r h
  obtain ⟨S1, h, q⟩ := h
  rcases h with rfl | ⟨c, i⟩
  · exact cx ι' _ H' x cls d e L' r q
  · obtain ⟨l, rfl, _⟩ := id e.pre
    refine cx ι _ H' x cls d (ext_cut e) (ly_cut L e L' c) ⟨r.1, ?_⟩ q
    rcases r.2 with r | ⟨dd, fs', e1, e2, e3, e4⟩
    · exact .inl r
    · exact .inr ⟨dd, fs', e1, e2, e3, e4.cut L.len i⟩
theorem start_app {N : List Str} {xs ws : List V} : NdefX.startF N xs (ws.map some) = L2.start N (xs ++ ws) := by
  unfold NdefX.startF L2.start
  rw [List.map_append, List.append_assoc, List.length_append, List.length_map, Nat.sub_add_eq]
theorem isN_mem {l : List Nat} {k j : Nat} (h : isN l k = true) (n : isN l j = false) : k ≠ j := fun z => by
  rw [z, n] at h
  cases h
section
variable {P : Program} {w : World} {D : Ad} {F : Fd} {mg : Str → Option Value} {base : Heap} {T : Tab} {M : Nm} {cs : List (Addr × Addr)}
theorem lk_of (t : ∀ hd, Top { D with held := hd } F mg T M cs) {k : Nat} {rn : List Nat} {hd : List (Nat × Addr × Obj)} (hh : ∀ p ∈ hd, isN rn p.1 = true)
    (ih : ∀ (rn : List Nat) (hd : List (Nat × Addr × Obj)), (∀ p ∈ hd, isN rn p.1 = true) → (∀ f d, T.fns[f]? = some d → isN T.nst f = false → GFn P w D.K mg base (2 * k + 1) (D.fa f) (F.fd f) ((d.N.map sN).take d.np) (spC { D with held := hd } (wpCallA T k rn) f)) ∧
      ∀ f d hd', T.fns[f]? = some d → isN T.nst f = true → (∀ p ∈ hd', p.1 = f ∨ ∃ q ∈ hd, q.1 = p.1) → NFn P w mg base (2 * k + 1) { D with held := hd' } (wpCallA T k rn) f) :
    Lk P w { D with held := hd } F mg base T M M.fl (wpCallA T k rn) (2 * k + 1) := by
  have tt := t hd
  refine ⟨inn_of k rn, (ih rn hd hh).1, fun f d hd' h1 h2 h3 => (ih rn hd hh).2 f d hd' h1 h2 h3, fun j vs S Q R hj hc p hp => ?_, tt.gf, tt.gc, tt.gv, tt.nb, tt.sh, tt.ms, tt.is, tt.xs P w base, tt.gx, tt.sg, by omega⟩
  cases k with
  | zero => exact False.elim hc
  | succ k => exact isN_mem (hh p hp) (call_nst hj hc).1
theorem cnt_clo {ι : List Addr} {H : Hp} {S : Store} {Qa : QV} {Q : VK} {k : Nat} {caps : List PV} (cn : Cnt D ι H Qa Q) (L : Ly D ι H S) {ι' : List Addr} {H' : Hp} {S' : Store} {x : V} (e : Ext ι H ι' H') (L' : Ly D ι' H' S') (r : RV D ι' H' (.clo k caps) x) (h : dropW S Qa (.clo k caps) S') : Q x H' := by
  obtain ⟨v', S1, dr, q⟩ := h
  cases dr with
  | same => exact cn ι' S' H' _ x e L' r q
  | drop c i =>
    obtain ⟨l, rfl, _⟩ := id e.pre
    exact cn ι _ H' _ x (ext_cut e) (ly_cut L e L' c) (r.cut L.len i) q
  | frz hv _ _ _ _ => cases hv
/-- every def keeps its wish, however deep -/
theorem defs_all (t : ∀ hd, Top { D with held := hd } F mg T M cs) (TBs : ∀ p ∈ cs, LamX.TabB base mg p.1 p.2) : ∀ (k : Nat) (rn : List Nat) (hd : List (Nat × Addr × Obj)), (∀ p ∈ hd, isN rn p.1 = true) →
    (∀ f d, T.fns[f]? = some d → isN T.nst f = false → GFn P w D.K mg base (2 * k + 1) (D.fa f) (F.fd f) ((d.N.map sN).take d.np) (spC { D with held := hd } (wpCallA T k rn) f)) ∧
      ∀ f d hd', T.fns[f]? = some d → isN T.nst f = true → (∀ p ∈ hd', p.1 = f ∨ ∃ q ∈ hd, q.1 = p.1) → NFn P w mg base (2 * k + 1) { D with held := hd' } (wpCallA T k rn) f
  | 0, rn, hd, hh => ⟨fun f d h1 h2 => ⟨fun vs H Q E h => by obtain ⟨_, _, _, _, _, _, _, hc, _⟩ := h; exact hc.elim, fun A outer s H args us vs Q E _ _ _ _ _ h => by obtain ⟨_, _, _, _, _, _, _, hc, _⟩ := h; exact hc.elim⟩,
      fun f d hd' h1 h2 h3 => fun f cl c A outer s H us xs ws Q _ _ _ _ _ _ _ h => by obtain ⟨_, _, _, _, _, _, hc, _⟩ := h; exact hc.elim⟩
  | k + 1, rn, hd, hh => by
    have ih := fun rn hd hh => defs_all t TBs k rn hd hh
    refine ⟨fun f d hfd hnst => ?_, fun f d hd' hfd hnst hsub => ?_⟩
    · have LK := lk_of t hh ih
      obtain ⟨nm, qual, params, body, scope, dV, kV, doc, pm, cdv, ct, oc, an, od, osl, e1, lk, cd, sc, hnp, n, ok, htl⟩ := (t hd).df f d hfd hnst
      have e1 : F.fd f = PySem.W.fnOf nm qual params body scope dV kV doc pm an cdv ct := e1
      rw [e1] at lk ⊢
      have S := C8.fnScope_by sc
      have len : ∀ vs H Q E, spC { D with held := hd } (wpCallA T (k + 1) rn) f vs H Q E → vs.length = ((d.N.map sN).take d.np).length := fun xs H Q E h => by
        obtain ⟨ι, S0, vs, Qa, Ra, L, r, hc, _⟩ := h
        obtain ⟨d', hd', hl, _⟩ := call_top hnst hc
        rw [hfd] at hd'
        cases hd'
        rw [r.len, hl, List.length_take, List.length_map]
        omega
      refine gfn_by (lv := 2 * k + 2) lk cd S len fun A outer s H xs Q E s1 room grd h J => ?_
      obtain ⟨ι, S0, vs, Qa, Ra, L, r, hc, cn, cx⟩ := h
      obtain ⟨d', hd', hl, hw⟩ := call_top hnst hc
      rw [hfd] at hd'
      cases hd'
      have o : Okx (cxOf (L2.CX P w) P w D.K mg base (d.N.map sN) qual scope (D.fa f) cdv A outer s H E) { D with held := hd } F T M M.fl (wpCallA T k rn) (2 * k + 1) (fun cls dd _ H' => E cls dd H') ⟨d.N.map sN, scope, true⟩ :=
        ⟨rfl, rfl, rfl, S.nd, rfl, grd, room, takes_of rfl rfl rfl rfl, fun _ _ _ => rfl, LK⟩
      have fr : Fr (cxOf (L2.CX P w) P w D.K mg base (d.N.map sN) qual scope (D.fa f) cdv A outer s H E) := ⟨passes_of rfl, rfl, rfl⟩
      have ends : ∀ {nx : L2.St → Hp → Prop}, (∀ ι' S' H' σ' σc', Ext ι H ι' H' → Ly { D with held := hd } ι' H' S' → RG { D with held := hd } ι' H' σ' σc' → endW d.tail σ' (dropW S0 Qa) S' → nx σc' H') →
          CnE { D with held := hd } ι H (fun cls dd _ H' => E cls dd H') { nx := fun σ' S' => endW d.tail σ' (dropW S0 Qa) S', rt := dropW S0 Qa, ex := fun x _ S' => dropX S0 Ra x S' } { nx := nx, rt := lockR Q } :=
        fun h => ⟨h, cnt_drop cn L, fun _ _ _ _ _ _ _ _ q => q.elim, fun _ _ _ _ _ _ _ _ q => q.elim, fun ι' S' H' σ' σc' x cls dd e L' G rx q => cnx_drop cx L ι' S' H' x cls dd e L' rx q⟩
      have eb : body = body.take n ++ body.drop n := (List.take_append_drop n body).symm
      cases et : d.tail with
      | none =>
        rw [et] at htl
        have htl : body.drop n = [] := htl
        rw [htl, List.append_nil] at eb
        rw [← eb] at ok
        have ps := sndSs d.body o fr ok
        refine wpAny_mono (ps.run [] s1 (L2.start (d.N.map sN) xs) H { nx := fun _ H' => Q .non H', rt := lockR Q } J ⟨ι, S0, _, _, L, start_rg (List.length_map _) r, hw, ends fun ι' S' H' σ' σc' e L' G q => ?_⟩) (fun fl s' h => fin_of rfl h) fun e s' h => h
        rw [et] at q
        rcases cnt_drop cn L ι' S' H' .non .non e L' rfl q with q | ⟨a, u, z, _⟩
        · exact q
        · cases z
      | some kj =>
        rw [et] at htl
        rw [eb]
        refine rows_tail o fr rfl (fun _ => rfl) TBs (k := kj.1) (js := kj.2) htl d.body ok J L (start_rg (List.length_map _) r) hw (ends fun ι' S' H' σ' σc' e L' G q => ?_)
        rw [et] at q
        obtain ⟨caps, hc, q⟩ := onS_ex (show onS (capsOf σ' kj.2) fun caps => dropW S0 Qa (.clo kj.1 caps) S' from q)
        exact ⟨ι', S', σ', caps, L', G, hc, fun f H2 e2 L2 rv => cnt_clo cn L (e.trans e2) L2 rv q⟩
    · obtain ⟨ps, hsc, hnp, htl, hb, hbody⟩ := (t hd').nd f d hfd hnst
      have S := nsc_by hsc
      refine nfn_of (lv := 2 * k + 2) (D := { D with held := hd' }) (N := d.N.map sN) (ps := ps) S hb (fun ws xs H Q lw h => ?_) fun fa cl c A outer s H xs ws Q room grd lw h => ?_
      · obtain ⟨ι, S0, vs, Qa, L, r, hc, _⟩ := h
        obtain ⟨_, d', hd2, hl, _⟩ := call_nst hnst hc
        rw [hfd] at hd2
        cases hd2
        have := r.len
        rw [List.length_append] at this
        omega
      · obtain ⟨ι, S0, vs, Qa, L, r, hc, cn⟩ := h
        obtain ⟨hrn, d', hd2, hl, hw⟩ := call_nst hnst hc
        rw [hfd] at hd2
        cases hd2
        have hh' : ∀ p ∈ hd', isN (f :: rn) p.1 = true := fun p hp => by
          rcases hsub p hp with e | ⟨q, hq, e⟩
          · rw [e]
            exact if_pos rfl
          · have z := hh q hq
            rw [e] at z
            show (if f = p.1 then true else isN rn p.1) = true
            rw [z]
            split <;> rfl
        have LK := lk_of (P := P) (w := w) (base := base) t hh' ih
        have o : Okx (ncy P w mg base { D with held := hd' } f (d.N.map sN) fa cl c A outer s H) { D with held := hd' } F T M M.fl (wpCallA T k (f :: rn)) (2 * k + 1) (fun cls dd _ H' => False) ⟨d.N.map sN, (D.nf f).scope, true⟩ :=
          ⟨rfl, rfl, rfl, S.nd, rfl, grd, room, takes_of (E := fun _ _ _ => False) rfl rfl rfl rfl, fun _ _ h => decide_eq_true h, LK⟩
        have fr : Fr (ncy P w mg base { D with held := hd' } f (d.N.map sN) fa cl c A outer s H) := ⟨passes_of rfl, rfl, rfl⟩
        have cx : ∀ {σc : L2.St}, CnX { D with held := hd' } ι H (fun x S1 => dropX S0 (fun _ _ => False) x S1) σc (fun cls dd _ H' => False) := fun {σc} ι' S' H' x cls dd e L' rx q => by
          obtain ⟨_, _, q⟩ := q
          exact q
        rw [start_app]
        rcases hbody with ⟨b, eb, ok⟩ | ⟨e, re, eb, ed, ok⟩
        · refine .inl ⟨b, eb, _, sndSs d.body o fr ok, ι, S0, _, _, L, start_rg (List.length_map _) r, hw, ⟨fun ι' S' H' σ' σc' e L' G q => ?_, cnt_drop cn L, fun _ _ _ _ _ _ _ _ q => q.elim, fun _ _ _ _ _ _ _ _ q => q.elim, fun ι' S' H' σ' σc' x cls dd e L' G rx q => cx (σc := σc') ι' S' H' x cls dd e L' rx q⟩⟩
          rw [htl] at q
          rcases cnt_drop cn L ι' S' H' .non .non e L' rfl q with q | ⟨a, u, z, _⟩
          · exact q
          · cases z
        · rw [ed] at hw
          exact .inr ⟨e, eb, _, (sndE re o ok).1, ι, S0, _, _, _, L, start_rg (List.length_map _) r, hw, cnt_drop cn L, cx⟩
theorem defs_ok (t : ∀ hd, Top { D with held := hd } F mg T M cs) (TBs : ∀ p ∈ cs, LamX.TabB base mg p.1 p.2) (k f : Nat) (d : FDef) (hd : T.fns[f]? = some d) (hn : isN T.nst f = false) :
    GFn P w D.K mg base (2 * k + 1) (D.fa f) (F.fd f) ((d.N.map sN).take d.np) (spC { D with held := [] } (wpCall T [] k) f) := (defs_all t TBs k [] [] (fun p hp => nomatch hp)).1 f d hd hn
end
end Rp
/-! # The law's call, from a promise that wants no guards -/
namespace Rp
open PySem PySem.Spec PyProof.Rows L2

/-- the script and the tables of code objects, no more -/
def OnlyT (cs : List (Addr × Addr)) (H : Hp) : Prop := ∀ b, H b = none ∨ (∃ o xs, H b = some (.frz o (.lst xs))) ∨ (b ∈ cs.map (·.2) ∧ H b = some (.tbl #[]))
abbrev tabZ : Obj := { cls := .none, data := .fields #[] }
theorem law_run {P : Program} {w : World} {K : PySem.W.Frag} {mg mb : Str → Option Value} {k : Nat} {fa a : Addr} {fd : FuncData} {x : Str} {sp : Sp} {s : Shared} {vs : List Value} {ns : List Int} {cs : List (Addr × Addr)} (KI : K.In s.heap) (glob : s.heap.Ns mainGlobals mg) (blt : s.heap.Ns builtinsNs mb) (std : ∀ y : Str, y ≠ "__name__" → mb y = bootBuiltins y) (lim0 : s.heap.NoLimit) (gens : s.gens = #[])
    (bmain : ∃ (bm : Addr) (ob : Obj), mg "__builtins__" = some (.ref bm) ∧ bm ≠ builtinsNs ∧ s.heap.get? bm = some ob ∧ ob.cls = .type "module" ∧ ob.dict = some builtinsNs ∧ ob.data = .plain)
    (tabs : ∀ p ∈ cs, s.heap.get? p.2 = some tabZ) (notK : ∀ p ∈ cs, K.lookup p.2 = none) (heads : ∀ p ∈ cs, PySem.W.CodeHd s.heap p.1 p.2)
    (at_ : s.heap.get? a = some { cls := .type "list", data := .seq vs.toArray }) (inz : IntsAre vs ns) (short : ns.length ≤ sizeLine) (room : Room k callerA) (F : ∀ base : Heap, K.In base → base.Ns mainGlobals mg → (∀ p ∈ cs, LamX.TabB base mg p.1 p.2) → GFn P w K mg base k fa fd [x] sp) (bind : ∀ (s : Shared) (u : Value), BindsTo s fd ⟨[u], []⟩ [(x, u)])
    (hs : ∀ H : Hp, OnlyT cs H → (∀ p ∈ cs, H p.2 = some (.tbl #[])) → SqL K H a (ns.map V.int) → sp [.ref a] H (fun v _ => v = .bl true) fun _ _ _ => False) :
    codeAny (model P w) callerA (.call (.ref fa) ⟨[.ref a], []⟩) (fun r s' => r = .ok (.ret (.bool true)) ∧ OldK s.heap s'.heap ∧ s'.os = s.os ∧ AllBare s'.gens) s := by
  have lens := inz.length
  have tab : ∀ b ∈ cs.map (·.2), s.heap.get? b = some tabZ ∧ K.lookup b = none := fun b hb => by
    obtain ⟨p, hp, rfl⟩ := List.mem_map.mp hb
    exact ⟨tabs p hp, notK p hp⟩
  have aT : a ∉ cs.map (·.2) := fun z => by
    have e := (tab a z).1
    rw [at_] at e
    have e2 : Value.type "list" = Value.none := congrArg Obj.cls (Option.some.inj e)
    cases e2
  have go : ∀ H : Hp, OnlyT cs H → (∀ p ∈ cs, H p.2 = some (.tbl #[])) → SqL K H a (ns.map V.int) → HOk P w H s.heap → (∀ b, H b ≠ none → (b = a ∧ K.lookup a = none) ∨ b ∈ cs.map (·.2)) →
      codeAny (model P w) callerA (.call (.ref fa) ⟨[.ref a], []⟩) (fun r s' => r = .ok (.ret (.bool true)) ∧ OldK s.heap s'.heap ∧ s'.os = s.os ∧ AllBare s'.gens) s := by
    intro H only tt sq hok one
    -- an object of another kind than a list's, a table's is not told
    have other : ∀ {b : Addr} {o : Obj}, s.heap.get? b = some o → o.cls ≠ .type "list" → o ≠ tabZ → H b = none := fun {b o} e n1 n2 => by
      cases q : H b with
      | none => rfl
      | some u =>
        rcases one b (by rw [q]; simp) with ⟨rfl, _⟩ | z
        · rw [at_] at e
          cases e
          exact absurd rfl n1
        · rw [(tab b z).1] at e
          exact absurd (Option.some.inj e).symm n2
    have dictOk : ∀ {b : Addr} {o : Obj} {es : Array DictEntry} {ep : Nat}, s.heap.get? b = some o → o.data = .dict es ep → H b = none := fun {b o es ep} e d => by
      cases q : H b with
      | none => rfl
      | some u =>
        rcases one b (by rw [q]; simp) with ⟨rfl, _⟩ | z
        · rw [at_] at e
          cases e
          exact nomatch (show Data.seq vs.toArray _ = Data.dict es ep from d)
        · rw [(tab b z).1] at e
          cases e
          exact nomatch (show Data.fields #[] = Data.dict es ep from d)
    have ns' : ∀ {b : Addr} {m : Str → Option Value}, s.heap.Ns b m → (hidT s.heap H).Ns b m := fun {b m} h => by
      obtain ⟨o, es, ep, e, d, r⟩ := h
      exact ⟨o, es, ep, hidT_get e (dictOk e d), d, r⟩
    have kb : K.In (hidT s.heap H) := fun b o e => hidT_get (KI b o e) (by
      cases q : H b with
      | none => rfl
      | some u =>
        rcases one b (by rw [q]; simp) with ⟨rfl, hn⟩ | z
        · rw [hn] at e
          cases e
        · rw [(tab b z).2] at e
          cases e)
    have md : Mod K mg (hidT s.heap H) := ⟨kb, ns' glob, ⟨mb, ns' blt, std⟩, by
      obtain ⟨mc, h1, h2⟩ := lim0
      exact ⟨mc, ns' h1, h2⟩⟩
    have TB : ∀ p ∈ cs, LamX.TabB (hidT s.heap H) mg p.1 p.2 := fun p hp => by
      refine ⟨?_, ?_, fun z => ?_⟩
      · obtain ⟨ob, us, file, tf, flags, tg, inF, text, tt2, g1, g2, gr⟩ := heads p hp
        exact ⟨ob, us, file, tf, flags, tg, inF, text, tt2, hidT_get g1 (other g1 (by rw [g2]; decide) (fun z => by rw [z] at g2; cases g2)), g2, gr⟩
      · obtain ⟨bm, ob, b1, b2, b3, b4, b5⟩ := bmain
        refine ⟨bm, ob, b1, b2, fun z => ?_, fun z => ?_, hidT_get b3 (other b3 (by rw [b4]; decide) (fun z => by rw [z] at b4; cases b4)), b4, b5⟩
        · obtain ⟨og, es, ep, e, d, _⟩ := glob
          rw [z, e] at b3
          cases b3
          rw [d] at b5
          cases b5.2
        · rw [z, tabs p hp] at b3
          cases b3
          cases b4
      · obtain ⟨og, es, ep, e, d, _⟩ := glob
        rw [z, tabs p hp] at e
        cases e
        cases d
    have nil : ∀ b : Addr, b ∉ ([] : List Addr) := fun b z => absurd z (by simp)
    have e0 : Env0 P w K mg (hidT s.heap H) callerA [] s H := ⟨rfl, md, fun b o e => of_hidT e, Nat.le_of_eq (hidT_size _ _), trivial, fun b hb => absurd hb (nil b), hok, .of_eq gens⟩
    refine codeAny_mono ((F _ kb (ns' glob) TB).run callerA [] s H ⟨[.ref a], []⟩ [.ref a] [.ref a] _ _ room rfl e0 (bind s (.ref a)) (.cons rfl .nil) (hs H only tt sq)) fun r s' h => ?_
    match r, h with
    | .error e, h =>
      obtain ⟨_, _, _, _, _, _, _, _, _, _, _, _, h⟩ := h
      exact h.elim
    | .ok .next, h => exact False.elim h
    | .ok .brk, h => exact False.elim h
    | .ok .cont, h => exact False.elim h
    | .ok (.ret u), h =>
      obtain ⟨v, H', os, bare, un, hok', ru, q⟩ := h
      have q : v = .bl true := q
      subst q
      obtain rfl : u = Value.bool true := ru
      have kp : ∀ b o, b ∉ cs.map (·.2) → s.heap.get? b = some o → s'.heap.get? b = some o := fun b o nb e => by
        rcases only b with q | ⟨ob, xs, q⟩ | ⟨q, _⟩
        · exact un.keep b o e q (nil b) (by simp)
        · obtain ⟨e1, _⟩ := hok b _ q
          obtain ⟨e2, _⟩ := hok' b _ (un.frzs b ob _ q)
          rw [e] at e1
          cases e1
          exact e2
        · exact absurd q nb
      have grow : ∀ p ∈ cs, ∃ m : Array Value, s'.heap.get? p.2 = some { cls := .none, data := .fields m } := fun p hp => by
        obtain ⟨m, z⟩ := un.tbls p.2 #[] (tt p hp)
        exact ⟨_, hok' p.2 _ z⟩
      refine ⟨rfl, ⟨fun b o e => ?_, fun b o e => ?_⟩, os, bare⟩
      · by_cases hb : b ∈ cs.map (·.2)
        · obtain ⟨p, hp, rfl⟩ := List.mem_map.mp hb
          obtain ⟨m, hm⟩ := grow p hp
          rw [tabs p hp] at e
          cases e
          have ct := ((heads p hp).tab (tabs p hp)).isCodeTable
          exact .inr (.inl ⟨ct, rfl, #[], m, rfl,
            by rw [Array.empty_append]; exact hm⟩)
        · exact .inl (kp b o hb e)
      · by_cases hb : b ∈ cs.map (·.2)
        · obtain ⟨p, hp, rfl⟩ := List.mem_map.mp hb
          obtain ⟨m, hm⟩ := grow p hp
          exact ⟨_, hm⟩
        · exact ⟨o, kp b o hb e⟩
  have vi := vals_ints inz
  have mem : ∀ p ∈ cs, p.2 ∈ cs.map (·.2) := fun p hp => List.mem_map_of_mem hp
  cases hk : K.lookup a with
  | some o =>
    have e := KI a o hk
    rw [at_] at e
    cases e
    refine go (fun b => if b ∈ cs.map (·.2) then some (.tbl #[]) else none) (fun b => ?_) (fun p hp => if_pos (mem p hp)) (.inr ⟨_, vs.toArray, _, hk, rfl, rfl, rfl, by rw [List.size_toArray, lens]; exact short, by simpa using vi⟩) (fun b u z => ?_) (fun b z => ?_)
    · by_cases h : b ∈ cs.map (·.2)
      · exact .inr (.inr ⟨h, if_pos h⟩)
      · exact .inl (if_neg h)
    · by_cases h : b ∈ cs.map (·.2)
      · have z := (if_pos h).symm.trans z
        cases z
        exact (tab b h).1
      · exact nomatch (if_neg h).symm.trans z
    · by_cases h : b ∈ cs.map (·.2)
      · exact .inr h
      · exact absurd (if_neg h) z
  | none =>
    refine go (fun b => if b = a then some (.frz { cls := .type "list", data := .seq vs.toArray } (.lst (ns.map V.int))) else if b ∈ cs.map (·.2) then some (.tbl #[]) else none) (fun b => ?_) (fun p hp => ?_) (.inl (.inr ⟨_, if_pos rfl⟩)) (fun b u z => ?_) fun b z => ?_
    · by_cases h : b = a
      · exact .inr (.inl ⟨_, _, if_pos h⟩)
      · by_cases h2 : b ∈ cs.map (·.2)
        · exact .inr (.inr ⟨h2, (if_neg h).trans (if_pos h2)⟩)
        · exact .inl ((if_neg h).trans (if_neg h2))
    · exact (if_neg fun z => aT (by rw [← z]; exact mem p hp)).trans (if_pos (mem p hp))
    · by_cases h : b = a
      · have z := (if_pos h).symm.trans z
        cases z
        subst h
        exact ⟨at_, by rw [List.length_map]; exact short, vs, _, vi, at_⟩
      · have z := (if_neg h).symm.trans z
        by_cases h2 : b ∈ cs.map (·.2)
        · have z := (if_pos h2).symm.trans z
          cases z
          exact (tab b h2).1
        · exact nomatch (if_neg h2).symm.trans z
    · by_cases h : b = a
      · exact .inl ⟨h, hk⟩
      · by_cases h2 : b ∈ cs.map (·.2)
        · exact .inr h2
        · exact absurd ((if_neg h).trans (if_neg h2)) z
/-- the walk of the law's def -/
theorem law_walk {l : PySem.W.OpenLaw} {n : Nat} {q : Program} {loose : List Str} {XP : (Str → Option Value) → Heap → Prop} {YP : World → Heap → Prop} {d : DefRec} {K : Params → PySem.W.Frag} {x : Str} {ts : List Addr} (hn : l.most = some n) (hn2 : n ≤ sizeLine) (hdf : d.params.defaults = []) (hY : ∀ (w : World) (h : Heap), YP w h → (K w.params).In h) (hT : ∀ (w : World) (h : Heap), YP w h → ∀ P ∈ ts, h.get? P = some tabZ)
    (G : ∀ (w : World) (mg : Str → Option Value) (fa : Addr) (h : Heap), (K w.params).In h → h.Ns mainGlobals mg → mg d.name = some (.ref fa) →
      ∃ (k : Nat) (fd : FuncData) (sp : Sp) (cs : List (Addr × Addr)), Room k callerA ∧ (∀ p ∈ cs, p.2 ∈ ts) ∧ (∀ p ∈ cs, (K w.params).lookup p.2 = none) ∧ (∀ p ∈ cs, PySem.W.codeHdIn (K w.params) p.1 p.2 = true) ∧ (∀ (s : Shared) (u : Value), BindsTo s fd ⟨[u], []⟩ [(x, u)]) ∧ (∀ base : Heap, (K w.params).In base → base.Ns mainGlobals mg → (∀ p ∈ cs, LamX.TabB base mg p.1 p.2) → GFn l.prog w (K w.params) mg base k fa fd [x] sp) ∧
        ∀ (H : Hp) (a : Addr) (ns : List Int), ns.length ≤ n → (∀ z ∈ ns, Builtin.Int.intBits z ≤ 1048576) → OnlyT cs H → (∀ p ∈ cs, H p.2 = some (.tbl #[])) → SqL (K w.params) H a (ns.map V.int) → sp [.ref a] H (fun v _ => v = .bl true) fun _ _ _ => False) :
    PySem.W.WalkO q loose XP YP l.row.toRowW d [] (fun f vs => PySem.call f vs) := by
  refine Att.attach_callB hn hdf fun w s0 s1 mg mb fa o pm cd doc a vs ns B Y ho hd hcd hmg hobj hints hlen hbits hg => ?_
  have KI := hY w _ Y
  obtain ⟨k, fd, sp, cs, room, inT, notK, hc, bind, F, hs⟩ := G w mg fa _ KI B.T.g hmg
  exact law_run KI B.T.g B.T.b B.T.builtins B.T.nolimit hg B.T.bmain (fun p hp => hT w _ Y p.2 (inT p hp)) notK (fun p hp => PySem.W.codeHd_of_K KI (hc p hp)) hobj hints (Nat.le_trans hlen hn2) room F bind fun H only tt sq => hs H a ns hlen hbits only tt sq
/-- the law's promise out of its plain law -/
theorem law_sp {D : Ad} {T : Tab} {k f : Nat} {H : Hp} {a : Addr} {ns : List Int} {cs : List (Addr × Addr)} (only : OnlyT cs H) (tt : ∀ p ∈ cs, H p.2 = some (.tbl #[])) (ht : ∀ p ∈ D.tabs, p.1 ∈ cs.map (·.2)) (sq : SqL D.K H a (ns.map V.int)) (h : wpCall T [] k f [.scr (ns.map .int)] [] (fun v _ => v = .bl true) (fun _ _ => False)) :
    spC D (wpCall T [] k) f [.ref a] H (fun v _ => v = .bl true) fun _ _ _ => False := by
  have sf : SqF D.K H a (ns.map V.int) := by
    rcases sq with (q | ⟨o, q⟩) | q
    · rcases only a with z | ⟨o, xs, z⟩ | ⟨_, z⟩
      · rw [q] at z; cases z
      · rw [q] at z; cases z
      · rw [q] at z; cases z
    · exact .inl ⟨o, q⟩
    · exact .inr (.inr q)
  have tb : NdefX.TabsN D.tabs H := fun p hp => by
    obtain ⟨q, hq, e⟩ := List.mem_map.mp (ht p hp)
    rw [← e]
    exact NdefX.TabN.nil (tt q hq)
  refine ⟨[], [], [.scr (ns.map .int)], _, _, ⟨rfl, .nil, fun i o h => by simp at h, tb⟩, .cons ⟨a, _, rfl, sf, RVs.of_ints ns⟩ .nil, h, fun ι' S' H' v x e L r q => ?_, fun _ _ _ _ _ _ _ _ _ q => q.elim⟩
  have q : v = .bl true := q
  subst q
  exact r
end Rp
/-! # The facts of a text's classes, as its top has them -/
namespace Rp
open PySem PySem.Spec PyProof.Rows L2

theorem lookup_all {α β : Type} [BEq α] [LawfulBEq α] {P : α → β → Prop} : ∀ {l : List (α × β)}, (∀ p ∈ l, P p.1 p.2) → ∀ m f, l.lookup m = some f → P m f
  | [], _, m, f, h => by cases h
  | (a, b) :: r, hp, m, f, h => by
    rw [List.lookup_cons] at h
    split at h
    · rename_i e
      have e := eq_of_beq e
      subst e
      cases h
      exact hp (m, b) (List.mem_cons_self ..)
    · exact lookup_all (fun p hq => hp p (List.mem_cons_of_mem _ hq)) m f h
theorem kit_own {K : PySem.W.Frag} {t : Value} {C : Addr} {b : Bool} (ic : PySem.W.isClsIn K C = true) (ty : PySem.W.typeIn K (.ref C) = some (.type "type")) (s : PySem.W.subIn K t (.ref C) = some b) (ne : (t == .ref C) = false) : PySem.W.kitOne K t (.ref C) = some b := by
  unfold PySem.W.kitOne PySem.W.kitCls
  rw [ne]
  have ic : (PySem.W.clsIn K C).isSome = true := ic
  simp only [Bool.false_eq_true, if_false, ic, ty]
  simpa using s
theorem kit_self {K : PySem.W.Frag} {C : Addr} : PySem.W.kitOne K (.ref C) (.ref C) = some true := by
  unfold PySem.W.kitOne
  rw [if_pos (by simp)]
theorem kit_bt {K : PySem.W.Frag} {C : Addr} {b : BT} {r : Bool} (hb : b ≠ .non) (s : PySem.W.subIn K (.ref C) (.type b.nm) = some r) : PySem.W.kitOne K (.ref C) (.type b.nm) = some r := by
  have hm : PySem.W.kitMeta b.nm = true := by
    cases b <;> first | exact absurd rfl hb | decide +kernel
  unfold PySem.W.kitOne PySem.W.kitCls
  have ne : (Value.ref C == Value.type b.nm) = false := by
    cases b <;> rfl
  rw [ne]
  simp only [Bool.false_eq_true, if_false, hm, if_true]
  exact s
/-- a class's facts -/
structure CF (K : PySem.W.Frag) (C : Addr) : Prop where
  cl : Cls K C
  ca : PySem.W.findIn K (.ref C) "__class__" = some (some (.builtin "object.__class__"))
  mo : PySem.W.mroIn K C (.type "object") = some true
  ic : PySem.W.isClsIn K C = true
  ty : PySem.W.typeIn K (.ref C) = some (.type "type")
  ci : ∀ b : BT, PySem.W.subIn K (.ref C) (.type b.nm) = some false
  ib : ∀ b : BT, PySem.W.subIn K (.type b.nm) (.ref C) = some false
theorem cf_mk {K : PySem.W.Frag} {C : Addr} (pg : PySem.W.plainGet K C Str.empty = true) (hd : PySem.W.hasDictIn K C = true) (po : PySem.W.plainOver K C = true) (sa : PySem.W.findIn K (.ref C) "__setattr__" = some (some (.builtin "object.__setattr__")))
    (ca : PySem.W.findIn K (.ref C) "__class__" = some (some (.builtin "object.__class__"))) (mo : PySem.W.mroIn K C (.type "object") = some true) (ic : PySem.W.isClsIn K C = true) (ty : PySem.W.typeIn K (.ref C) = some (.type "type"))
    (c0 : PySem.W.subIn K (.ref C) (.type "NoneType") = some false) (c1 : PySem.W.subIn K (.ref C) (.type "int") = some false) (c2 : PySem.W.subIn K (.ref C) (.type "bool") = some false) (c3 : PySem.W.subIn K (.ref C) (.type "str") = some false) (c4 : PySem.W.subIn K (.ref C) (.type "tuple") = some false) (c5 : PySem.W.subIn K (.ref C) (.type "list") = some false) (c6 : PySem.W.subIn K (.ref C) (.type "dict") = some false)
    (b0 : PySem.W.subIn K (.type "NoneType") (.ref C) = some false) (b1 : PySem.W.subIn K (.type "int") (.ref C) = some false) (b2 : PySem.W.subIn K (.type "bool") (.ref C) = some false) (b3 : PySem.W.subIn K (.type "str") (.ref C) = some false) (b4 : PySem.W.subIn K (.type "tuple") (.ref C) = some false) (b5 : PySem.W.subIn K (.type "list") (.ref C) = some false) (b6 : PySem.W.subIn K (.type "dict") (.ref C) = some false) : CF K C :=
  ⟨⟨pg, hd, po, sa⟩, ca, mo, ic, ty, fun b => by cases b <;> assumption, fun b => by cases b <;> assumption⟩
/-- what isinstance asks, of all classes at once -/
theorem isf_mk {D : Ad} {T : Tab} (cf : ∀ c cd, T.cls[c]? = some cd → CF D.K (D.ca c)) (hn : T.cls = [] ∨ (PySem.W.specialIn D.K (.builtin "object.__class__") "__get__" = some (some (.builtin "getset_descriptor.__get__")) ∧ PySem.W.takesIn D.K (.builtin "object.__class__") = some true))
    (up : ∀ (c : Nat) (cd : CDef), T.cls[c]? = some cd → cd.up = [c]) (ii : ∀ c d cd cd', T.cls[c]? = some cd → T.cls[d]? = some cd' → c ≠ d → D.ca c ≠ D.ca d ∧ PySem.W.subIn D.K (.ref (D.ca c)) (.ref (D.ca d)) = some false)
    (ne : ∀ (c : Nat) (cd : CDef), T.cls[c]? = some cd → (cd.ms.lookup nEq).isSome = true → PySem.W.findIn D.K (.ref (D.ca c)) "__ne__" = some (some (.builtin "object.__ne__")))
    (fm : ∀ (c : Nat) (cd : CDef), T.cls[c]? = some cd → (cd.ms.lookup nStr).isSome = true → PySem.W.findIn D.K (.ref (D.ca c)) "__format__" = some (some (.builtin "object.__format__"))) : IsF D T :=
  ⟨fun c cd h => (cf c cd h).cl, fun c cd h => ⟨(cf c cd h).ca, (cf c cd h).mo⟩, hn, fun c cd b h hb => kit_bt hb ((cf c cd h).ci b), fun c b h => by
      obtain ⟨cd, e⟩ := Option.isSome_iff_exists.mp h
      exact kit_own (cf c cd e).ic (cf c cd e).ty ((cf c cd e).ib b) rfl, ne, fm, fun c cd b h => (cf c cd h).ci b, fun c d cd e h => by
      obtain ⟨cd', e'⟩ := Option.isSome_iff_exists.mp h
      rw [up c cd e]
      by_cases q : c = d
      · subst q
        rw [kit_self]
        simp
      · obtain ⟨h1, h2⟩ := ii c d cd cd' e e' q
        rw [kit_own (cf d cd' e').ic (cf d cd' e').ty h2 (by simpa using h1)]
        simp
        exact Ne.symm q⟩
end Rp
/-! # Functions that nested defs made: what stands in the text -/
namespace Rp
open PySem PySem.Spec PyProof.Rows L2
/-- no names of types -/
def noAnn (a : Arguments) : Bool := (a.args ++ a.posonlyargs ++ a.vararg.toList ++ a.kwonlyargs ++ a.kwarg.toList).all fun x => x.annotation.isNone
theorem noAnn_of {a : Arguments} (h : noAnn a = true) (env : Env) : annTrees a none env = [] := by
  have key : ∀ l : List Arg, (∀ x ∈ l, x.annotation.isNone = true) → annotationsOf l env = [] := fun l => by
    induction l with
    | nil => intro _; rw [annotationsOf]
    | cons x r ih =>
      intro z
      have hx := z x (List.mem_cons_self ..)
      obtain ⟨nm, an, ps⟩ := x
      cases an with
      | some _ => cases hx
      | none =>
        rw [annotationsOf]
        exact ih fun y hy => z y (List.mem_cons_of_mem _ hy)
  unfold noAnn at h
  rw [List.all_eq_true] at h
  obtain ⟨po, ar, va, ko, kd, kwa, df⟩ := a
  unfold annTrees
  show annotationsOf (ar ++ po ++ va.toList ++ ko ++ kwa.toList) env ++ _ = _
  rw [key _ h, evalOpt]
  rfl
/-- the words of the function that is made at a body's end -/
def tlW (qual : Str) (fr : List Str) : List Stmt → NW
  | [.FunctionDef name a b _ _ _ sc _ _ _, _] => ⟨name, qual ++ name, a, .stmts b, sc, fr⟩
  | [.Return (some (.Lambda a b sc _)) _] => ⟨"<lambda>", qual ++ "<lambda>", a, .expr b, sc, fr⟩
  | _ => default
def tailB (N : List Str) (scope : Scope) (fr : List Str) (js : List Nat) (i : Nat) : List Stmt → Bool
  | [.FunctionDef name a b [] none [] sc none bd pos, .Return (some (.Name x p1)) p2] => decide (bd = name) && decide (x = name) && NdefX.ndefB scope sc fr && a.defaults.isEmpty && a.kw_defaults.isEmpty && noAnn a &&
      decide (N[i]? = some name) && decide (scope.names.lookup name = some .local) && decide (js.map (fun j => N[j]?) = fr.map some) && !js.contains i && !(name == ("__debug__" : Str)) && !(name == ("__classdict__" : Str))
  | [.Return (some (.Lambda a b sc pos)) p2] => NdefX.ndefB scope sc fr && a.defaults.isEmpty && a.kw_defaults.isEmpty && decide (js.map (fun j => N[j]?) = fr.map some)
  | _ => false
theorem tail_by {D : Ad} {k : Nat} {js : List Nat} {N : List Str} {scope : Scope} {qual : Str} {cs : List (Addr × Addr)} {code : Value} {fr : List Str} {i : Nat} {c P : Addr} : ∀ (ss : List Stmt), tailB N scope fr js i ss = true → D.nf k = tlW qual fr ss → code = .ref c → (c, P) ∈ cs → (P, fun _ _ => (D.nf k).qual) ∈ D.tabs →
    (∀ p ∈ D.tabs, p.1 = P → p.2 = fun _ _ => (D.nf k).qual) → TailAt D k js N scope qual cs code ss := by
  intro ss h hn hc hcs hm hu
  unfold tailB at h
  split at h
  · rename_i name a b sc bd pos x p1 p2
    simp only [Bool.and_eq_true, decide_eq_true_eq, Bool.not_eq_true', List.isEmpty_iff] at h
    obtain ⟨⟨⟨⟨⟨⟨⟨⟨⟨⟨⟨h1, h2⟩, h3⟩, h4⟩, h5⟩, h6⟩, h7⟩, h8⟩, h9⟩, h10⟩, h11⟩, h12⟩ := h
    subst h1
    subst h2
    have hn : D.nf k = ⟨x, qual ++ x, a, .stmts b, sc, fr⟩ := hn
    have hq : (D.nf k).qual = qual ++ x := by rw [hn]
    exact .fdef (st := .FunctionDef x a b [] none [] sc none x pos) rfl hn hc hcs hm hq hu h3 h4 h5 (fun env => noAnn_of h6 env) h7 h8 h9 (fun z => by
      rw [List.contains_iff_mem.mpr z] at h10
      cases h10) h11 h12
  · rename_i a b sc pos p2
    simp only [Bool.and_eq_true, decide_eq_true_eq, List.isEmpty_iff] at h
    obtain ⟨⟨⟨h1, h2⟩, h3⟩, h4⟩ := h
    have hn : D.nf k = ⟨"<lambda>", qual ++ "<lambda>", a, .expr b, sc, fr⟩ := hn
    have hq : (D.nf k).qual = qual ++ "<lambda>" := by rw [hn]
    exact .lam hn hc hcs hm hq hu h1 (fun env => by
      obtain ⟨po, ar, va, ko, kd, kwa, df⟩ := a
      have h2 : df = [] := h2
      have h3 : kd = [] := h3
      subst h2
      subst h3
      rw [defaultsOf, evalEach, evalEachOpt]) h4
  · cases h
/-- .. and what is in it -/
def natB (M : Nm) (T : Tab) (ps : List Str) (d : FDef) (w : NW) : Bool :=
  nscB (d.N.map sN) ps w.fr w.scope && decide (d.np = ps.length + w.fr.length) && d.tail.isNone && (match w.body with
    | .stmts b => okSs M T ⟨d.N.map sN, w.scope, true⟩ d.body b
    | .expr e => (match d.body with
      | .cons (.ret r) .nil => okE M T ⟨d.N.map sN, w.scope, true⟩ r e
      | _ => false))
theorem nat_by {D : Ad} {M : Nm} {T : Tab} {k : Nat} {d : FDef} {w : NW} (ps : List Str) (h : natB M T ps d w = true) (e : D.nf k = w) (hb : ∀ (cl : List (Str × Addr)) (c : Addr) (doc pm ctv : Value) (us : List Value), us.length = ps.length → bindArgs (w.fd cl c doc pm ctv) ⟨us, []⟩ = pure (ps.zip us)) : NAt D M T k d := by
  subst e
  unfold natB at h
  simp only [Bool.and_eq_true, decide_eq_true_eq, Option.isNone_iff_eq_none] at h
  obtain ⟨⟨⟨h1, h2⟩, h3⟩, h4⟩ := h
  refine ⟨ps, h1, h2, h3, hb, ?_⟩
  split at h4
  · rename_i b eb
    exact .inl ⟨b, eb, h4⟩
  · rename_i ex eb
    split at h4
    · rename_i r er
      exact .inr ⟨ex, r, eb, er, h4⟩
    · cases h4
end Rp
/-! # Plain laws: the tools -/
namespace Rp
open PySem
theorem onD {p P : Prop} [Decidable p] (h : p) (q : P) : onT (decide p) P := onT_of (decide_eq_true h) q

/-! ### rows of numbers -/
abbrev nums (ns : List Int) : List PV := ns.map PV.int
theorem nums_app (a b : List Int) : nums (a ++ b) = nums a ++ nums b := List.map_append
theorem idx_last {α : Type} {L : List α} {b : α} : idx (L ++ [b]) (-1) = some b := by
  have l : (L ++ [b]).length = L.length + 1 := by simp
  have h : (0 : Int) ≤ ((L ++ [b]).length : Int) + -1 := by omega
  have e : (((L ++ [b]).length : Int) + -1).toNat = L.length := by omega
  unfold idx
  rw [if_neg (by decide), if_pos h, e, List.getElem?_append_right (Nat.le_refl _), Nat.sub_self]
  rfl
theorem idx_lastN {L : List Int} {b : Int} : idx (nums (L ++ [b])) (-1) = some (.int b) := by
  rw [nums_app]
  exact idx_last
theorem idx_some {α : Type} {xs : List α} {k : Int} (h0 : 0 ≤ k) (h1 : k < xs.length) : ∃ v, v ∈ xs ∧ idx xs k = some v := by
  have h : k.toNat < xs.length := by omega
  refine ⟨xs[k.toNat], List.getElem_mem h, ?_⟩
  unfold idx
  rw [if_pos h0, List.getElem?_eq_getElem h]
theorem idx_nat {α : Type} {xs : List α} {k : Nat} : idx xs (k : Int) = xs[k]? := by
  unfold idx
  rw [if_pos (Int.natCast_nonneg k)]
  rfl
theorem idx_map {α β : Type} {f : α → β} {xs : List α} {k : Int} {v : α} (h : idx xs k = some v) : idx (xs.map f) k = some (f v) := by
  unfold idx at h ⊢
  simp only [List.getElem?_map, List.length_map]
  split
  · rename_i c
    rw [if_pos c] at h
    rw [h]; rfl
  · rename_i c
    rw [if_neg c] at h
    split
    · rename_i c2
      rw [if_pos c2] at h
      rw [h]; rfl
    · rename_i c2
      rw [if_neg c2] at h
      cases h
theorem ints_nums : ∀ ns : List Int, intsOf (nums ns) = some ns
  | [] => rfl
  | n :: ns => by
    show (intsOf (nums ns)).map (n :: ·) = _
    rw [ints_nums ns]; rfl
theorem bls_map : ∀ ns : List Bool, blsOf (ns.map .bl) = some ns
  | [] => rfl
  | n :: ns => by
    show (blsOf (ns.map .bl)).map (n :: ·) = _
    rw [bls_map ns]; rfl
theorem dats_nums : ∀ ns : List Int, PV.dats (nums ns) = some (ns.map .int)
  | [] => rfl
  | n :: ns => by
    show (PV.dats (nums ns)).map (PyData.int n :: ·) = _
    rw [dats_nums ns]; rfl
theorem can_ints : ∀ ns : List Int, PyData.canLayAll0 (ns.map .int) = true
  | [] => rfl
  | n :: ns => can_ints ns
theorem dep_ints : ∀ ns : List Int, PyData.depthAll (ns.map .int) = 0
  | [] => rfl
  | n :: ns => by
    show max 0 (PyData.depthAll (ns.map .int)) = 0
    rw [dep_ints ns] <;> rfl
theorem shaped_ints (ns : List Int) : SeqAt.shaped (.list (ns.map .int)) = true := by
  have e : PyData.depth (.list (ns.map .int)) = 1 := by
    show PyData.depthAll (ns.map .int) + 1 = 1
    rw [dep_ints ns]
  have e2 : PyData.canLay0 (.list (ns.map .int)) = true := can_ints ns
  unfold SeqAt.shaped
  rw [e, e2] <;> rfl
theorem shaped_intsT (ns : List Int) : SeqAt.shaped (.tuple (ns.map .int)) = true := by
  have e : PyData.depth (.tuple (ns.map .int)) = 1 := by
    show PyData.depthAll (ns.map .int) + 1 = 1
    rw [dep_ints ns]
  have e2 : PyData.canLay0 (.tuple (ns.map .int)) = true := can_ints ns
  unfold SeqAt.shaped
  rw [e, e2] <;> rfl
theorem fit_of {x : Int} (h0 : 0 ≤ x) (h1 : x < 2 ^ 64) : fit x := ⟨by omega, h1⟩
theorem fit_mod {x m : Int} (h1 : 0 < m) (h2 : m < 2 ^ 62) : fit (x % m) := by
  have a := Int.emod_nonneg x (Int.ne_of_gt h1)
  have b := Int.emod_lt_of_pos x h1
  unfold fit
  constructor <;> omega

/-! ### tests -/
theorem iteD {p : Prop} [Decidable p] {A B : Prop} (h1 : p → A) (h2 : ¬ p → B) : if decide p = true then A else B := by
  by_cases h : p
  · rw [if_pos (decide_eq_true h)]
    exact h1 h
  · rw [if_neg (by simpa using h)]
    exact h2 h
theorem iteN {p : Prop} [Decidable p] {A B : Prop} (h1 : ¬ p → A) (h2 : p → B) : if (!decide p) = true then A else B := by
  by_cases h : p
  · rw [if_neg (by simpa using h)]
    exact h2 h
  · rw [if_pos (by simpa using h)]
    exact h1 h
theorem iteB {b : Bool} {A B : Prop} (h1 : b = true → A) (h2 : b = false → B) : if b = true then A else B := by
  cases b with
  | true => exact h1 rfl
  | false => exact h2 rfl
theorem iteT {b : Bool} {A B : Prop} (h : b = true) (h1 : A) : if b = true then A else B := by
  rw [if_pos h]
  exact h1
theorem iteF {b : Bool} {A B : Prop} (h : b = false) (h1 : B) : if b = true then A else B := by
  rw [if_neg (by rw [h]; decide)]
  exact h1

theorem iteO {p : Prop} [Decidable p] {A B : Prop} (hp : p) (h1 : A) : if decide p = true then A else B := by
  rw [if_pos (decide_eq_true hp)]
  exact h1
theorem iteX {p : Prop} [Decidable p] {A B : Prop} (hp : ¬ p) (h1 : B) : if decide p = true then A else B := by
  rw [if_neg (by simpa using hp)]
  exact h1

/-! ### loops -/
/-- a for by its word: what holds with the items that are left -/
theorem for_by {turn : PV → Sg → Store → (Sg → Store → Prop) → Prop} {st : Store → Prop} {Q : Sg → Store → Prop} (P : List PV → Sg → Store → Prop) (hst : ∀ r σ S, P r σ S → st S) (hd : ∀ σ S, P [] σ S → Q σ S)
    (hs : ∀ x r σ S (K : Sg → Store → Prop), P (x :: r) σ S → (∀ σ' S', P r σ' S' → K σ' S') → turn x σ S K) : ∀ (xs : List PV) σ S, P xs σ S → forRun turn st xs σ S Q
  | [], σ, S, h => hd σ S h
  | x :: r, σ, S, h => hs x r σ S _ h fun σ' S' h' => ⟨hst r σ' S' h', for_by P hst hd hs r σ' S' h'⟩
/-- a comprehension that leaves the store: a map -/
theorem lc_map {step : PV → Store → (Option PV → Store → Prop) → Prop} {st : Store → Prop} {F : List PV → Store → Prop} {S : Store} (f : PV → PV) (hst : st S) : ∀ (xs acc : List PV), (∀ x ∈ xs, ∀ K : Option PV → Store → Prop, K (some (f x)) S → step x S K) → F (acc ++ xs.map f) S → lcRun step st xs acc S F
  | [], acc, _, h => by
    rw [List.map_nil, List.append_nil] at h
    exact h
  | x :: r, acc, hs, h => hs x (List.mem_cons_self ..) _ ⟨hst, lc_map f hst r (acc ++ [f x]) (fun y hy => hs y (List.mem_cons_of_mem _ hy)) (by simpa using h)⟩
/-- .. that keeps some -/
theorem lc_filterMap {step : PV → Store → (Option PV → Store → Prop) → Prop} {st : Store → Prop} {F : List PV → Store → Prop} {S : Store} (f : PV → Option PV) (hst : st S) : ∀ (xs acc : List PV), (∀ x ∈ xs, ∀ K : Option PV → Store → Prop, K (f x) S → step x S K) → F (acc ++ xs.filterMap f) S → lcRun step st xs acc S F
  | [], acc, _, h => by
    rw [List.filterMap_nil, List.append_nil] at h
    exact h
  | x :: r, acc, hs, h => hs x (List.mem_cons_self ..) _ ⟨hst, lc_filterMap f hst r _ (fun y hy => hs y (List.mem_cons_of_mem _ hy)) (by
      cases e : f x with
      | none => simpa [List.filterMap_cons, e] using h
      | some y => simpa [List.filterMap_cons, e] using h)⟩
/-- a comprehension by its word: what is made, what is left -/
theorem lc_by {step : PV → Store → (Option PV → Store → Prop) → Prop} {st : Store → Prop} {F : List PV → Store → Prop} (P : List PV → List PV → Store → Prop) (hst : ∀ a r S, P a r S → st S) (hd : ∀ a S, P a [] S → F a S)
    (hs : ∀ x a r S (K : Option PV → Store → Prop), P a (x :: r) S → (∀ v S', P (match v with | .none => a | some y => a ++ [y]) r S' → K v S') → step x S K) : ∀ (xs acc : List PV) S, P acc xs S → lcRun step st xs acc S F
  | [], acc, S, h => hd acc S h
  | x :: r, acc, S, h => hs x acc r S _ h fun v S' h' => ⟨hst _ r S' h', lc_by P hst hd hs r _ S' h'⟩
theorem nums_of : ∀ {ys : List PV}, (∀ y ∈ ys, ∃ i, y = .int i) → ∃ ns, ys = nums ns
  | [], _ => ⟨[], rfl⟩
  | y :: ys, h => by
    obtain ⟨i, rfl⟩ := h y (List.mem_cons_self ..)
    obtain ⟨ns, rfl⟩ := nums_of fun z hz => h z (List.mem_cons_of_mem _ hz)
    exact ⟨i :: ns, rfl⟩
theorem enum_mem {x : PV} : ∀ {xs : List PV} {i : Int}, x ∈ enumL i xs → ∃ j y, y ∈ xs ∧ x = .tup [.int j, y]
  | [], _, h => by simp [enumL] at h
  | y :: ys, i, h => by
    rw [enumL, List.mem_cons] at h
    rcases h with h | h
    · exact ⟨i, y, List.mem_cons_self .., h⟩
    · obtain ⟨j, z, hz, e⟩ := enum_mem h
      exact ⟨j, z, List.mem_cons_of_mem _ hz, e⟩
theorem enum_len : ∀ {xs : List PV} {i : Int}, (enumL i xs).length = xs.length
  | [], _ => rfl
  | y :: ys, i => by rw [enumL, List.length_cons, List.length_cons, enum_len]
theorem nums_mem {x : PV} {ns : List Int} (h : x ∈ nums ns) : ∃ i, i ∈ ns ∧ x = .int i := by
  obtain ⟨i, hi, e⟩ := List.mem_map.mp h
  exact ⟨i, hi, e.symm⟩
theorem cut_map {α β : Type} {f : α → β} {xs : List α} {lo hi : Option Int} : cutL (xs.map f) lo hi = (cutL xs lo hi).map f := by
  unfold cutL
  rw [List.map_take, List.map_drop, List.length_map]
theorem bnd_neg {n d : Nat} {v : Int} (h : v < 0) : bnd n d (some v) = (v + (n : Int)).toNat := if_pos h
theorem bnd_pos {n d : Nat} {v : Int} (h : 0 ≤ v) : bnd n d (some v) = min v.toNat n := if_neg (by omega)
theorem bnd_no {n d : Nat} : bnd n d none = d := rfl
theorem cut_init {α : Type} {xs : List α} : cutL xs none (some (-1)) = xs.dropLast := by
  unfold cutL
  rw [bnd_neg (by decide), bnd_no, List.drop_zero, List.dropLast_eq_take]
  congr 1
  omega
theorem cut_from {α : Type} {xs : List α} {k : Int} (h : 0 ≤ k) : cutL xs (some k) none = xs.drop k.toNat := by
  unfold cutL
  rw [bnd_pos h, bnd_no, List.take_of_length_le (by rw [List.length_drop]; omega)]
  by_cases q : k.toNat ≤ xs.length
  · rw [Nat.min_eq_left q]
  · rw [Nat.min_eq_right (by omega), List.drop_eq_nil_of_le (Nat.le_refl _), List.drop_eq_nil_of_le (by omega)]
theorem cut_to {α : Type} {xs : List α} {k : Int} (h : 0 ≤ k) : cutL xs none (some k) = xs.take k.toNat := by
  unfold cutL
  rw [bnd_pos h, bnd_no, List.drop_zero, Nat.sub_zero]
  by_cases q : k.toNat ≤ xs.length
  · rw [Nat.min_eq_left q]
  · rw [Nat.min_eq_right (by omega), List.take_of_length_le (Nat.le_refl _), List.take_of_length_le (by omega)]
theorem cut_both {α : Type} {xs : List α} {j k : Int} (h : 0 ≤ j) (hk : 0 ≤ k) : cutL xs (some j) (some k) = (xs.drop j.toNat).take (k.toNat - j.toNat) := by
  unfold cutL
  rw [bnd_pos h, bnd_pos hk]
  by_cases q : j.toNat ≤ xs.length
  · rw [Nat.min_eq_left q]
    by_cases r : k.toNat ≤ xs.length
    · rw [Nat.min_eq_left r]
    · rw [Nat.min_eq_right (by omega), List.take_of_length_le (by rw [List.length_drop]; omega), List.take_of_length_le (by rw [List.length_drop]; omega)]
  · have e : min j.toNat xs.length = xs.length := Nat.min_eq_right (by omega)
    rw [e, List.drop_eq_nil_of_le (Nat.le_refl _), List.drop_eq_nil_of_le (by omega : xs.length ≤ j.toNat)]
    simp
theorem cut_len {α : Type} {xs : List α} {lo hi : Option Int} : (cutL xs lo hi).length ≤ xs.length := by
  unfold cutL
  rw [List.length_take, List.length_drop]
  omega
theorem cut63 {α : Type} {xs : List α} : (cutL xs none (some 63)).length ≤ 63 := by
  rw [cut_to (by decide), List.length_take]
  exact Nat.min_le_left ..
theorem zipL_nums : ∀ {a b : List Int}, zipL (nums a) (nums b) = (a.zip b).map fun p => PV.tup [.int p.1, .int p.2]
  | [], _ => by rw [List.zip_nil_left]; rfl
  | _ :: _, [] => rfl
  | x :: a, y :: b => by
    show PV.tup [.int x, .int y] :: zipL (nums a) (nums b) = _
    rw [zipL_nums]
    rfl
theorem still_same {S : Store} {v : PV} : still S v S := by cases v <;> first | rfl | trivial
theorem rng_len (lo : Int) (n : Nat) : (rngL lo n).length = n := by
  induction n generalizing lo with
  | zero => rfl
  | succ n ih => rw [rngL, List.length_cons, ih]
theorem rng_mem {x : PV} : ∀ {n : Nat} {lo : Int}, x ∈ rngL lo n → ∃ i, x = .int i ∧ lo ≤ i ∧ i < lo + n
  | 0, _, h => by simp [rngL] at h
  | n + 1, lo, h => by
    rw [rngL, List.mem_cons] at h
    rcases h with h | h
    · exact ⟨lo, h, by omega, by omega⟩
    · obtain ⟨i, e, h1, h2⟩ := rng_mem h
      exact ⟨i, e, by omega, by omega⟩
theorem pickL_len {α : Type} (xs : List α) {st : Int} (h : st ≠ 0) : (pickL xs st).length ≤ xs.length := by
  unfold pickL
  refine Nat.le_trans (List.length_filterMap_le ..) ?_
  refine sliceRange_length_le _ _ _ _ (fun hp => ?_) fun hp => ?_
  all_goals simp only [sliceBounds, Option.getD_some] at hp ⊢
  · rw [if_pos hp, if_pos hp]
    exact ⟨by omega, by omega⟩
  · rw [if_neg hp, if_neg hp]
    exact ⟨by omega, by omega⟩
theorem pick_mem {α : Type} {xs : List α} {st : Int} {v : α} (h : v ∈ pickL xs st) : v ∈ xs := by
  unfold pickL at h
  obtain ⟨i, _, e⟩ := List.mem_filterMap.mp h
  exact List.mem_of_getElem? e
theorem eqv_nums (ns : List Int) : PyData.eqv (.list (ns.map .int)) (.list (ns.map .int)) = true := PySem.SeqAt.eqv_refl _ (can_ints ns)

/-! ### what is left behind a call -/
theorem ret_same {S : Store} {Q : QV} {v : PV} {S' : Store} (q : Q v S') : dropW S Q v S' := ⟨v, S', .same, q⟩
theorem inRs_nums {n : Nat} : ∀ ns : List Int, PV.inRs n (nums ns) = true
  | [] => rfl
  | x :: ns => inRs_nums ns
theorem inRs_map {α : Type} {n : Nat} {f : α → PV} : ∀ {xs : List α}, (∀ x ∈ xs, (f x).inR n = true) → PV.inRs n (xs.map f) = true
  | [], _ => rfl
  | x :: xs, h => by
    show ((f x).inR n && PV.inRs n (xs.map f)) = true
    rw [h x (List.mem_cons_self ..), inRs_map fun y hy => h y (List.mem_cons_of_mem _ hy)]; rfl
theorem inRs_all {n : Nat} : ∀ {xs : List PV}, (∀ x ∈ xs, x.inR n = true) → PV.inRs n xs = true
  | [], _ => rfl
  | x :: xs, h => by
    show (x.inR n && PV.inRs n xs) = true
    rw [h x (List.mem_cons_self ..), inRs_all fun y hy => h y (List.mem_cons_of_mem _ hy)]; rfl

/-! ### the deck -/
structure Dck where
  c : List Int
  s : Int
  a : Int
  h : c.length ≤ 63
/-- a store: the deck, more things -/
def st (d : Dck) (X : Store) : Store := .lst (nums d.c) :: .dic [(.inr 495740282211, .ref 0), (.inr 1684366707, .int d.s), (.inr 29793, .int d.a)] :: X
theorem cut_st {d d' : Dck} {X J : Store} : Cut (st d X) (st d' (X ++ J)) (st d' X) where
  pre := ⟨J, rfl⟩
  len := rfl
  at_ := fun i o h => by
    match i, h with
    | 0, h =>
      cases h
      exact .inr (inRs_nums _)
    | 1, h =>
      cases h
      exact .inr rfl
    | i + 2, h => exact .inl h
theorem ret_st {d d' : Dck} {X J : Store} {Q : QV} {v : PV} (hv : v.inR (X.length + 2) = true) (q : Q v (st d' X)) : dropW (st d X) Q v (st d' (X ++ J)) := ⟨v, _, .drop cut_st hv, q⟩
/-- .. of a call with the deck alone -/
theorem ret0 {d d' : Dck} {J : Store} {Q : QV} {v : PV} (hv : v.inR 2 = true) (q : Q v (st d' [])) : dropW (st d []) Q v (st d' J) := ⟨v, _, .drop (cut_st (X := [])) hv, q⟩
def deckB : RSs := (.cons (.asg (.name 1) (.const (.int 7))) (.cons (.for_ (.name 2) (.val (.slice (.loc 0) .none (.some (.const (.int 63))))) (.cons (.asg (.name 1) (.bin .Mod (.bin .Add (.bin .Add (.bin .Mult (.bin .Mult (.loc 1) (.const (.int 48271))) (.const (.int 69621))) (.loc 2)) (.const (.int 1442695041))) (.const (.int 2305843009213693951)))) .nil)) (.cons (.ret (.dic [.inr 495740282211, .inr 1684366707, .inr 29793] (.cons (.rev true (.blt .list (.cons (.slice (.loc 0) .none (.some (.const (.int 63)))) .nil))) (.cons (.loc 1) (.cons (.const (.int 0)) .nil))))) .nil)))
def drawB : RSs := (.cons (.asg (.subK (.loc 0) 29793) (.bin .Add (.subK (.loc 0) 29793) (.const (.int 1)))) (.cons (.asg (.name 2) (.const (.int 0))) (.cons (.ife (.cmp .NotEq (.subK (.loc 0) 495740282211) (.lst false .nil)) (.cons (.asg (.name 2) (.meth (.subK (.loc 0) 495740282211) 7368560 (some .pop) .nil [] .nil [])) (.cons (.ife (.cmp .GtE (.loc 2) (.bin .Pow (.const (.int 10)) (.const (.int 18)))) (.cons (.expr (.meth (.subK (.loc 0) 495740282211) 110425311047777 (some .append) (.cons (.bin .FloorDiv (.loc 2) (.loc 1)) .nil) [] .nil [])) (.cons (.ret (.bin .Mod (.loc 2) (.loc 1))) .nil)) .nil) .nil)) .nil) (.cons (.asg (.name 3) (.bin .Mod (.bin .Add (.bin .Add (.subK (.loc 0) 1684366707) (.loc 2)) (.bin .Mult (.const (.int 1000003)) (.subK (.loc 0) 29793))) (.const (.int 2305843009213693951)))) (.cons (.asg (.name 3) (.bin .Mod (.bin .Add (.bin .Add (.bin .Mult (.loc 3) (.loc 3)) (.bin .Mult (.const (.int 69621)) (.subK (.loc 0) 29793))) (.const (.int 11))) (.const (.int 2305843009213693951)))) (.cons (.asg (.name 3) (.bin .Mod (.bin .Add (.bin .Mult (.loc 3) (.loc 3)) (.const (.int 40692))) (.const (.int 2305843009213693951)))) (.cons (.ret (.bin .Mod (.bin .FloorDiv (.loc 3) (.const (.int 4096))) (.loc 1))) .nil)))))))
/-- a draw tells some number below the bound -/
def DrawOk (f : Nat) (C : CS) : Prop := ∀ {d : Dck} {X : Store} {b : Int} {Q : QV} {R : QX}, (0 < b ∧ b < 1073741824) → (∀ (n : Int) d', 0 ≤ n → n < b → Q (.int n) (st d' X)) → C f [.ref 1, .int b] (st d X) Q R
/-- draw's last three rows -/
def draw3 : RSs := match drawB with
  | .cons _ (.cons _ (.cons _ r)) => r
  | _ => .nil
theorem draw_ok {T : Tab} {C : CS} {f : Nat} {N : List String} (e : T.fns[f]? = some ⟨N, 2, drawB, .none⟩) (hN : N.length = 4) : DrawOk f (bodyC T C) := by
  intro d X b Q R hb h
  refine ⟨_, e, rfl, ?_⟩
  show wpSs T C drawB (startG N.length _) _ _
  rw [hN]
  obtain ⟨c, s, a, hc⟩ := d
  obtain ⟨pm, pb⟩ := hb
  have fin : ∀ (c' : List Int) (cell : Int), (hc' : c'.length ≤ 63) → wpSs T C draw3 [some (.ref 1), some (.int b), some (.int cell), none] (st ⟨c', s, a + 1, hc'⟩ X) { nx := fun _ S' => dropW (st ⟨c, s, a, hc⟩ X) Q .non S', rt := dropW (st ⟨c, s, a, hc⟩ X) Q, ex := fun x _ S' => dropX (st ⟨c, s, a, hc⟩ X) R x S' } := by
    intro c' cell hc'
    conv => whnf
    refine onD (.inl (fit_mod (by decide) (by decide))) ?_
    conv => whnf
    refine onD (.inl (fit_mod (by decide) (by decide))) ?_
    conv => whnf
    refine onD pm ?_
    exact ret_same (h _ ⟨c', s, a + 1, hc'⟩ (Int.emod_nonneg _ (by omega)) (Int.emod_lt_of_pos _ pm))
  rcases List.eq_nil_or_concat c with e0 | ⟨L, z, e0⟩
  · subst e0
    exact fin [] 0 hc
  · rw [List.concat_eq_append] at e0
    subst e0
    conv => whnf
    refine onS_of (x := .list ((L ++ [z]).map .int)) (by
      show (PV.dats (nums (L ++ [z]))).map PyData.list = _
      rw [dats_nums]; rfl) ?_
    conv => whnf
    refine onT_of (shaped_ints _) ?_
    conv => whnf
    have e1 : PyData.eqv (.list ((L ++ [z]).map .int)) (.list []) = false := by cases L <;> rfl
    refine iteT (by rw [e1]; rfl) ?_
    have hL : L.length + 1 ≤ 63 := by simpa using hc
    conv => whnf
    refine onS_of (x := .int z) (by rw [show nums (L ++ [z]) = nums L ++ [.int z] from nums_app ..]; simp) ?_
    show wpSs T C _ [some (.ref 1), some (.int b), some (.int z), none] _ _
    rw [show (nums (L ++ [z])).dropLast = nums L by rw [nums_app]; simp]
    conv => whnf
    refine iteD (fun hz => ?_) (fun hz => ?_)
    · conv => whnf
      refine onD ⟨pm, pb⟩ ?_
      conv => whnf
      refine onD (by show (nums L).length < 16777216; rw [List.length_map]; omega) ?_
      conv => whnf
      refine onD pm ?_
      refine ret_same ?_
      have := h (z % b) ⟨L ++ [z / b], s, a + 1, by simpa using hL⟩ (Int.emod_nonneg _ (by omega)) (Int.emod_lt_of_pos _ pm)
      rw [show st ⟨L ++ [z / b], s, a + 1, by simpa using hL⟩ X = .lst (nums L ++ [.int (z / b)]) :: .dic [(.inr 495740282211, .ref 0), (.inr 1684366707, .int s), (.inr 29793, .int (a + 1))] :: X from by unfold st; rw [nums_app]; rfl] at this
      exact this
    · exact fin L z (by omega)
/-- the deck is laid -/
theorem deck_ok {T : Tab} {C : CS} {f : Nat} {N : List String} (e : T.fns[f]? = some ⟨N, 1, deckB, .none⟩) (hN : N.length = 3) {ns : List Int} {Q : QV} {R : QX} (h : ∀ d, Q (.ref 1) (st d [])) : bodyC T C f [.scr (nums ns)] [] Q R := by
  refine ⟨_, e, rfl, ?_⟩
  show wpSs T C deckB (startG N.length _) _ _
  rw [hN]
  conv => whnf
  rw [cut_map]
  refine for_by (fun r σ S => S = [] ∧ (∀ x ∈ r, ∃ i, x = PV.int i) ∧ ∃ s kv, σ = [some (.scr (nums ns)), some (.int s), kv]) ?_ ?_ ?_ _ _ _ ?_
  · rintro r σ S ⟨rfl, _⟩
    exact trivial
  · rintro σ S ⟨rfl, _, s, kv, rfl⟩
    conv => whnf
    refine ret_same ?_
    have := h ⟨(cutL ns none (some 63)).reverse, s, 0, by rw [List.length_reverse]; exact cut63⟩
    have e2 : (cutL (nums ns) none (some 63)).reverse = nums (cutL ns none (some 63)).reverse := by
      show (cutL (ns.map PV.int) none (some 63)).reverse = _
      rw [cut_map, ← List.map_reverse]
    unfold st at this
    rw [← e2] at this
    exact this
  · rintro x r σ S K ⟨rfl, hx, s, kv, rfl⟩ hk
    obtain ⟨i, rfl⟩ := hx _ (List.mem_cons_self ..)
    conv => whnf
    refine onD (.inr (.inl (by decide))) ?_
    conv => whnf
    refine onD (.inr (.inl (by decide))) ?_
    conv => whnf
    exact hk _ _ ⟨rfl, fun y hy => hx y (List.mem_cons_of_mem _ hy), _, _, rfl⟩
  · refine ⟨rfl, fun x hx => ?_, 7, none, rfl⟩
    obtain ⟨i, _, e⟩ := List.mem_map.mp hx
    exact ⟨i, e.symm⟩
mutual
/-- what repr shows, of small things -/
def okD : PyData → Prop
  | .none => True
  | .bool _ => True
  | .int i => -(10 ^ 18) < i ∧ i < 10 ^ 18
  | .str x => ∀ c ∈ x.cps.toList, c < 16 ^ 8
  | .list xs => okDs xs
  | .tuple xs => okDs xs
  | .dict kvs => okKv kvs
def okDs : List PyData → Prop
  | [] => True
  | x :: xs => okD x ∧ okDs xs
def okKv : List (PyData × PyData) → Prop
  | [] => True
  | (k, v) :: r => okD k ∧ okD v ∧ okKv r
end
mutual
theorem okD_show : ∀ {d : PyData}, okD d → d.showable = true ∧ d.leavesShort 25 = true
  | .none, _ => ⟨rfl, rfl⟩
  | .bool _, _ => ⟨rfl, rfl⟩
  | .int i, h => by
    have h : -(10 ^ 18) < i ∧ i < 10 ^ 18 := h
    have h2 : i.natAbs < 10 ^ 18 := by omega
    have h3 : i.natAbs < 2 ^ 64 := Nat.lt_of_lt_of_le h2 (by decide)
    refine ⟨?_, ?_⟩
    · show decide (i.natAbs.log2 < 1920) = true
      refine decide_eq_true ?_
      by_cases z : i.natAbs = 0
      · rw [z]; decide
      · exact Nat.lt_of_lt_of_le ((Nat.log2_lt z).mpr h3) (by decide)
    · show decide ((PyData.shown (.int i)).length ≤ 25) = true
      refine decide_eq_true ?_
      have := int_text_length_le10 (a := i) (k := 18) (by decide) h2
      show (Str.ofString (toString i)).length ≤ 25
      rw [ofString_length]
      omega
  | .str x, h => ⟨rfl, by
    have h : ∀ c ∈ x.cps.toList, c < 16 ^ 8 := h
    simpa only [PyData.leavesShort, List.all_eq_true, decide_eq_true_eq] using h⟩
  | .list xs, h => okDs_show (ds := xs) h
  | .tuple xs, h => okDs_show (ds := xs) h
  | .dict xs, h => okKv_show (ds := xs) h
theorem okDs_show : ∀ {ds : List PyData}, okDs ds → PyData.showableAll ds = true ∧ PyData.leavesShortAll 25 ds = true
  | [], _ => ⟨rfl, rfl⟩
  | x :: xs, h => by
    have h : okD x ∧ okDs xs := h
    obtain ⟨a, c⟩ := okD_show h.1
    obtain ⟨a', c'⟩ := okDs_show h.2
    refine ⟨?_, ?_⟩
    · show (x.showable && PyData.showableAll xs) = true
      rw [a, a']; rfl
    · show (x.leavesShort 25 && PyData.leavesShortAll 25 xs) = true
      rw [c, c']; rfl
theorem okKv_show : ∀ {ds : List (PyData × PyData)}, okKv ds → PyData.showableKv ds = true ∧ PyData.leavesShortKv 25 ds = true
  | [], _ => ⟨rfl, rfl⟩
  | (k, v) :: xs, h => by
    have h : okD k ∧ okD v ∧ okKv xs := h
    obtain ⟨a, c⟩ := okD_show h.1
    obtain ⟨a2, c2⟩ := okD_show h.2.1
    obtain ⟨a', c'⟩ := okKv_show h.2.2
    refine ⟨?_, ?_⟩
    · show (k.showable && v.showable && PyData.showableKv xs) = true
      rw [a, a2, a']; rfl
    · show (k.leavesShort 25 && v.leavesShort 25 && PyData.leavesShortKv 25 xs) = true
      rw [c, c2, c']; rfl
end
mutual
/-- how much is shown, at most -/
def wt : PyData → Nat
  | .int _ => 61
  | .str x => x.cps.size
  | .list xs => wts xs
  | .tuple xs => wts xs
  | .none => 0
  | .bool _ => 0
  | .dict kvs => wtKv kvs
def wts : List PyData → Nat
  | [] => 0
  | x :: xs => wt x + 1 + wts xs
def wtKv : List (PyData × PyData) → Nat
  | [] => 0
  | (k, v) :: xs => wt k + wt v + 2 + wtKv xs
end
mutual
theorem wt_le : ∀ {d : PyData}, okD d → d.weight ≤ wt d
  | .none, _ => Nat.le_refl _
  | .bool _, _ => Nat.le_refl _
  | .int i, h => by
    have h : -(10 ^ 18) < i ∧ i < 10 ^ 18 := h
    show (if i == 0 then 0 else i.natAbs.log2 + 1) ≤ 61
    split
    · decide
    · rename_i z
      have z : i ≠ 0 := by simpa using z
      have h3 : i.natAbs < 2 ^ 60 := by omega
      have := (Nat.log2_lt (by omega)).mpr h3
      omega
  | .str x, _ => Nat.le_refl _
  | .list xs, h => wts_le (ds := xs) h
  | .tuple xs, h => wts_le (ds := xs) h
  | .dict xs, h => wtKv_le (ds := xs) h
theorem wts_le : ∀ {ds : List PyData}, okDs ds → PyData.weightAll ds ≤ wts ds
  | [], _ => Nat.le_refl _
  | x :: xs, h => by
    have h : okD x ∧ okDs xs := h
    have a := wt_le h.1
    have b := wts_le h.2
    show x.weight + 1 + PyData.weightAll xs ≤ wt x + 1 + wts xs
    omega
theorem wtKv_le : ∀ {ds : List (PyData × PyData)}, okKv ds → PyData.weightKv ds ≤ wtKv ds
  | [], _ => Nat.le_refl _
  | (k, v) :: xs, h => by
    have h : okD k ∧ okD v ∧ okKv xs := h
    have a := wt_le h.1
    have a2 := wt_le h.2.1
    have b := wtKv_le h.2.2
    show k.weight + v.weight + 2 + PyData.weightKv xs ≤ wt k + wt v + 2 + wtKv xs
    omega
end
theorem shOk_of {d : PyData} (h : okD d) (hd : d.depth ≤ 64) (hw : wt d ≤ 500000) : shOk d = true := by
  obtain ⟨a, c⟩ := okD_show h
  have e := PyData.shown_le 25 (by decide) d c
  have w := wt_le h
  have e2 : (shS 0 d).length ≤ lim := by
    rw [shS_eq]
    show _ ≤ 16777216
    omega
  unfold shOk
  rw [a, decide_eq_true hd, decide_eq_true e2]
  rfl
/-! ### the greatest, sums -/
theorem maxI_mem : ∀ {ns : List Int}, 0 < ns.length → maxI ns ∈ ns
  | [a], _ => List.mem_cons_self ..
  | a :: b :: r, _ => by
    show (if a < maxI (b :: r) then maxI (b :: r) else a) ∈ a :: b :: r
    split
    · exact List.mem_cons_of_mem _ (maxI_mem (by simp))
    · exact List.mem_cons_self ..
theorem maxI_ge : ∀ {ns : List Int} {x : Int}, x ∈ ns → x ≤ maxI ns
  | [a], x, h => by
    rw [List.mem_singleton] at h
    rw [h]; exact Int.le_refl _
  | a :: b :: r, x, h => by
    show x ≤ (if a < maxI (b :: r) then maxI (b :: r) else a)
    rw [List.mem_cons] at h
    rcases h with rfl | h
    · split <;> omega
    · have := maxI_ge h
      split <;> omega
theorem minI_mem : ∀ {ns : List Int}, 0 < ns.length → minI ns ∈ ns
  | [a], _ => List.mem_cons_self ..
  | a :: b :: r, _ => by
    show (if minI (b :: r) < a then minI (b :: r) else a) ∈ a :: b :: r
    split
    · exact List.mem_cons_of_mem _ (minI_mem (by simp))
    · exact List.mem_cons_self ..
theorem minI_le : ∀ {ns : List Int} {x : Int}, x ∈ ns → minI ns ≤ x
  | [a], x, h => by
    rw [List.mem_singleton] at h
    rw [h]; exact Int.le_refl _
  | a :: b :: r, x, h => by
    show (if minI (b :: r) < a then minI (b :: r) else a) ≤ x
    rw [List.mem_cons] at h
    rcases h with rfl | h
    · split <;> omega
    · have := minI_le h
      split <;> omega
theorem sum_ge : ∀ {ns : List Int}, (∀ x ∈ ns, 0 ≤ x) → 0 ≤ ns.sum
  | [], _ => by decide
  | a :: r, h => by
    have := sum_ge fun x hx => h x (List.mem_cons_of_mem _ hx)
    have := h a (List.mem_cons_self ..)
    rw [List.sum_cons]; omega
theorem sum_le {b : Int} : ∀ {ns : List Int}, (∀ x ∈ ns, x ≤ b) → ns.sum ≤ b * ns.length
  | [], _ => by simp
  | a :: r, h => by
    have e := sum_le fun x hx => h x (List.mem_cons_of_mem _ hx)
    have := h a (List.mem_cons_self ..)
    rw [List.sum_cons, List.length_cons, Int.natCast_succ, Int.mul_add]; omega
theorem ints_cut {L : List Int} {k : Int} (h : 0 ≤ k) : intsOf (cutL (nums L) none (some k)) = some (L.take k.toNat) := by
  show intsOf (cutL (L.map PV.int) none (some k)) = _
  rw [cut_map, cut_to h]
  exact ints_nums _
theorem idx_nums {L : List Int} {k : Int} (h0 : 0 ≤ k) (h1 : k < L.length) : idx (nums L) k = some (.int (L.getD k.toNat 0)) := by
  have h : k.toNat < L.length := by omega
  refine idx_map ?_
  unfold idx
  rw [if_pos h0, List.getElem?_eq_getElem h, List.getD_eq_getElem?_getD, List.getElem?_eq_getElem h]; rfl
theorem getD_mem {L : List Int} {k : Int} (h0 : 0 ≤ k) (h1 : k < L.length) : L.getD k.toNat 0 ∈ L := by
  have h : k.toNat < L.length := by omega
  rw [List.getD_eq_getElem?_getD, List.getElem?_eq_getElem h]
  exact List.getElem_mem h
/-- a call that says a truth, and leaves the store -/
def Says (C : CS) (f : Nat) (vs : List PV) (p : Prop) : Prop := ∀ {S : Store} {Q : QV} {R : QX}, (∀ b : Bool, (b = true ↔ p) → Q (.bl b) S) → C f vs S Q R
/-- a call that tells a value, and leaves the store -/
def Tells (C : CS) (f : Nat) (vs : List PV) (v : PV) : Prop := ∀ {S : Store} {Q : QV} {R : QX}, Q v S → C f vs S Q R
/-! ### rows of rows; what is new in a store -/
abbrev rows (Z : List (List Int)) : List PV := Z.map fun z => PV.tup (nums z)
theorem rows_idx {Z : List (List Int)} {k : Int} (h0 : 0 ≤ k) (h1 : k < Z.length) : idx (rows Z) k = some (.tup (nums (Z.getD k.toNat []))) ∧ Z.getD k.toNat [] ∈ Z := by
  have h : k.toNat < Z.length := by omega
  have e : Z.getD k.toNat [] = Z[k.toNat] := by rw [List.getD_eq_getElem?_getD, List.getElem?_eq_getElem h]; rfl
  refine ⟨idx_map (f := fun z => PV.tup (nums z)) ?_, by rw [e]; exact List.getElem_mem h⟩
  unfold idx
  rw [if_pos h0, List.getElem?_eq_getElem h, e]
def drp : Nat → RSs → RSs
  | 0, r => r
  | n + 1, .cons _ r => drp n r
  | _ + 1, .nil => .nil
theorem dic_new {S : Store} {kvs : List (DK × PV)} : dicAt (S ++ [.dic kvs]) S.length = some kvs := by
  unfold dicAt
  rw [List.getElem?_append_right (Nat.le_refl _), Nat.sub_self]
  rfl
theorem ret_app {S J : Store} {Q : QV} {v : PV} (hv : v.inR S.length = true) (q : Q v S) : dropW S Q v (S ++ J) := ⟨v, S, .drop ⟨⟨J, rfl⟩, rfl, fun _ _ h => .inl h⟩ hv, q⟩
theorem at0 {S T : Store} : (S ++ T)[S.length]? = T[0]? := by rw [List.getElem?_append_right (Nat.le_refl _), Nat.sub_self]
theorem atj {S T : Store} {j : Nat} : (S ++ T)[S.length + j]? = T[j]? := by rw [List.getElem?_append_right (Nat.le_add_right ..), Nat.add_sub_cancel_left]
theorem set0 {S T : Store} {v : SO} : (S ++ T).set S.length v = S ++ T.set 0 v := by rw [List.set_append_right _ _ (Nat.le_refl _), Nat.sub_self]
theorem setj {S T : Store} {j : Nat} {v : SO} : (S ++ T).set (S.length + j) v = S ++ T.set j v := by rw [List.set_append_right _ _ (Nat.le_add_right ..), Nat.add_sub_cancel_left]
/-! what stands behind a store's own things -/
section
variable {S X : Store} {j : Nat}
theorem lstAt0 : lstAt (S ++ X) S.length = lstAt X 0 := by unfold lstAt; rw [at0]
theorem lstAtj : lstAt (S ++ X) (S.length + j) = lstAt X j := by unfold lstAt; rw [atj]
theorem dicAt0 : dicAt (S ++ X) S.length = dicAt X 0 := by unfold dicAt; rw [at0]
theorem dicAtj : dicAt (S ++ X) (S.length + j) = dicAt X j := by unfold dicAt; rw [atj]
theorem insOf0 : insOf (S ++ X) (.ref S.length) = insOf X (.ref 0) := by unfold insOf; dsimp only; rw [at0]
theorem insOfj : insOf (S ++ X) (.ref (S.length + j)) = insOf X (.ref j) := by unfold insOf; dsimp only; rw [atj]
theorem itemsOf0 : itemsOf (S ++ X) (.ref S.length) = itemsOf X (.ref 0) := by unfold itemsOf; dsimp only; rw [at0]
theorem itemsOfj : itemsOf (S ++ X) (.ref (S.length + j)) = itemsOf X (.ref j) := by unfold itemsOf; dsimp only; rw [atj]
theorem lstOf0 : lstOf (S ++ X) (.ref S.length) = lstOf X (.ref 0) := by unfold lstOf; dsimp only; rw [at0]
theorem lstOfj : lstOf (S ++ X) (.ref (S.length + j)) = lstOf X (.ref j) := by unfold lstOf; dsimp only; rw [atj]
theorem lsOf0 : lsOf (S ++ X) (.ref S.length) = lsOf X (.ref 0) := by unfold lsOf; dsimp only; rw [at0]
theorem lsOfj : lsOf (S ++ X) (.ref (S.length + j)) = lsOf X (.ref j) := by unfold lsOf; dsimp only; rw [atj]
theorem isLst0 : isLst (S ++ X) (.ref S.length) = isLst X (.ref 0) := by unfold isLst; dsimp only; rw [at0]
theorem isLstj : isLst (S ++ X) (.ref (S.length + j)) = isLst X (.ref j) := by unfold isLst; dsimp only; rw [atj]
theorem tru0 : tru (S ++ X) (.ref S.length) = tru X (.ref 0) := by unfold tru; dsimp only; rw [at0]
theorem truj : tru (S ++ X) (.ref (S.length + j)) = tru X (.ref j) := by unfold tru; dsimp only; rw [atj]
theorem knd0 : knd (S ++ X) (.ref S.length) = knd X (.ref 0) := by unfold knd; dsimp only; rw [at0]
theorem kndj : knd (S ++ X) (.ref (S.length + j)) = knd X (.ref j) := by unfold knd; dsimp only; rw [atj]
theorem datS0 : datS (S ++ X) (.ref S.length) = datS X (.ref 0) := by
  unfold datS deref; dsimp only; rw [at0]
  cases X[0]? with
  | none => rfl
  | some o => cases o <;> rfl
theorem datSj : datS (S ++ X) (.ref (S.length + j)) = datS X (.ref j) := by
  unfold datS deref; dsimp only; rw [atj]
  cases X[j]? with
  | none => rfl
  | some o => cases o <;> rfl
theorem fldOf0 {T : Tab} {f : Nat} : fldOf T (S ++ X) (.ref S.length) f = fldOf T X (.ref 0) f := by unfold fldOf; rw [insOf0]
theorem fldOfj {T : Tab} {f : Nat} : fldOf T (S ++ X) (.ref (S.length + j)) f = fldOf T X (.ref j) f := by unfold fldOf; rw [insOfj]
theorem methOf0 {T : Tab} {f : Nat} : methOf T (S ++ X) (.ref S.length) f = methOf T X (.ref 0) f := by unfold methOf; rw [insOf0]
theorem methOfj {T : Tab} {f : Nat} : methOf T (S ++ X) (.ref (S.length + j)) f = methOf T X (.ref j) f := by unfold methOf; rw [insOfj]
theorem recv0 {T : Tab} {f : Nat} {b : Option BM} : recv T (S ++ X) (.ref S.length) f b = recv T X (.ref 0) f b := by unfold recv; rw [methOf0, isLst0]
theorem recvj {T : Tab} {f : Nat} {b : Option BM} : recv T (S ++ X) (.ref (S.length + j)) f b = recv T X (.ref j) f b := by unfold recv; rw [methOfj, isLstj]
theorem isInst0 {T : Tab} {t : PV} : isInst T (S ++ X) (.ref S.length) t = isInst T X (.ref 0) t := by unfold isInst; rw [knd0]
theorem isInstj {T : Tab} {t : PV} : isInst T (S ++ X) (.ref (S.length + j)) t = isInst T X (.ref j) t := by unfold isInst; rw [kndj]
end
end Rp
/-! # Plain laws: more tools -/
namespace Rp
open PySem
/-! ### data -/
abbrev dInts (l : List Int) : List PyData := l.map .int
abbrev dPrs (l : List (Int × Int)) : List PyData := l.map fun p => .tuple [.int p.1, .int p.2]
theorem dats_prs : ∀ l : List (Int × Int), PV.dats (l.map fun p => PV.tup [.int p.1, .int p.2]) = some (dPrs l)
  | [] => rfl
  | p :: l => by
    show (PV.dats (l.map fun p => PV.tup [.int p.1, .int p.2])).map (PyData.tuple [.int p.1, .int p.2] :: ·) = _
    rw [dats_prs l]; rfl
theorem can_prs : ∀ l : List (Int × Int), PyData.canLayAll0 (dPrs l) = true
  | [] => rfl
  | p :: l => can_prs l
theorem dep_prs : ∀ l : List (Int × Int), PyData.depthAll (dPrs l) ≤ 1
  | [] => by decide
  | p :: l => by
    show max 1 (PyData.depthAll (dPrs l)) ≤ 1
    have := dep_prs l
    omega
theorem okD_ints : ∀ {l : List Int}, (∀ x ∈ l, 0 ≤ x ∧ x ≤ 300000) → okDs (dInts l)
  | [], _ => trivial
  | x :: l, h => ⟨by have := h x (List.mem_cons_self ..); exact ⟨by omega, by omega⟩, okD_ints fun y hy => h y (List.mem_cons_of_mem _ hy)⟩
theorem okD_prs : ∀ {l : List (Int × Int)}, (∀ x ∈ l, 0 ≤ x.1 ∧ x.1 ≤ 300000 ∧ 0 ≤ x.2 ∧ x.2 ≤ 300000) → okDs (dPrs l)
  | [], _ => trivial
  | x :: l, h => ⟨by have := h x (List.mem_cons_self ..); exact ⟨⟨by omega, by omega⟩, ⟨by omega, by omega⟩, trivial⟩, okD_prs fun y hy => h y (List.mem_cons_of_mem _ hy)⟩
theorem wt_ints : ∀ l : List Int, wts (dInts l) = 62 * l.length
  | [] => rfl
  | x :: l => by
    show 61 + 1 + wts (dInts l) = _
    rw [wt_ints l, List.length_cons]; omega
theorem wt_prs : ∀ l : List (Int × Int), wts (dPrs l) = 125 * l.length
  | [] => rfl
  | x :: l => by
    show 124 + 1 + wts (dPrs l) = _
    rw [wt_prs l, List.length_cons]; omega
theorem shaped_of {d : PyData} (h : PyData.canLay0 d = true) (hd : d.depth ≤ 60) : SeqAt.shaped d = true := by
  unfold SeqAt.shaped
  rw [h]
  simp
  omega
theorem alks_nums : ∀ {a b : List Int}, alks (nums a) (nums b) → a = b
  | [], [], _ => rfl
  | [], _ :: _, h => h.elim
  | _ :: _, [], h => h.elim
  | x :: a, y :: b, h => by
    have h : x = y ∧ alks (nums a) (nums b) := h
    rw [h.1, alks_nums h.2]
theorem alks_prs : ∀ {a b : List (Int × Int)}, alks (a.map fun p => PV.tup [.int p.1, .int p.2]) (b.map fun p => PV.tup [.int p.1, .int p.2]) → a = b
  | [], [], _ => rfl
  | [], _ :: _, h => h.elim
  | _ :: _, [], h => h.elim
  | x :: a, y :: b, h => by
    have h : (x.1 = y.1 ∧ x.2 = y.2 ∧ True) ∧ alks (a.map fun p => PV.tup [.int p.1, .int p.2]) (b.map fun p => PV.tup [.int p.1, .int p.2]) := h
    obtain ⟨x1, x2⟩ := x
    obtain ⟨y1, y2⟩ := y
    have h1 : x1 = y1 := h.1.1
    have h2 : x2 = y2 := h.1.2.1
    rw [h1, h2, alks_prs h.2]
/-- a list made within a call, told -/
theorem ret_ls {S J : Store} {xs : List PV} {Q : QV} (h : PV.inRs S.length xs = true) (q : Q (.ls xs) S) : dropW S Q (.ref S.length) (S ++ .lst xs :: J) :=
  ⟨_, S, .frz rfl at0 (Nat.le_refl _) ⟨⟨_, rfl⟩, rfl, fun _ _ h => .inl h⟩ h, q⟩
/-- a for over a value's items, by its word; the tree is not looked into -/
theorem for_in {T : Tab} {C : CS} {tg : RT} {e : RE} {a ss : RSs} {σ : Sg} {S S1 : Store} {D : En} {v : PV} {xs : List PV} (P : List PV → Sg → Store → Prop) (he : ∀ (Q : QV) (R : QX), Q v S1 → wpE T C e σ S Q R) (hi : itemsOf S1 v = some xs) (h0 : P xs σ S1)
    (hst : ∀ r σ S, P r σ S → still S1 v S) (hd : ∀ σ S, P [] σ S → wpSs T C ss σ S D)
    (hs : ∀ x r σ S (K : Sg → Store → Prop), P (x :: r) σ S → (∀ σ' S', P r σ' S' → K σ' S') → wpTg T C tg x σ S (fun σ3 S3 => wpSs T C a σ3 S3 { D with nx := K, ct := K, bk := fun σ' S' => wpSs T C ss σ' S' D }) (fun _ _ => False)) : wpSs T C (.cons (.for_ tg (.val e) a) ss) σ S D := by
  refine he (fun v S1 => onS (itemsOf S1 v) fun xs => forRun (fun x σ2 S2 Q2 => wpTg T C tg x σ2 S2 (fun σ3 S3 => wpSs T C a σ3 S3 { D with nx := Q2, ct := Q2, bk := fun σ' S' => wpSs T C ss σ' S' D }) (fun _ _ => False)) (still S1 v) xs σ S1 fun σ' S' => wpSs T C ss σ' S' D) _ ?_
  exact onS_of hi (for_by P hst hd hs _ _ _ h0)
/-- a for over range(j) -/
theorem for_rng {T : Tab} {C : CS} {tg : RT} {es : REs} {a ss : RSs} {σ : Sg} {S S1 : Store} {D : En} {j : Int} (P : List PV → Sg → Store → Prop) (he : ∀ (Q : List PV → Store → Prop) (R : QX), Q [.int j] S1 → wpEs T C es σ S Q R) (hj : okR j) (h0 : P (rngL 0 j.toNat) σ S1)
    (hd : ∀ σ S, P [] σ S → wpSs T C ss σ S D)
    (hs : ∀ x r σ S (K : Sg → Store → Prop), P (x :: r) σ S → (∀ σ' S', P r σ' S' → K σ' S') → wpTg T C tg x σ S (fun σ3 S3 => wpSs T C a σ3 S3 { D with nx := K, ct := K, bk := fun σ' S' => wpSs T C ss σ' S' D }) (fun _ _ => False)) : wpSs T C (.cons (.for_ tg (.range es) a) ss) σ S D := by
  refine he _ _ ?_
  exact onD hj (for_by P (fun _ _ _ _ => trivial) hd hs _ _ _ h0)
def rowD (Z : List (List Int)) : List PyData := Z.map fun z => .tuple (dInts z)
def talkD (L : List Int) (Z : List (List Int)) : PyData := .tuple [.tuple (dInts L), .tuple (rowD Z)]
theorem dats_rows : ∀ Z : List (List Int), PV.dats (rows Z) = some (rowD Z)
  | [] => rfl
  | z :: Z => by
    show ((PV.dats (nums z)).map PyData.tuple).bind (fun d => (PV.dats (rows Z)).map (d :: ·)) = _
    rw [dats_rows Z, dats_nums]; rfl
theorem can_rows : ∀ Z : List (List Int), PyData.canLayAll0 (rowD Z) = true
  | [] => rfl
  | z :: Z => by
    show (PyData.canLayAll0 (dInts z) && PyData.canLayAll0 (rowD Z)) = true
    rw [can_ints, can_rows]; rfl
theorem dep_rows : ∀ Z : List (List Int), PyData.depthAll (rowD Z) ≤ 1
  | [] => by decide
  | z :: Z => by
    show max (PyData.depthAll (dInts z) + 1) (PyData.depthAll (rowD Z)) ≤ 1
    rw [dep_ints]
    have := dep_rows Z
    omega
theorem okD_rows : ∀ {Z : List (List Int)}, (∀ z ∈ Z, ∀ x ∈ z, 0 ≤ x ∧ x ≤ 300000) → okDs (rowD Z)
  | [], _ => trivial
  | z :: Z, h => ⟨okD_ints (h z (List.mem_cons_self ..)), okD_rows fun y hy => h y (List.mem_cons_of_mem _ hy)⟩
theorem wt_rows {b : Nat} : ∀ {Z : List (List Int)}, (∀ z ∈ Z, z.length ≤ b) → wts (rowD Z) ≤ (62 * b + 1) * Z.length
  | [], _ => Nat.le_refl _
  | z :: Z, h => by
    show wts (dInts z) + 1 + wts (rowD Z) ≤ _
    have h1 := h z (List.mem_cons_self ..)
    have := wt_rows fun y hy => h y (List.mem_cons_of_mem _ hy)
    rw [wt_ints, List.length_cons, Nat.mul_succ]
    omega
theorem talkD_dat {L : List Int} {Z : List (List Int)} : PV.dats [.tup (nums L), .tup (rows Z)] = some [.tuple (dInts L), .tuple (rowD Z)] := by
  simp only [PV.dats, PV.dat, dats_nums, dats_rows]
  rfl
theorem talkD_ok {L : List Int} {Z : List (List Int)} (hl : L.length ≤ 12) (h1 : ∀ x ∈ L, 0 ≤ x ∧ x ≤ 300000) (hz : Z.length ≤ 12) (h2 : ∀ z ∈ Z, z.length ≤ 100 ∧ ∀ x ∈ z, 0 ≤ x ∧ x ≤ 300000) : shOk (talkD L Z) = true := by
  refine shOk_of ⟨okD_ints h1, okD_rows fun z hz => (h2 z hz).2, trivial⟩ ?_ ?_
  · show max (PyData.depthAll (dInts L) + 1) (max (PyData.depthAll (rowD Z) + 1) 0) + 1 ≤ 64
    rw [dep_ints]
    have := dep_rows Z
    omega
  · show wts (dInts L) + 1 + (wts (rowD Z) + 1 + 0) ≤ 500000
    have := wt_rows (b := 100) fun z hz => (h2 z hz).1
    rw [wt_ints]
    omega
end Rp
/-! # Places behind the deck -/
namespace Rp
open PySem
section
variable {d : Dck} {X J : Store} {a : SO} {n : Nat}
theorem st_len : (st d X).length = X.length + 2 := rfl
theorem at_st : (st d X)[n + 2]? = X[n]? := rfl
theorem set_st {v : SO} : (st d X).set (n + 2) v = st d (X.set n v) := rfl
theorem lst_st : lstAt (st d X) (n + 2) = lstAt X n := rfl
theorem lst_co : lstAt (a :: X) (n + 1) = lstAt X n := rfl
theorem ins_st : insOf (st d X) (.ref (n + 2)) = insOf X (.ref n) := rfl
theorem ins_co : insOf (a :: X) (.ref (n + 1)) = insOf X (.ref n) := rfl
theorem its_st : itemsOf (st d X) (.ref (n + 2)) = itemsOf X (.ref n) := rfl
theorem its_co : itemsOf (a :: X) (.ref (n + 1)) = itemsOf X (.ref n) := rfl
theorem ls_st : lsOf (st d X) (.ref (n + 2)) = lsOf X (.ref n) := rfl
theorem ls_co : lsOf (a :: X) (.ref (n + 1)) = lsOf X (.ref n) := rfl
theorem lof_st : lstOf (st d X) (.ref (n + 2)) = lstOf X (.ref n) := rfl
theorem lof_co : lstOf (a :: X) (.ref (n + 1)) = lstOf X (.ref n) := rfl
theorem isl_st : isLst (st d X) (.ref (n + 2)) = isLst X (.ref n) := rfl
theorem isl_co : isLst (a :: X) (.ref (n + 1)) = isLst X (.ref n) := rfl
theorem meth_st {T : Tab} {m : Nat} : methOf T (st d X) (.ref (n + 2)) m = methOf T X (.ref n) m := rfl
theorem meth_co {T : Tab} {m : Nat} : methOf T (a :: X) (.ref (n + 1)) m = methOf T X (.ref n) m := rfl
theorem recv_st {T : Tab} {m : Nat} {b : Option BM} : recv T (st d X) (.ref (n + 2)) m b = recv T X (.ref n) m b := by unfold recv; rw [meth_st, isl_st]
theorem recv_co {T : Tab} {m : Nat} {b : Option BM} : recv T (a :: X) (.ref (n + 1)) m b = recv T X (.ref n) m b := by unfold recv; rw [meth_co, isl_co]
theorem dat_st : datS (st d X) (.ref (n + 2)) = datS X (.ref n) := by
  unfold datS deref
  dsimp only
  rw [show (st d X)[n + 2]? = X[n]? from rfl]
  cases X[n]? with
  | none => rfl
  | some o => cases o <;> rfl
theorem dat_co : datS (a :: X) (.ref (n + 1)) = datS X (.ref n) := by
  unfold datS deref
  dsimp only
  rw [show (a :: X)[n + 1]? = X[n]? from rfl]
  cases X[n]? with
  | none => rfl
  | some o => cases o <;> rfl
theorem st_app {T : Store} : st d X ++ T = st d (X ++ T) := rfl
end
end Rp
namespace Rp
namespace Lw
open PySem PySem.Spec PyProof.Rows
/-- by_store -/
def nn0 : List String := ["steps", "rule"]
def bb0 : RSs := .nil
/-- Speed.__init__ -/
def nn1 : List String := ["self", "bits", "beats"]
def bb1 : RSs := (.cons (.asg (.fld (.loc 0) 1937008994) (.loc 1)) (.cons (.asg (.fld (.loc 0) 495873779042) (.loc 2)) .nil))
/-- _law_deck -/
def nn2 : List String := ["_law_script", "_law_cells", "_law_seed", "_law_cell"]
def bb2_0 : RSs := (.cons (.asg (.name 2) (.bin .Mod (.bin .Add (.bin .Mult (.loc 2) (.const (.int 1000003))) (.loc 3)) (.const (.int 170141183460469231731687303715884105727)))) .nil)
def bb2 : RSs := (.cons (.asg (.name 1) (.blt .list (.cons (.slice (.loc 0) .none (.some (.const (.int 63)))) .nil))) (.cons (.asg (.name 2) (.bin .Add (.const (.int 104729)) (.blt .len (.cons (.loc 1) .nil)))) (.cons (.for_ (.name 3) (.val (.loc 1)) bb2_0) (.cons (.ret (.dic [.inr 495740282211, .inr 1684366707, .inr 29793] (.cons (.rev true (.loc 1)) (.cons (.loc 2) (.cons (.const (.int 0)) .nil))))) .nil))))
/-- _law_draw -/
def nn3 : List String := ["_law_deck_here", "_law_sides", "_law_at", "_law_number", "_law_cell"]
def bb3_0 : RSs := (.cons (.expr (.meth (.subK (.loc 0) 495740282211) 110425311047777 (some .append) (.cons (.bin .FloorDiv (.loc 4) (.loc 1)) .nil) [] .nil [])) (.cons (.ret (.bin .Mod (.loc 4) (.loc 1))) .nil))
def bb3_1 : RSs := (.cons (.asg (.name 4) (.meth (.subK (.loc 0) 495740282211) 7368560 (some .pop) .nil [] .nil [])) (.cons (.ife (.cmp .GtE (.loc 4) (.bin .Pow (.const (.int 10)) (.const (.int 18)))) bb3_0 .nil) (.cons (.asg (.name 3) (.bin .Add (.loc 3) (.bin .Mult (.const (.int 69621)) (.loc 4)))) .nil)))
def bb3 : RSs := (.cons (.asg (.subK (.loc 0) 29793) (.bin .Add (.subK (.loc 0) 29793) (.const (.int 1)))) (.cons (.asg (.name 2) (.subK (.loc 0) 29793)) (.cons (.asg (.name 3) (.bin .Add (.subK (.loc 0) 1684366707) (.bin .Mult (.bin .Mult (.const (.int 7919)) (.loc 2)) (.loc 2)))) (.cons (.ife (.cmp .NotEq (.subK (.loc 0) 495740282211) (.lst false .nil)) bb3_1 .nil) (.cons (.asg (.name 3) (.bin .Mod (.bin .Mult (.loc 3) (.bin .Add (.loc 3) (.bin .Mult (.const (.int 48271)) (.loc 2)))) (.const (.int 170141183460469231731687303715884105727)))) (.cons (.asg (.name 3) (.bin .Mod (.bin .Add (.bin .Mult (.loc 3) (.loc 3)) (.bin .Mult (.const (.int 104729)) (.loc 2))) (.const (.int 170141183460469231731687303715884105727)))) (.cons (.ret (.bin .Mod (.bin .FloorDiv (.loc 3) (.const (.int 1048576))) (.loc 1))) .nil)))))))
/-- _law_talk -/
def nn4 : List String := ["_law_deck_here", "_law_stretches", "_law_rates", "_law_longest", "_law_way", "_law_kind", "_law_lengths", "_law_sizes", "_law_k", "_law_row", "_law_rate", "_law_some"]
def bb4_0 : RSs := (.cons (.asg (.name 11) (.lst false (.cons (.bin .Add (.const (.int 1)) (.call 3 "_law_draw" (.cons (.loc 0) (.cons (.const (.int 12)) .nil)) [] .nil [.inl 0, .inl 1])) (.cons (.bin .Mult (.bin .Add (.loc 10) (.const (.int 1))) (.bin .Add (.const (.int 1)) (.call 3 "_law_draw" (.cons (.loc 0) (.cons (.const (.int 20)) .nil)) [] .nil [.inl 0, .inl 1]))) (.cons (.bin .Add (.const (.int 1)) (.call 3 "_law_draw" (.cons (.loc 0) (.cons (.const (.int 1000)) .nil)) [] .nil [.inl 0, .inl 1])) .nil))))) (.cons (.expr (.meth (.loc 9) 110425311047777 (some .append) (.cons (.sub (.bin .Add (.loc 11) (.lst false (.cons (.const (.int 30)) (.cons (.const (.int 1000)) .nil)))) (.loc 4)) .nil) [] .nil [])) .nil))
def bb4_1 : RSs := (.cons (.expr (.meth (.loc 6) 110425311047777 (some .append) (.cons (.sub (.lst false (.cons (.bin .Add (.const (.int 1)) (.call 3 "_law_draw" (.cons (.loc 0) (.cons (.loc 3) .nil)) [] .nil [.inl 0, .inl 1])) (.cons (.const (.int 1)) (.cons (.blt .min (.cons (.const (.int 4)) (.cons (.loc 3) .nil))) (.cons (.loc 3) .nil))))) (.loc 5)) .nil) [] .nil [])) (.cons (.asg (.name 9) (.lst true .nil)) (.cons (.for_ (.name 10) (.range (.cons (.loc 2) .nil)) bb4_0) (.cons (.expr (.meth (.loc 7) 110425311047777 (some .append) (.cons (.blt .tuple (.cons (.loc 9) .nil)) .nil) [] .nil [])) .nil))))
def bb4 : RSs := (.cons (.asg (.name 4) (.call 3 "_law_draw" (.cons (.loc 0) (.cons (.const (.int 5)) .nil)) [] .nil [.inl 0, .inl 1])) (.cons (.asg (.name 5) (.call 3 "_law_draw" (.cons (.loc 0) (.cons (.const (.int 4)) .nil)) [] .nil [.inl 0, .inl 1])) (.cons (.asg (.name 6) (.lst true .nil)) (.cons (.asg (.name 7) (.lst true .nil)) (.cons (.for_ (.name 8) (.range (.cons (.loc 1) .nil)) bb4_1) (.cons (.ret (.tup (.cons (.blt .tuple (.cons (.loc 6) .nil)) (.cons (.blt .tuple (.cons (.loc 7) .nil)) .nil)))) .nil))))))
/-- _law_seen -/
def nn5 : List String := ["_law_deck_here", "_law_talk_here", "_law_number", "_law_kept", "_law_rate", "_law_bits", "_law_beats"]
def bb5_0 : RSs := (.cons (.ret (.tup (.cons (.const (.int 0)) (.cons (.loc 3) (.cons (.const .non) (.cons (.const .non) .nil)))))) .nil)
def bb5 : RSs := (.cons (.asg (.name 2) (.call 3 "_law_draw" (.cons (.loc 0) (.cons (.blt .len (.cons (.sub (.loc 1) (.const (.int 0))) .nil)) .nil)) [] .nil [.inl 0, .inl 1])) (.cons (.asg (.name 3) (.sub (.lst false (.cons (.call 3 "_law_draw" (.cons (.loc 0) (.cons (.const (.int 9)) .nil)) [] .nil [.inl 0, .inl 1]) (.cons (.call 3 "_law_draw" (.cons (.loc 0) (.cons (.const (.int 31)) .nil)) [] .nil [.inl 0, .inl 1]) (.cons (.call 3 "_law_draw" (.cons (.loc 0) (.cons (.const (.int 401)) .nil)) [] .nil [.inl 0, .inl 1]) .nil)))) (.call 3 "_law_draw" (.cons (.loc 0) (.cons (.const (.int 3)) .nil)) [] .nil [.inl 0, .inl 1]))) (.cons (.asg (.name 4) (.call 3 "_law_draw" (.cons (.loc 0) (.cons (.blt .len (.cons (.sub (.sub (.loc 1) (.const (.int 1))) (.const (.int 0))) .nil)) .nil)) [] .nil [.inl 0, .inl 1])) (.cons (.par [5, 6] (.cons (.sub (.lst false (.cons (.bin .Add (.const (.int 1)) (.call 3 "_law_draw" (.cons (.loc 0) (.cons (.const (.int 30)) .nil)) [] .nil [.inl 0, .inl 1])) (.cons (.bin .Add (.const (.int 1)) (.call 3 "_law_draw" (.cons (.loc 0) (.cons (.const (.int 1000)) .nil)) [] .nil [.inl 0, .inl 1])) (.cons (.const (.int 1)) .nil)))) (.call 3 "_law_draw" (.cons (.loc 0) (.cons (.const (.int 3)) .nil)) [] .nil [.inl 0, .inl 1])) (.cons (.bin .Add (.const (.int 1)) (.call 3 "_law_draw" (.cons (.loc 0) (.cons (.const (.int 40)) .nil)) [] .nil [.inl 0, .inl 1])) .nil))) (.cons (.ife (.cmp .Eq (.loc 2) (.const (.int 0))) bb5_0 .nil) (.cons (.ret (.tup (.cons (.loc 2) (.cons (.loc 3) (.cons (.loc 4) (.cons (.mko 0 "Speed" (.cons (.loc 5) (.cons (.loc 6) .nil)) [] .nil [.inl 0, .inl 1] [(1937008994, 0), (495873779042, 1)]) .nil)))))) .nil))))))
/-- _law_numbers -/
def nn6 : List String := ["_law_deck_here", "_law_many", "_law_wide", "_law_k"]
def bb6 : RSs := (.cons (.asg (.name 1) (.sub (.lst false (.cons (.call 3 "_law_draw" (.cons (.loc 0) (.cons (.const (.int 7)) .nil)) [] .nil [.inl 0, .inl 1]) (.cons (.const (.int 30)) .nil))) (.blt .int (.cons (.cmp .Eq (.call 3 "_law_draw" (.cons (.loc 0) (.cons (.const (.int 8)) .nil)) [] .nil [.inl 0, .inl 1]) (.const (.int 5))) .nil)))) (.cons (.asg (.name 2) (.sub (.lst false (.cons (.const (.int 12)) (.cons (.const (.int 101)) .nil))) (.call 3 "_law_draw" (.cons (.loc 0) (.cons (.const (.int 2)) .nil)) [] .nil [.inl 0, .inl 1]))) (.cons (.ret (.blt .tuple (.cons (.srtSet false (.lc false (.call 3 "_law_draw" (.cons (.loc 0) (.cons (.loc 2) .nil)) [] .nil [.inl 0, .inl 1]) (.name 3) (.range (.cons (.loc 1) .nil)) .nil [3])) .nil))) .nil)))
/-- law -/
def nn7 : List String := ["_law_script", "_law_deck_here", "_law_rows", "_law_rules", "_law_talk_here", "_law_kept", "_law_turn", "_law_seen_here", "_law_about", "_law_beats", "_law_here", "_law_k", "_law_due", "_law_row", "_law_beat", "_law_number"]
def bb7_0 : RSs := (.cons (.ret (.const (.bl false))) .nil)
def bb7_1 : RSs := (.cons (.asg (.name 12) (.blt .len (.cons (.lc false (.loc 15) (.name 15) (.val (.sub (.loc 2) (.loc 11))) (.cons (.cmp .LtE (.loc 15) (.loc 9)) .nil) [15]) .nil))) (.cons (.ife (.cmp .NotEq (.blt .repr (.cons (.callE (.sub (.loc 3) (.loc 11)) (.cons (.loc 10) .nil)) .nil)) (.blt .repr (.cons (.loc 12) .nil))) bb7_0 .nil) .nil))
def bb7_2 : RSs := (.cons (.asg (.name 10) (.bin .Add (.tup (.cons (.sub (.loc 7) (.const (.int 0))) (.cons (.loc 9) .nil))) (.slice (.loc 7) (.some (.const (.int 2))) .none))) (.cons (.for_ (.name 11) (.range (.cons (.const (.int 3)) .nil)) bb7_1) .nil))
def bb7_3 : RSs := (.cons (.asg (.name 7) (.call 5 "_law_seen" (.cons (.loc 1) (.cons (.loc 4) .nil)) [] .nil [.inl 0, .inl 1])) (.cons (.asg (.name 8) (.sub (.loc 2) (.bin .Mod (.loc 6) (.const (.int 3))))) (.cons (.for_ (.name 9) (.val (.bin .Add (.bin .Add (.lst false (.cons (.sub (.loc 7) (.const (.int 1))) .nil)) (.blt .list (.cons (.loc 8) .nil))) (.lc false (.blt .max (.cons (.const (.int 0)) (.cons (.bin .Sub (.loc 14) (.const (.int 1))) .nil))) (.name 14) (.val (.loc 8)) .nil [14]))) bb7_2) .nil)))
def bb7 : RSs := (.cons (.asg (.name 1) (.call 2 "_law_deck" (.cons (.loc 0) .nil) [] .nil [.inl 0])) (.cons (.setlc false 2 (.call 6 "_law_numbers" (.cons (.loc 1) .nil) [] .nil [.inl 0]) (.name 11) (.range (.cons (.const (.int 3)) .nil)) .nil [11]) (.cons (.setlc false 3 (.call 0 "by_store" (.cons (.loc 13) .nil) [] .nil [.inl 0]) (.name 13) (.val (.loc 2)) .nil [13]) (.cons (.asg (.name 4) (.call 4 "_law_talk" (.cons (.loc 1) (.cons (.bin .Add (.const (.int 1)) (.call 3 "_law_draw" (.cons (.loc 1) (.cons (.const (.int 12)) .nil)) [] .nil [.inl 0, .inl 1])) (.cons (.bin .Add (.const (.int 1)) (.call 3 "_law_draw" (.cons (.loc 1) (.cons (.const (.int 4)) .nil)) [] .nil [.inl 0, .inl 1])) (.cons (.const (.int 20)) .nil)))) [] .nil [.inl 0, .inl 1, .inl 2, .inl 3])) (.cons (.asg (.name 5) (.blt .repr (.cons (.loc 2) .nil))) (.cons (.for_ (.name 6) (.range (.cons (.const (.int 8)) .nil)) bb7_3) (.cons (.ret (.and (.cons (.cmp .Eq (.blt .repr (.cons (.loc 2) .nil)) (.loc 5)) (.cons (.cmp .Eq (.callE (.call 0 "by_store" (.cons (.tup (.cons (.neg (.const (.int 3))) (.cons (.const (.int 0)) (.cons (.const (.int 2)) .nil)))) .nil) [] .nil [.inl 0]) (.cons (.tup (.cons (.const (.int 0)) (.cons (.const (.int 0)) (.cons (.const .non) (.cons (.const .non) .nil))))) .nil)) (.const (.int 2))) .nil)))) .nil)))))))
/-- by_store.rule -/
def nn8 : List String := ["seen", "steps", "step"]
def bb8 : RSs := (.cons (.ret (.blt .len (.cons (.lc false (.loc 2) (.name 2) (.val (.loc 1)) (.cons (.cmp .LtE (.loc 2) (.sub (.loc 0) (.const (.int 1)))) .nil) [2]) .nil))) .nil)
def tab : Tab := ⟨[⟨nn0, 1, bb0, (some (8, [0]))⟩, ⟨nn1, 3, bb1, .none⟩, ⟨nn2, 1, bb2, .none⟩, ⟨nn3, 2, bb3, .none⟩, ⟨nn4, 4, bb4, .none⟩, ⟨nn5, 2, bb5, .none⟩, ⟨nn6, 1, bb6, .none⟩, ⟨nn7, 1, bb7, .none⟩, ⟨nn8, 2, bb8, .none⟩], [⟨some 1, [], [0]⟩], [], [8]⟩
end Lw
end Rp
namespace Rp
namespace Lw
open PySem
variable {rn : List Nat}
/-! ### the deck: its draws counted, its cells' bits -/
/-- a bound of the cells -/
structure BigB (B : Nat) : Prop where
  ge : 2 ^ 200 ≤ B
  lg : ∀ n : Nat, n < 16777216 * B → n.log2 < 1048600
theorem log_k {n k : Nat} (h : n < 2 ^ k) (hk : 0 < k) : n.log2 < k := by
  by_cases z : n = 0
  · rw [z]
    have : Nat.log2 0 = 0 := by decide
    omega
  · exact (Nat.log2_lt z).mpr h
theorem of_log {n k : Nat} (h : n.log2 < k) : n < 2 ^ k := by
  by_cases z : n = 0
  · rw [z]; exact Nat.pow_pos (by decide)
  · exact (Nat.log2_lt z).mp h
theorem big_ex : ∃ B, BigB B ∧ ∀ z : Int, Builtin.Int.intBits z ≤ 1048576 → z.natAbs < B := by
  have key : ∀ k : Nat, 200 ≤ k → ∃ B, (2 ^ 200 ≤ B ∧ ∀ n : Nat, n < 16777216 * B → n.log2 < k + 24) ∧ ∀ z : Int, Builtin.Int.intBits z ≤ k → z.natAbs < B := by
    intro k hk
    refine ⟨2 ^ k, ⟨Nat.pow_le_pow_right (by decide) hk, fun n h => ?_⟩, fun z h => ?_⟩
    · refine log_k ?_ (by omega)
      rw [Nat.pow_add, Nat.mul_comm]
      exact h
    · unfold Builtin.Int.intBits at h
      by_cases e : z = 0
      · subst e
        exact Nat.pow_pos (by decide)
      · rw [if_neg (by simpa using e)] at h
        exact of_log (by omega)
  obtain ⟨B, h1, h2⟩ := key 1048576 (by decide)
  exact ⟨B, ⟨h1.1, h1.2⟩, h2⟩
abbrev mM : Int := 170141183460469231731687303715884105727
structure DkOk (B : Nat) (d : Dck) (f : Nat) : Prop where
  bits : ∀ x ∈ d.c, x.natAbs < B
  s0 : 0 ≤ d.s
  s1 : d.s < mM
  a0 : 0 ≤ d.a
  a1 : d.a + f ≤ 1099511627776
theorem mul_big {B : Nat} (H : BigB B) {x y : Int} (hx : x.natAbs < 16777216 * B) (hy : y.natAbs < 16777216 * B) : mulOk x y := by
  have a := H.lg _ hx
  have b := H.lg _ hy
  exact .inr (.inr (by omega))
def DrawF (B : Nat) (f : Nat) (C : CS) : Prop := ∀ {d : Dck} {X : Store} {b : Int} {k : Nat} {Q : QV} {R : QX}, (0 < b ∧ b < 1073741824) → DkOk B d (k + 1) → (∀ (n : Int) d', 0 ≤ n → n < b → DkOk B d' k → Q (.int n) (st d' X)) → C f [.ref 1, .int b] (st d X) Q R
theorem drawT {B : Nat} (H : BigB B) (k : Nat) : DrawF B 3 (wpCall tab rn (k + 1)) := by
  show DrawF B 3 (bodyC tab (wpCall tab rn k))
  generalize wpCall tab rn k = C
  intro d X b n Q R hb ok h
  refine ⟨_, rfl, rfl, ?_⟩
  obtain ⟨c, s, a, hc⟩ := d
  obtain ⟨pm, pb⟩ := hb
  obtain ⟨ok1, ok2, ok3, ok4, ok5⟩ := ok
  have ok2 : 0 ≤ s := ok2
  have ok3 : s < mM := ok3
  have ok4 : 0 ≤ a := ok4
  have ok5 : a + (n + 1 : Nat) ≤ 1099511627776 := ok5
  have bg := H.ge
  have m3 : mM = 170141183460469231731687303715884105727 := rfl
  have fin : ∀ (c' : List Int) (num : Int) (cell : Option PV), (hc' : c'.length ≤ 63) → (∀ x ∈ c', x.natAbs < B) → num.natAbs < 8388608 * B → wpSs tab C (drp 4 bb3) [some (.ref 1), some (.int b), some (.int (a + 1)), some (.int num), cell] (st ⟨c', s, a + 1, hc'⟩ X) { nx := fun _ S' => dropW (st ⟨c, s, a, hc⟩ X) Q .non S', rt := dropW (st ⟨c, s, a, hc⟩ X) Q, ex := fun x _ S' => dropX (st ⟨c, s, a, hc⟩ X) R x S' } := by
    intro c' num cell hc' hb' hnum
    conv => whnf
    try dsimp only [startG, nn0, nn1, nn2, nn3, nn4, nn5, nn6, nn7, nn8, List.length, List.map, List.replicate, List.set, List.cons_append, List.nil_append, Nat.reduceAdd, Nat.reduceSub]
    refine onD (mul_big H (by omega) (by omega)) ?_
    conv => whnf
    try dsimp only [startG, nn0, nn1, nn2, nn3, nn4, nn5, nn6, nn7, nn8, List.length, List.map, List.replicate, List.set, List.cons_append, List.nil_append, Nat.reduceAdd, Nat.reduceSub]
    have m1 := Int.emod_nonneg (num * (num + 48271 * (a + 1))) (b := mM) (by decide)
    have m2 := Int.emod_lt_of_pos (num * (num + 48271 * (a + 1))) (b := mM) (by decide)
    generalize num * (num + 48271 * (a + 1)) % 170141183460469231731687303715884105727 = y at m1 m2 ⊢
    refine onD (mul_big H (by omega) (by omega)) ?_
    conv => whnf
    try dsimp only [startG, nn0, nn1, nn2, nn3, nn4, nn5, nn6, nn7, nn8, List.length, List.map, List.replicate, List.set, List.cons_append, List.nil_append, Nat.reduceAdd, Nat.reduceSub]
    refine onD pm ?_
    exact ret_same (h _ ⟨c', s, a + 1, hc'⟩ (Int.emod_nonneg _ (by omega)) (Int.emod_lt_of_pos _ pm) ⟨hb', ok2, ok3, by show 0 ≤ a + 1; omega, by show a + 1 + (n : Int) ≤ _; omega⟩)
  conv => whnf
  try dsimp only [startG, nn0, nn1, nn2, nn3, nn4, nn5, nn6, nn7, nn8, List.length, List.map, List.replicate, List.set, List.cons_append, List.nil_append, Nat.reduceAdd, Nat.reduceSub]
  refine onD (.inr (.inl ⟨by omega, by omega⟩)) ?_
  have sq : (7919 * (a + 1) * (a + 1)).natAbs ≤ 2 ^ 100 := by
    rw [Int.natAbs_mul]
    have h1 : (7919 * (a + 1)).natAbs ≤ 2 ^ 55 := by omega
    have h2 : (a + 1).natAbs ≤ 2 ^ 45 := by omega
    exact Nat.le_trans (Nat.mul_le_mul h1 h2) (by decide)
  generalize 7919 * (a + 1) * (a + 1) = z at sq
  rcases List.eq_nil_or_concat c with e0 | ⟨L, w, e0⟩
  · subst e0
    have e := fin [] (s + z) none hc (by simp) (by omega)
    conv at e => whnf
    conv => whnf
    try dsimp only [startG, nn0, nn1, nn2, nn3, nn4, nn5, nn6, nn7, nn8, List.length, List.map, List.replicate, List.set, List.cons_append, List.nil_append, Nat.reduceAdd, Nat.reduceSub]
    exact e
  · rw [List.concat_eq_append] at e0
    subst e0
    conv => whnf
    try dsimp only [startG, nn0, nn1, nn2, nn3, nn4, nn5, nn6, nn7, nn8, List.length, List.map, List.replicate, List.set, List.cons_append, List.nil_append, Nat.reduceAdd, Nat.reduceSub]
    refine onS_of (x := .list ((L ++ [w]).map .int)) (by
      show (PV.dats (nums (L ++ [w]))).map PyData.list = _
      rw [dats_nums]; rfl) ?_
    conv => whnf
    try dsimp only [startG, nn0, nn1, nn2, nn3, nn4, nn5, nn6, nn7, nn8, List.length, List.map, List.replicate, List.set, List.cons_append, List.nil_append, Nat.reduceAdd, Nat.reduceSub]
    refine onT_of (shaped_ints _) ?_
    conv => whnf
    try dsimp only [startG, nn0, nn1, nn2, nn3, nn4, nn5, nn6, nn7, nn8, List.length, List.map, List.replicate, List.set, List.cons_append, List.nil_append, Nat.reduceAdd, Nat.reduceSub]
    have e1 : PyData.eqv (.list ((L ++ [w]).map .int)) (.list []) = false := by cases L <;> rfl
    refine iteT (by rw [e1]; rfl) ?_
    have hL : L.length + 1 ≤ 63 := by simpa using hc
    have hw := ok1 w (by simp)
    conv => whnf
    try dsimp only [startG, nn0, nn1, nn2, nn3, nn4, nn5, nn6, nn7, nn8, List.length, List.map, List.replicate, List.set, List.cons_append, List.nil_append, Nat.reduceAdd, Nat.reduceSub]
    refine onS_of (x := .int w) (by rw [show nums (L ++ [w]) = nums L ++ [.int w] from nums_app ..]; simp) ?_
    conv => whnf
    try dsimp only [startG, nn0, nn1, nn2, nn3, nn4, nn5, nn6, nn7, nn8, List.length, List.map, List.replicate, List.set, List.cons_append, List.nil_append, Nat.reduceAdd, Nat.reduceSub]
    rw [show (nums (L ++ [w])).dropLast = nums L by rw [nums_app]; simp]
    refine iteD (fun hz => ?_) (fun hz => ?_)
    · conv => whnf
      try dsimp only [startG, nn0, nn1, nn2, nn3, nn4, nn5, nn6, nn7, nn8, List.length, List.map, List.replicate, List.set, List.cons_append, List.nil_append, Nat.reduceAdd, Nat.reduceSub]
      refine onD ⟨pm, pb⟩ ?_
      conv => whnf
      try dsimp only [startG, nn0, nn1, nn2, nn3, nn4, nn5, nn6, nn7, nn8, List.length, List.map, List.replicate, List.set, List.cons_append, List.nil_append, Nat.reduceAdd, Nat.reduceSub]
      refine onD (by show (nums L).length < 16777216; rw [List.length_map]; omega) ?_
      conv => whnf
      try dsimp only [startG, nn0, nn1, nn2, nn3, nn4, nn5, nn6, nn7, nn8, List.length, List.map, List.replicate, List.set, List.cons_append, List.nil_append, Nat.reduceAdd, Nat.reduceSub]
      refine onD pm ?_
      refine ret_same ?_
      have hz : (1000000000000000000 : Int) ≤ w := hz
      have q0 : 0 ≤ w / b := Int.ediv_nonneg (by omega) (by omega)
      have q1 : w / b ≤ w := Int.ediv_le_self _ (by omega)
      have := h (w % b) ⟨L ++ [w / b], s, a + 1, by simpa using hL⟩ (Int.emod_nonneg _ (by omega)) (Int.emod_lt_of_pos _ pm) ⟨fun x hx => by
        rcases List.mem_append.mp hx with hx | hx
        · exact ok1 x (List.mem_append_left _ hx)
        · rw [List.mem_singleton] at hx
          omega, ok2, ok3, by show 0 ≤ a + 1; omega, by show a + 1 + (n : Int) ≤ _; omega⟩
      rw [show st ⟨L ++ [w / b], s, a + 1, by simpa using hL⟩ X = .lst (nums L ++ [.int (w / b)]) :: .dic [(.inr 495740282211, .ref 0), (.inr 1684366707, .int s), (.inr 29793, .int (a + 1))] :: X from by unfold st; rw [nums_app]; rfl] at this
      exact this
    · conv => whnf
      try dsimp only [startG, nn0, nn1, nn2, nn3, nn4, nn5, nn6, nn7, nn8, List.length, List.map, List.replicate, List.set, List.cons_append, List.nil_append, Nat.reduceAdd, Nat.reduceSub]
      have e := fin L (s + z + 69621 * w) (some (.int w)) (by omega) (fun x hx => ok1 x (by simp [hx])) (by omega)
      conv at e => whnf
      conv => whnf
      try dsimp only [startG, nn0, nn1, nn2, nn3, nn4, nn5, nn6, nn7, nn8, List.length, List.map, List.replicate, List.set, List.cons_append, List.nil_append, Nat.reduceAdd, Nat.reduceSub]
      exact e
theorem deckT {B : Nat} (H : BigB B) (k : Nat) {ns : List Int} (hb : ∀ z ∈ ns, z.natAbs < B) {Q : QV} {R : QX} (h : ∀ d, DkOk B d 1000000000000 → Q (.ref 1) (st d [])) : wpCall tab rn (k + 1) 2 [.scr (nums ns)] [] Q R := by
  show bodyC tab (wpCall tab rn k) _ _ _ _ _
  generalize wpCall tab rn k = C
  refine ⟨_, rfl, rfl, ?_⟩
  conv => whnf
  try dsimp only [startG, nn0, nn1, nn2, nn3, nn4, nn5, nn6, nn7, nn8, List.length, List.map, List.replicate, List.set, List.cons_append, List.nil_append, Nat.reduceAdd, Nat.reduceSub]
  have ec : cutL (nums ns) none (some 63) = nums (cutL ns none (some 63)) := cut_map
  rw [ec]
  have hl : (cutL ns none (some 63)).length ≤ 63 := cut63
  have hm : ∀ x ∈ cutL ns none (some 63), x.natAbs < B := fun x hx => by
    rw [cut_to (by decide)] at hx
    exact hb x (List.mem_of_mem_take hx)
  generalize cutL ns none (some 63) = cs at hl hm ⊢
  have m3 : mM = 170141183460469231731687303715884105727 := rfl
  refine for_by (fun r σ S => S = [] ∧ (∀ x ∈ r, ∃ i, x = PV.int i) ∧ ∃ s kv, 0 ≤ s ∧ s < mM ∧ σ = [some (.scr (nums ns)), some (.ls (nums cs)), some (.int s), kv]) ?_ ?_ ?_ _ _ _ ?_
  · rintro r σ S ⟨rfl, _⟩
    exact trivial
  · rintro σ S ⟨rfl, _, s, kv, s0, s1, rfl⟩
    conv => whnf
    try dsimp only [startG, nn0, nn1, nn2, nn3, nn4, nn5, nn6, nn7, nn8, List.length, List.map, List.replicate, List.set, List.cons_append, List.nil_append, Nat.reduceAdd, Nat.reduceSub]
    refine ret_same ?_
    have := h ⟨cs.reverse, s, 0, by rw [List.length_reverse]; exact hl⟩ ⟨fun x hx => hm x (List.mem_reverse.mp hx), s0, s1, by show (0 : Int) ≤ 0; decide, by show (0 : Int) + ((1000000000000 : Nat) : Int) ≤ 1099511627776; omega⟩
    unfold st at this
    have e2 : (nums cs).reverse = nums cs.reverse := (List.map_reverse ..).symm
    rw [← e2] at this
    exact this
  · rintro x r σ S K ⟨rfl, hx, s, kv, s0, s1, rfl⟩ hk
    obtain ⟨i, rfl⟩ := hx _ (List.mem_cons_self ..)
    conv => whnf
    try dsimp only [startG, nn0, nn1, nn2, nn3, nn4, nn5, nn6, nn7, nn8, List.length, List.map, List.replicate, List.set, List.cons_append, List.nil_append, Nat.reduceAdd, Nat.reduceSub]
    refine onD (.inr (.inl ⟨by decide, by decide⟩)) ?_
    conv => whnf
    try dsimp only [startG, nn0, nn1, nn2, nn3, nn4, nn5, nn6, nn7, nn8, List.length, List.map, List.replicate, List.set, List.cons_append, List.nil_append, Nat.reduceAdd, Nat.reduceSub]
    exact hk _ _ ⟨rfl, fun y hy => hx y (List.mem_cons_of_mem _ hy), _, _, Int.emod_nonneg _ (by decide), Int.emod_lt_of_pos _ (by decide), rfl⟩
  · refine ⟨rfl, fun x hx => ?_, 104729 + ((nums cs).length : Int), none, by omega, by rw [List.length_map]; omega, rfl⟩
    obtain ⟨i, _, e⟩ := List.mem_map.mp hx
    exact ⟨i, e.symm⟩
/-- fewer draws left -/
theorem DkOk.less {B : Nat} {d : Dck} {f g : Nat} (h : DkOk B d f) (l : g ≤ f) : DkOk B d g := ⟨h.bits, h.s0, h.s1, h.a0, by have := h.a1; omega⟩
end Lw
end Rp
namespace Rp
namespace Lw
open PySem
variable {rn : List Nat}
/-- a talk: lengths, sizes -/
structure TOk (L : List Int) (Z : List (List Int)) (r : Nat) : Prop where
  ne : 0 < L.length
  le : L.length ≤ 12
  pos : ∀ x ∈ L, 1 ≤ x ∧ x ≤ 20
  zl : Z.length = L.length
  zr : ∀ z ∈ Z, z.length = r ∧ ∀ x ∈ z, 1 ≤ x ∧ x ≤ 1000
  r0 : 1 ≤ r ∧ r ≤ 4
abbrev talkP (L : List Int) (Z : List (List Int)) : PV := .tup [.tup (nums L), .tup (rows Z)]
theorem talk_in {L : List Int} {Z : List (List Int)} {n : Nat} : PV.inR n (talkP L Z) = true := by
  show (PV.inRs n (nums L) && (PV.inRs n (rows Z) && true)) = true
  rw [inRs_nums, inRs_map (f := fun z => PV.tup (nums z)) fun z _ => inRs_nums z]; rfl
/-! ### a list at the end of a store -/
section
variable {d : Dck} {a b : SO} {J : Store} {xs : List PV}
theorem its_e4 : itemsOf (st d (a :: b :: (J ++ [.lst xs]))) (.ref (J.length + 4)) = some xs := by
  unfold itemsOf st
  dsimp only
  rw [List.getElem?_cons_succ, List.getElem?_cons_succ, List.getElem?_cons_succ, List.getElem?_cons_succ, at0]
  rfl
theorem lst_e4 : lstAt (st d (a :: b :: (J ++ [.lst xs]))) (J.length + 4) = some xs := by
  unfold lstAt st
  rw [List.getElem?_cons_succ, List.getElem?_cons_succ, List.getElem?_cons_succ, List.getElem?_cons_succ, at0]
  rfl
theorem isl_e4 : isLst (st d (a :: b :: (J ++ [.lst xs]))) (.ref (J.length + 4)) = true := by
  unfold isLst st
  dsimp only
  rw [List.getElem?_cons_succ, List.getElem?_cons_succ, List.getElem?_cons_succ, List.getElem?_cons_succ, at0]
  rfl
theorem recv_e4 {T : Tab} {n : Nat} {bm : BM} : recv T (st d (a :: b :: (J ++ [.lst xs]))) (.ref (J.length + 4)) n (some bm) = some (.inr bm) := by
  have e : methOf T (st d (a :: b :: (J ++ [.lst xs]))) (.ref (J.length + 4)) n = none := by
    unfold methOf insOf st
    dsimp only
    rw [List.getElem?_cons_succ, List.getElem?_cons_succ, List.getElem?_cons_succ, List.getElem?_cons_succ, at0]
    rfl
  unfold recv
  rw [e, isl_e4]
  rfl
theorem set_e4 {o v : SO} : (st d (a :: b :: (J ++ [o]))).set (J.length + 4) v = st d (a :: b :: (J ++ [v])) := by
  unfold st
  rw [List.set_cons_succ, List.set_cons_succ, List.set_cons_succ, List.set_cons_succ, set0]
  rfl
end
def TalkOk (B : Nat) (C : CS) : Prop := ∀ {d : Dck} {m r : Int} {k : Nat} {Q : QV} {R : QX}, 1 ≤ m → m ≤ 12 → 1 ≤ r → r ≤ 4 → DkOk B d (k + 1000) → (∀ L Z d', TOk L Z r.toNat → DkOk B d' k → Q (talkP L Z) (st d' [])) → C 4 [.ref 1, .int m, .int r, .int 20] (st d []) Q R
theorem talkT {B : Nat} (H : BigB B) (n : Nat) : TalkOk B (wpCall tab rn (n + 2)) := by
  have hd : DrawF B 3 (wpCall tab rn (n + 1)) := drawT H n
  show TalkOk B (bodyC tab (wpCall tab rn (n + 1)))
  generalize wpCall tab rn (n + 1) = C at *
  intro d m r k Q R m0 m1 r0 r1 ok h
  refine ⟨_, rfl, rfl, ?_⟩
  conv => whnf
  try dsimp only [startG, nn0, nn1, nn2, nn3, nn4, nn5, nn6, nn7, nn8, List.length, List.map, List.replicate, List.set, List.cons_append, List.nil_append, Nat.reduceAdd, Nat.reduceSub]
  refine hd (k := k + 999) ⟨by decide, by decide⟩ ok fun way d1 w0 w1 ok1 => ?_
  conv => whnf
  try dsimp only [startG, nn0, nn1, nn2, nn3, nn4, nn5, nn6, nn7, nn8, List.length, List.map, List.replicate, List.set, List.cons_append, List.nil_append, Nat.reduceAdd, Nat.reduceSub]
  refine hd (k := k + 998) ⟨by decide, by decide⟩ ok1 fun knd d2 k0 k1 ok2 => ?_
  repeat ((conv => whnf); (try dsimp only [startG, nn0, nn1, nn2, nn3, nn4, nn5, nn6, nn7, nn8, List.length, List.map, List.replicate, List.set, List.cons_append, List.nil_append, Nat.reduceAdd, Nat.reduceSub]); (simp only [st_len, st_app, at_st, set_st, lst_st, lst_co, ins_st, ins_co, its_st, its_co, ls_st, ls_co, lof_st, lof_co, isl_st, isl_co, meth_st, meth_co, recv_st, recv_co, dat_st, dat_co, at0, atj, set0, setj, lstAt0, lstAtj, insOf0, insOfj, itemsOf0, itemsOfj, lstOf0, lstOfj, lsOf0, lsOfj, isLst0, isLstj, methOf0, methOfj, recv0, recvj, datS0, datSj, List.cons_append, List.nil_append, List.append_assoc, List.length_append, List.length_cons, List.length_nil, List.getElem?_cons_zero, List.getElem?_cons_succ, List.set_cons_zero, List.set_cons_succ, Nat.add_zero, Nat.zero_add]))
  conv => whnf
  try dsimp only [startG, nn0, nn1, nn2, nn3, nn4, nn5, nn6, nn7, nn8, List.length, List.map, List.replicate, List.set, List.cons_append, List.nil_append, Nat.reduceAdd, Nat.reduceSub]
  refine onD ⟨by omega, by omega⟩ ?_
  refine for_by (fun q σ S' => ∃ d' Lx Z J kv rv jv sv, σ = [some (.ref 1), some (.int m), some (.int r), some (.int 20), some (.int way), some (.int knd), some (.ref 2), some (.ref 3), kv, rv, jv, sv] ∧ S' = st d' (.lst (nums Lx) :: .lst (rows Z) :: J) ∧ Lx.length + q.length = m.toNat ∧ Z.length = Lx.length ∧ (∀ x ∈ Lx, 1 ≤ x ∧ x ≤ 20) ∧ (∀ z ∈ Z, z.length = r.toNat ∧ ∀ x ∈ z, 1 ≤ x ∧ x ≤ 1000) ∧ DkOk B d' (k + 30 * q.length)) ?_ ?_ ?_ _ _ _ ?_
  · exact fun _ _ _ _ => trivial
  · rintro σ S' ⟨d', Lx, Z, J, kv, rv, jv, sv, rfl, rfl, hl, hz, hp, hp2, ok⟩
    have hl : Lx.length = m.toNat := hl
    repeat ((conv => whnf); (try dsimp only [startG, nn0, nn1, nn2, nn3, nn4, nn5, nn6, nn7, nn8, List.length, List.map, List.replicate, List.set, List.cons_append, List.nil_append, Nat.reduceAdd, Nat.reduceSub]); (simp only [st_len, st_app, at_st, set_st, lst_st, lst_co, ins_st, ins_co, its_st, its_co, ls_st, ls_co, lof_st, lof_co, isl_st, isl_co, meth_st, meth_co, recv_st, recv_co, dat_st, dat_co, at0, atj, set0, setj, lstAt0, lstAtj, insOf0, insOfj, itemsOf0, itemsOfj, lstOf0, lstOfj, lsOf0, lsOfj, isLst0, isLstj, methOf0, methOfj, recv0, recvj, datS0, datSj, List.cons_append, List.nil_append, List.append_assoc, List.length_append, List.length_cons, List.length_nil, List.getElem?_cons_zero, List.getElem?_cons_succ, List.set_cons_zero, List.set_cons_succ, Nat.add_zero, Nat.zero_add]))
    conv => whnf
    try dsimp only [startG, nn0, nn1, nn2, nn3, nn4, nn5, nn6, nn7, nn8, List.length, List.map, List.replicate, List.set, List.cons_append, List.nil_append, Nat.reduceAdd, Nat.reduceSub]
    exact ret0 talk_in (h Lx Z d' ⟨by omega, by omega, hp, hz, hp2, by omega, by omega⟩ ok)
  · rintro x q σ S' K ⟨d', Lx, Z, J, kv, rv, jv, sv, rfl, rfl, hl, hz, hp, hp2, ok⟩ hk
    rw [List.length_cons] at hl ok
    repeat ((conv => whnf); (try dsimp only [startG, nn0, nn1, nn2, nn3, nn4, nn5, nn6, nn7, nn8, List.length, List.map, List.replicate, List.set, List.cons_append, List.nil_append, Nat.reduceAdd, Nat.reduceSub]); (simp only [st_len, st_app, at_st, set_st, lst_st, lst_co, ins_st, ins_co, its_st, its_co, ls_st, ls_co, lof_st, lof_co, isl_st, isl_co, meth_st, meth_co, recv_st, recv_co, dat_st, dat_co, at0, atj, set0, setj, lstAt0, lstAtj, insOf0, insOfj, itemsOf0, itemsOfj, lstOf0, lstOfj, lsOf0, lsOfj, isLst0, isLstj, methOf0, methOfj, recv0, recvj, datS0, datSj, List.cons_append, List.nil_append, List.append_assoc, List.length_append, List.length_cons, List.length_nil, List.getElem?_cons_zero, List.getElem?_cons_succ, List.set_cons_zero, List.set_cons_succ, Nat.add_zero, Nat.zero_add]))
    conv => whnf
    try dsimp only [startG, nn0, nn1, nn2, nn3, nn4, nn5, nn6, nn7, nn8, List.length, List.map, List.replicate, List.set, List.cons_append, List.nil_append, Nat.reduceAdd, Nat.reduceSub]
    refine hd (k := k + 30 * q.length + 29) ⟨by decide, by decide⟩ (ok.less (by omega)) fun u1 e1 l1 g1 ok1 => ?_
    repeat ((conv => whnf); (try dsimp only [startG, nn0, nn1, nn2, nn3, nn4, nn5, nn6, nn7, nn8, List.length, List.map, List.replicate, List.set, List.cons_append, List.nil_append, Nat.reduceAdd, Nat.reduceSub]); (simp only [st_len, st_app, at_st, set_st, lst_st, lst_co, ins_st, ins_co, its_st, its_co, ls_st, ls_co, lof_st, lof_co, isl_st, isl_co, meth_st, meth_co, recv_st, recv_co, dat_st, dat_co, at0, atj, set0, setj, lstAt0, lstAtj, insOf0, insOfj, itemsOf0, itemsOfj, lstOf0, lstOfj, lsOf0, lsOfj, isLst0, isLstj, methOf0, methOfj, recv0, recvj, datS0, datSj, List.cons_append, List.nil_append, List.append_assoc, List.length_append, List.length_cons, List.length_nil, List.getElem?_cons_zero, List.getElem?_cons_succ, List.set_cons_zero, List.set_cons_succ, Nat.add_zero, Nat.zero_add]))
    conv => whnf
    try dsimp only [startG, nn0, nn1, nn2, nn3, nn4, nn5, nn6, nn7, nn8, List.length, List.map, List.replicate, List.set, List.cons_append, List.nil_append, Nat.reduceAdd, Nat.reduceSub]
    obtain ⟨v, hv, e⟩ := idx_some (xs := [PV.int (1 + u1), .int 1, .int (minI [4, 20]), .int 20]) (k := knd) k0 (by show knd < 4; assumption)
    refine onS_of e ?_
    obtain ⟨wi, rfl, b0, b1⟩ : ∃ i : Int, v = .int i ∧ 1 ≤ i ∧ i ≤ 20 := by
      simp only [List.mem_cons, List.not_mem_nil, or_false] at hv
      have em : minI [4, 20] = 4 := rfl
      rw [em] at hv
      rcases hv with rfl | rfl | rfl | rfl <;> exact ⟨_, rfl, by omega, by omega⟩
    repeat ((conv => whnf); (try dsimp only [startG, nn0, nn1, nn2, nn3, nn4, nn5, nn6, nn7, nn8, List.length, List.map, List.replicate, List.set, List.cons_append, List.nil_append, Nat.reduceAdd, Nat.reduceSub]); (simp only [st_len, st_app, at_st, set_st, lst_st, lst_co, ins_st, ins_co, its_st, its_co, ls_st, ls_co, lof_st, lof_co, isl_st, isl_co, meth_st, meth_co, recv_st, recv_co, dat_st, dat_co, at0, atj, set0, setj, lstAt0, lstAtj, insOf0, insOfj, itemsOf0, itemsOfj, lstOf0, lstOfj, lsOf0, lsOfj, isLst0, isLstj, methOf0, methOfj, recv0, recvj, datS0, datSj, List.cons_append, List.nil_append, List.append_assoc, List.length_append, List.length_cons, List.length_nil, List.getElem?_cons_zero, List.getElem?_cons_succ, List.set_cons_zero, List.set_cons_succ, Nat.add_zero, Nat.zero_add]))
    conv => whnf
    try dsimp only [startG, nn0, nn1, nn2, nn3, nn4, nn5, nn6, nn7, nn8, List.length, List.map, List.replicate, List.set, List.cons_append, List.nil_append, Nat.reduceAdd, Nat.reduceSub]
    have lL : (nums Lx).length = Lx.length := List.length_map ..
    have lZ : (rows Z).length = Z.length := List.length_map ..
    refine onD (by show (nums Lx).length < 16777216; omega) ?_
    repeat ((conv => whnf); (try dsimp only [startG, nn0, nn1, nn2, nn3, nn4, nn5, nn6, nn7, nn8, List.length, List.map, List.replicate, List.set, List.cons_append, List.nil_append, Nat.reduceAdd, Nat.reduceSub]); (simp only [st_len, st_app, at_st, set_st, lst_st, lst_co, ins_st, ins_co, its_st, its_co, ls_st, ls_co, lof_st, lof_co, isl_st, isl_co, meth_st, meth_co, recv_st, recv_co, dat_st, dat_co, at0, atj, set0, setj, lstAt0, lstAtj, insOf0, insOfj, itemsOf0, itemsOfj, lstOf0, lstOfj, lsOf0, lsOfj, isLst0, isLstj, methOf0, methOfj, recv0, recvj, datS0, datSj, List.cons_append, List.nil_append, List.append_assoc, List.length_append, List.length_cons, List.length_nil, List.getElem?_cons_zero, List.getElem?_cons_succ, List.set_cons_zero, List.set_cons_succ, Nat.add_zero, Nat.zero_add]))
    conv => whnf
    try dsimp only [startG, nn0, nn1, nn2, nn3, nn4, nn5, nn6, nn7, nn8, List.length, List.map, List.replicate, List.set, List.cons_append, List.nil_append, Nat.reduceAdd, Nat.reduceSub]
    refine onD ⟨by omega, by omega⟩ ?_
    have eL : nums Lx ++ [PV.int wi] = nums (Lx ++ [wi]) := by rw [nums_app]; rfl
    refine for_by (fun q2 σ S' => ∃ (d'' : Dck) (ns : List Int) (jv sv : Option PV), σ = [some (.ref 1), some (.int m), some (.int r), some (.int 20), some (.int way), some (.int knd), some (.ref 2), some (.ref 3), some x, some (.ref (J.length + 4)), jv, sv] ∧ S' = st d'' (.lst (nums (Lx ++ [wi])) :: .lst (rows Z) :: (J ++ [.lst (nums ns)])) ∧ ns.length + q2.length = r.toNat ∧ (∀ x ∈ ns, 1 ≤ x ∧ x ≤ 1000) ∧ (∀ y ∈ q2, ∃ j : Int, y = .int j ∧ 0 ≤ j ∧ j < 4) ∧ DkOk B d'' (k + 30 * q.length + 4 * q2.length)) ?_ ?_ ?_ _ _ _ ?_
    · exact fun _ _ _ _ => trivial
    · rintro σ S' ⟨d'', ns, jv, sv, rfl, rfl, hn, hx, _, okw⟩
      have hn : ns.length = r.toNat := hn
      conv => whnf
      try dsimp only [startG, nn0, nn1, nn2, nn3, nn4, nn5, nn6, nn7, nn8, List.length, List.map, List.replicate, List.set, List.cons_append, List.nil_append, Nat.reduceAdd, Nat.reduceSub]
      refine onS_of its_e4 ?_
      repeat ((conv => whnf); (try dsimp only [startG, nn0, nn1, nn2, nn3, nn4, nn5, nn6, nn7, nn8, List.length, List.map, List.replicate, List.set, List.cons_append, List.nil_append, Nat.reduceAdd, Nat.reduceSub]); (simp only [st_len, st_app, at_st, set_st, lst_st, lst_co, ins_st, ins_co, its_st, its_co, ls_st, ls_co, lof_st, lof_co, isl_st, isl_co, meth_st, meth_co, recv_st, recv_co, dat_st, dat_co, at0, atj, set0, setj, lstAt0, lstAtj, insOf0, insOfj, itemsOf0, itemsOfj, lstOf0, lstOfj, lsOf0, lsOfj, isLst0, isLstj, methOf0, methOfj, recv0, recvj, datS0, datSj, List.cons_append, List.nil_append, List.append_assoc, List.length_append, List.length_cons, List.length_nil, List.getElem?_cons_zero, List.getElem?_cons_succ, List.set_cons_zero, List.set_cons_succ, Nat.add_zero, Nat.zero_add]))
      conv => whnf
      try dsimp only [startG, nn0, nn1, nn2, nn3, nn4, nn5, nn6, nn7, nn8, List.length, List.map, List.replicate, List.set, List.cons_append, List.nil_append, Nat.reduceAdd, Nat.reduceSub]
      refine onD (by show (rows Z).length < 16777216; omega) ?_
      repeat ((conv => whnf); (try dsimp only [startG, nn0, nn1, nn2, nn3, nn4, nn5, nn6, nn7, nn8, List.length, List.map, List.replicate, List.set, List.cons_append, List.nil_append, Nat.reduceAdd, Nat.reduceSub]); (simp only [st_len, st_app, at_st, set_st, lst_st, lst_co, ins_st, ins_co, its_st, its_co, ls_st, ls_co, lof_st, lof_co, isl_st, isl_co, meth_st, meth_co, recv_st, recv_co, dat_st, dat_co, at0, atj, set0, setj, lstAt0, lstAtj, insOf0, insOfj, itemsOf0, itemsOfj, lstOf0, lstOfj, lsOf0, lsOfj, isLst0, isLstj, methOf0, methOfj, recv0, recvj, datS0, datSj, List.cons_append, List.nil_append, List.append_assoc, List.length_append, List.length_cons, List.length_nil, List.getElem?_cons_zero, List.getElem?_cons_succ, List.set_cons_zero, List.set_cons_succ, Nat.add_zero, Nat.zero_add]))
      conv => whnf
      try dsimp only [startG, nn0, nn1, nn2, nn3, nn4, nn5, nn6, nn7, nn8, List.length, List.map, List.replicate, List.set, List.cons_append, List.nil_append, Nat.reduceAdd, Nat.reduceSub]
      have eZ : rows (Z ++ [ns]) = rows Z ++ [.tup (nums ns)] := by unfold rows; rw [List.map_append]; rfl
      refine hk _ _ ⟨d'', Lx ++ [wi], Z ++ [ns], J ++ [.lst (nums ns)], _, _, _, _, rfl, by rw [eZ], by simp; omega, by simp; omega, fun a ha => ?_, fun a ha => ?_, okw.less (by simp)⟩
      · rcases List.mem_append.mp ha with ha | ha
        · exact hp a ha
        · rw [List.mem_singleton] at ha
          omega
      · rcases List.mem_append.mp ha with ha | ha
        · exact hp2 a ha
        · rw [List.mem_singleton] at ha
          subst ha
          exact ⟨hn, hx⟩
    · rintro y q2 σ S' K2 ⟨d'', ns, jv, sv, rfl, rfl, hn, hx, hy, okw⟩ hk2
      rw [List.length_cons] at hn okw
      obtain ⟨j, rfl, j0, j1⟩ := hy y (List.mem_cons_self ..)
      have hy2 : ∀ y ∈ q2, ∃ j : Int, y = .int j ∧ 0 ≤ j ∧ j < 4 := fun y h => hy y (List.mem_cons_of_mem _ h)
      conv => whnf
      try dsimp only [startG, nn0, nn1, nn2, nn3, nn4, nn5, nn6, nn7, nn8, List.length, List.map, List.replicate, List.set, List.cons_append, List.nil_append, Nat.reduceAdd, Nat.reduceSub]
      refine hd (k := k + 30 * q.length + 4 * q2.length + 3) ⟨by decide, by decide⟩ (okw.less (by omega)) fun u1 e1 l1 g1 ok1 => ?_
      conv => whnf
      try dsimp only [startG, nn0, nn1, nn2, nn3, nn4, nn5, nn6, nn7, nn8, List.length, List.map, List.replicate, List.set, List.cons_append, List.nil_append, Nat.reduceAdd, Nat.reduceSub]
      refine hd (k := k + 30 * q.length + 4 * q2.length + 2) ⟨by decide, by decide⟩ ok1 fun u2 e2 l2 g2 ok2 => ?_
      conv => whnf
      try dsimp only [startG, nn0, nn1, nn2, nn3, nn4, nn5, nn6, nn7, nn8, List.length, List.map, List.replicate, List.set, List.cons_append, List.nil_append, Nat.reduceAdd, Nat.reduceSub]
      refine onD (.inl (fit_of (by omega) (by omega))) ?_
      conv => whnf
      try dsimp only [startG, nn0, nn1, nn2, nn3, nn4, nn5, nn6, nn7, nn8, List.length, List.map, List.replicate, List.set, List.cons_append, List.nil_append, Nat.reduceAdd, Nat.reduceSub]
      refine hd (k := k + 30 * q.length + 4 * q2.length + 1) ⟨by decide, by decide⟩ ok2 fun u3 e3 l3 g3 ok3 => ?_
      have p0 : (1 : Int) * 1 ≤ (j + 1) * (1 + u2) := Int.mul_le_mul (by omega) (by omega) (by omega) (by omega)
      have p1 : (j + 1) * (1 + u2) ≤ 4 * 20 := Int.mul_le_mul (by omega) (by omega) (by omega) (by omega)
      generalize (j + 1) * (1 + u2) = pr at p0 p1 ⊢
      conv => whnf
      try dsimp only [startG, nn0, nn1, nn2, nn3, nn4, nn5, nn6, nn7, nn8, List.length, List.map, List.replicate, List.set, List.cons_append, List.nil_append, Nat.reduceAdd, Nat.reduceSub]
      refine onRecv_blt recv_e4 ?_
      conv => whnf
      try dsimp only [startG, nn0, nn1, nn2, nn3, nn4, nn5, nn6, nn7, nn8, List.length, List.map, List.replicate, List.set, List.cons_append, List.nil_append, Nat.reduceAdd, Nat.reduceSub]
      obtain ⟨v, hv, e⟩ := idx_some (xs := [PV.int (1 + u1), .int pr, .int (1 + u3), .int 30, .int 1000]) (k := way) w0 (by show way < 5; assumption)
      refine onS_of e ?_
      obtain ⟨ci, rfl, c0, c1⟩ : ∃ i : Int, v = .int i ∧ 1 ≤ i ∧ i ≤ 1000 := by
        simp only [List.mem_cons, List.not_mem_nil, or_false] at hv
        rcases hv with rfl | rfl | rfl | rfl | rfl <;> exact ⟨_, rfl, by omega, by omega⟩
      conv => whnf
      try dsimp only [startG, nn0, nn1, nn2, nn3, nn4, nn5, nn6, nn7, nn8, List.length, List.map, List.replicate, List.set, List.cons_append, List.nil_append, Nat.reduceAdd, Nat.reduceSub]
      refine onS_of lst_e4 ?_
      conv => whnf
      try dsimp only [startG, nn0, nn1, nn2, nn3, nn4, nn5, nn6, nn7, nn8, List.length, List.map, List.replicate, List.set, List.cons_append, List.nil_append, Nat.reduceAdd, Nat.reduceSub]
      have ln : (nums ns).length = ns.length := List.length_map ..
      refine onD (by show (nums ns).length < 16777216; omega) ?_
      rw [set_e4]
      refine hk2 _ _ ⟨e3, ns ++ [ci], _, _, rfl, by rw [show nums (ns ++ [ci]) = nums ns ++ [.int ci] from nums_app ..], by simp; omega, fun a ha => ?_, hy2, ok3.less (by omega)⟩
      rcases List.mem_append.mp ha with ha | ha
      · exact hx a ha
      · rw [List.mem_singleton] at ha
        omega
    · refine ⟨e1, [], jv, sv, ?_, ?_, ?_, by simp, fun y hy => ?_, ok1.less ?_⟩
      · first | rfl | (simp only [List.length_append, List.length_cons]; rfl)
      · first | rfl | (rw [eL]; rfl)
      · rw [rng_len]; simp
      · obtain ⟨i, rfl, i0, i1⟩ := rng_mem hy
        exact ⟨i, rfl, i0, by omega⟩
      · rw [rng_len]; omega
  · refine ⟨d2, [], [], [], none, none, none, none, rfl, rfl, by rw [rng_len]; simp, rfl, by simp, by simp, ok2.less (by rw [rng_len]; omega)⟩
end Lw
end Rp
namespace Rp
namespace Lw
open PySem
variable {rn : List Nat}
abbrev spO (b t : Int) : PV := .obj 0 [1937008994, 495873779042] [.int b, .int t]
theorem set_at {S : Store} {i : Nat} {o v : SO} (h : S[i]? = some o) : (S.set i v)[i]? = some v := List.getElem?_set_self (List.getElem?_eq_some_iff.mp h).1
def SpeedIni (C : CS) : Prop := ∀ {S : Store} {i : Nat} {a b : PV} {Q : QV} {R : QX}, S[i]? = some (.ins 0 []) → Q .non (S.set i (.ins 0 [(1937008994, a), (495873779042, b)])) → C 1 [.ref i, a, b] S Q R
theorem speed_ini (k : Nat) : SpeedIni (wpCall tab rn (k + 1)) := by
  show SpeedIni (bodyC tab (wpCall tab rn k))
  generalize wpCall tab rn k = C
  intro S i a b Q R h q
  refine ⟨_, rfl, rfl, ?_⟩
  conv => whnf
  try dsimp only [startG, nn0, nn1, nn2, nn3, nn4, nn5, nn6, nn7, nn8, List.length, List.map, List.replicate, List.set, List.cons_append, List.nil_append, Nat.reduceAdd, Nat.reduceSub]
  simp only [h]
  conv => whnf
  try dsimp only [startG, nn0, nn1, nn2, nn3, nn4, nn5, nn6, nn7, nn8, List.length, List.map, List.replicate, List.set, List.cons_append, List.nil_append, Nat.reduceAdd, Nat.reduceSub]
  simp only [set_at h]
  conv => whnf
  try dsimp only [startG, nn0, nn1, nn2, nn3, nn4, nn5, nn6, nn7, nn8, List.length, List.map, List.replicate, List.set, List.cons_append, List.nil_append, Nat.reduceAdd, Nat.reduceSub]
  simp only [List.set_set]
  exact ret_same q
/-- what is seen -/
inductive SeenV (L : List Int) : PV → Prop
  | non (n k : Int) : 0 ≤ n → n < L.length → SeenV L (.tup [.int n, .int k, .non, .non])
  | spd (n k r b t : Int) : 0 ≤ n → n < L.length → 0 ≤ b → b ≤ 100000 → 1 ≤ t → t ≤ 100000 → SeenV L (.tup [.int n, .int k, .int r, spO b t])
def SeenOk (B : Nat) (C : CS) : Prop := ∀ {d : Dck} {L : List Int} {Z : List (List Int)} {r k : Nat} {Q : QV} {R : QX}, TOk L Z r → DkOk B d (k + 20) → (∀ v d', SeenV L v → DkOk B d' k → Q v (st d' [])) → C 5 [.ref 1, talkP L Z] (st d []) Q R
theorem seenT {B : Nat} (H : BigB B) (k : Nat) : SeenOk B (wpCall tab rn (k + 2)) := by
  have hd : DrawF B 3 (wpCall tab rn (k + 1)) := drawT H k
  have hi : SpeedIni (wpCall tab rn (k + 1)) := speed_ini k
  show SeenOk B (bodyC tab (wpCall tab rn (k + 1)))
  generalize wpCall tab rn (k + 1) = C at *
  intro d L Z r n Q R T ok q
  refine ⟨_, rfl, rfl, ?_⟩
  have lL : (nums L).length = L.length := List.length_map ..
  have t1 := T.ne
  have t2 := T.le
  obtain ⟨e0, hz⟩ := rows_idx (Z := Z) (k := 0) (by decide) (by have := T.zl; omega)
  obtain ⟨z1, _⟩ := T.zr _ hz
  have t3 := T.r0
  generalize Z.getD (Int.toNat 0) [] = z at *
  have lz : (nums z).length = r := by rw [List.length_map]; exact z1
  conv => whnf
  try dsimp only [startG, nn0, nn1, nn2, nn3, nn4, nn5, nn6, nn7, nn8, List.length, List.map, List.replicate, List.set, List.cons_append, List.nil_append, Nat.reduceAdd, Nat.reduceSub]
  refine hd (k := n + 19) ⟨by omega, by omega⟩ ok fun number d1 n0 n1 ok1 => ?_
  conv => whnf
  try dsimp only [startG, nn0, nn1, nn2, nn3, nn4, nn5, nn6, nn7, nn8, List.length, List.map, List.replicate, List.set, List.cons_append, List.nil_append, Nat.reduceAdd, Nat.reduceSub]
  refine hd (k := n + 18) ⟨by decide, by decide⟩ ok1 fun u1 d2 a1 b1 ok2 => ?_
  conv => whnf
  try dsimp only [startG, nn0, nn1, nn2, nn3, nn4, nn5, nn6, nn7, nn8, List.length, List.map, List.replicate, List.set, List.cons_append, List.nil_append, Nat.reduceAdd, Nat.reduceSub]
  refine hd (k := n + 17) ⟨by decide, by decide⟩ ok2 fun u2 d3 a2 b2 ok3 => ?_
  conv => whnf
  try dsimp only [startG, nn0, nn1, nn2, nn3, nn4, nn5, nn6, nn7, nn8, List.length, List.map, List.replicate, List.set, List.cons_append, List.nil_append, Nat.reduceAdd, Nat.reduceSub]
  refine hd (k := n + 16) ⟨by decide, by decide⟩ ok3 fun u3 d4 a3 b3 ok4 => ?_
  conv => whnf
  try dsimp only [startG, nn0, nn1, nn2, nn3, nn4, nn5, nn6, nn7, nn8, List.length, List.map, List.replicate, List.set, List.cons_append, List.nil_append, Nat.reduceAdd, Nat.reduceSub]
  refine hd (k := n + 15) ⟨by decide, by decide⟩ ok4 fun u4 d5 a4 b4 ok5 => ?_
  conv => whnf
  try dsimp only [startG, nn0, nn1, nn2, nn3, nn4, nn5, nn6, nn7, nn8, List.length, List.map, List.replicate, List.set, List.cons_append, List.nil_append, Nat.reduceAdd, Nat.reduceSub]
  obtain ⟨v, hv, e⟩ := idx_some (xs := [PV.int u1, .int u2, .int u3]) (k := u4) a4 (by show u4 < 3; assumption)
  refine onS_of e ?_
  obtain ⟨kept, rfl⟩ : ∃ i : Int, v = .int i := by
    simp only [List.mem_cons, List.not_mem_nil, or_false] at hv
    rcases hv with rfl | rfl | rfl <;> exact ⟨_, rfl⟩
  conv => whnf
  try dsimp only [startG, nn0, nn1, nn2, nn3, nn4, nn5, nn6, nn7, nn8, List.length, List.map, List.replicate, List.set, List.cons_append, List.nil_append, Nat.reduceAdd, Nat.reduceSub]
  refine onS_of e0 ?_
  conv => whnf
  try dsimp only [startG, nn0, nn1, nn2, nn3, nn4, nn5, nn6, nn7, nn8, List.length, List.map, List.replicate, List.set, List.cons_append, List.nil_append, Nat.reduceAdd, Nat.reduceSub]
  refine hd (k := n + 14) ⟨by omega, by omega⟩ ok5 fun rate d6 a5 b5 ok6 => ?_
  conv => whnf
  try dsimp only [startG, nn0, nn1, nn2, nn3, nn4, nn5, nn6, nn7, nn8, List.length, List.map, List.replicate, List.set, List.cons_append, List.nil_append, Nat.reduceAdd, Nat.reduceSub]
  refine hd (k := n + 13) ⟨by decide, by decide⟩ ok6 fun u6 d7 a6 b6 ok7 => ?_
  conv => whnf
  try dsimp only [startG, nn0, nn1, nn2, nn3, nn4, nn5, nn6, nn7, nn8, List.length, List.map, List.replicate, List.set, List.cons_append, List.nil_append, Nat.reduceAdd, Nat.reduceSub]
  refine hd (k := n + 12) ⟨by decide, by decide⟩ ok7 fun u7 d8 a7 b7 ok8 => ?_
  conv => whnf
  try dsimp only [startG, nn0, nn1, nn2, nn3, nn4, nn5, nn6, nn7, nn8, List.length, List.map, List.replicate, List.set, List.cons_append, List.nil_append, Nat.reduceAdd, Nat.reduceSub]
  refine hd (k := n + 11) ⟨by decide, by decide⟩ ok8 fun u8 d9 a8 b8 ok9 => ?_
  conv => whnf
  try dsimp only [startG, nn0, nn1, nn2, nn3, nn4, nn5, nn6, nn7, nn8, List.length, List.map, List.replicate, List.set, List.cons_append, List.nil_append, Nat.reduceAdd, Nat.reduceSub]
  obtain ⟨v, hv, e⟩ := idx_some (xs := [PV.int (1 + u6), .int (1 + u7), .int 1]) (k := u8) a8 (by show u8 < 3; assumption)
  refine onS_of e ?_
  obtain ⟨bits, rfl, c0, c1⟩ : ∃ i : Int, v = .int i ∧ 1 ≤ i ∧ i ≤ 1000 := by
    simp only [List.mem_cons, List.not_mem_nil, or_false] at hv
    rcases hv with rfl | rfl | rfl <;> exact ⟨_, rfl, by omega, by omega⟩
  conv => whnf
  try dsimp only [startG, nn0, nn1, nn2, nn3, nn4, nn5, nn6, nn7, nn8, List.length, List.map, List.replicate, List.set, List.cons_append, List.nil_append, Nat.reduceAdd, Nat.reduceSub]
  refine hd (k := n + 10) ⟨by decide, by decide⟩ ok9 fun u9 d10 a9 b9 ok10 => ?_
  conv => whnf
  try dsimp only [startG, nn0, nn1, nn2, nn3, nn4, nn5, nn6, nn7, nn8, List.length, List.map, List.replicate, List.set, List.cons_append, List.nil_append, Nat.reduceAdd, Nat.reduceSub]
  refine iteD (fun hz => ?_) (fun hz => ?_)
  · conv => whnf
    try dsimp only [startG, nn0, nn1, nn2, nn3, nn4, nn5, nn6, nn7, nn8, List.length, List.map, List.replicate, List.set, List.cons_append, List.nil_append, Nat.reduceAdd, Nat.reduceSub]
    exact ret_same (q _ d10 (.non 0 kept (by decide) (by omega)) (ok10.less (by omega)))
  · conv => whnf
    try dsimp only [startG, nn0, nn1, nn2, nn3, nn4, nn5, nn6, nn7, nn8, List.length, List.map, List.replicate, List.set, List.cons_append, List.nil_append, Nat.reduceAdd, Nat.reduceSub]
    refine ⟨⟨_, rfl, hi at0 ⟨rfl, set0⟩⟩, ?_⟩
    exact ret_same (q _ d10 (.spd number kept rate bits (1 + u9) n0 (by omega) (by omega) (by omega) (by omega) (by omega)) (ok10.less (by omega)))
end Lw
end Rp
namespace Rp
namespace Lw
open PySem
variable {rn : List Nat}
theorem decR {p : Prop} {d : Decidable p} {A B : Prop} (h1 : p → A) (h2 : ¬ p → B) : Decidable.rec (motive := fun _ => Prop) (fun _ => B) (fun _ => A) d := by
  cases d with
  | isTrue h => exact h1 h
  | isFalse h => exact h2 h
theorem nodup_len : ∀ (l D : List Int), l.Nodup → (∀ x ∈ l, x ∈ D) → l.length ≤ D.length
  | [], _, _, _ => Nat.zero_le _
  | x :: l, D, nd, h => by
    have hx := h x (List.mem_cons_self ..)
    have n := List.nodup_cons.mp nd
    have z := nodup_len l (D.erase x) n.2 fun y hy => by
      have ne : y ≠ x := fun e => n.1 (by rw [← e]; exact hy)
      exact (List.mem_erase_of_ne ne).mpr (h y (List.mem_cons_of_mem _ hy))
    rw [List.length_erase_of_mem hx] at z
    have := List.length_pos_of_mem hx
    rw [List.length_cons]
    omega
/-- a row of steps -/
structure Steps (ms : List Int) : Prop where
  le : ms.length ≤ 60
  bd : ∀ x ∈ ms, 0 ≤ x ∧ x ≤ 100
theorem steps_of {ms ns : List Int} (p : ms.Pairwise (· < ·)) (h : ∀ k : Int, k ∈ ms ↔ k ∈ ns) (hl : ns.length ≤ 60) (hb : ∀ x ∈ ns, 0 ≤ x ∧ x ≤ 100) : Steps ms := by
  have nd : ms.Nodup := p.imp fun h => by omega
  exact ⟨Nat.le_trans (nodup_len ms ns nd fun k hk => (h k).mp hk) hl, fun x hx => hb x ((h x).mp hx)⟩
def NumOk (B : Nat) (C : CS) : Prop := ∀ {d : Dck} {k : Nat} {Q : QV} {R : QX}, DkOk B d (k + 100) → (∀ ms d', Steps ms → DkOk B d' k → Q (.tup (nums ms)) (st d' [])) → C 6 [.ref 1] (st d []) Q R
theorem numT {B : Nat} (H : BigB B) (n : Nat) : NumOk B (wpCall tab rn (n + 2)) := by
  have hd : DrawF B 3 (wpCall tab rn (n + 1)) := drawT H n
  show NumOk B (bodyC tab (wpCall tab rn (n + 1)))
  generalize wpCall tab rn (n + 1) = C at *
  intro d k Q R ok h
  refine ⟨_, rfl, rfl, ?_⟩
  conv => whnf
  try dsimp only [startG, nn0, nn1, nn2, nn3, nn4, nn5, nn6, nn7, nn8, List.length, List.map, List.replicate, List.set, List.cons_append, List.nil_append, Nat.reduceAdd, Nat.reduceSub]
  refine hd (k := k + 99) ⟨by decide, by decide⟩ ok fun u1 d1 a1 b1 ok1 => ?_
  conv => whnf
  try dsimp only [startG, nn0, nn1, nn2, nn3, nn4, nn5, nn6, nn7, nn8, List.length, List.map, List.replicate, List.set, List.cons_append, List.nil_append, Nat.reduceAdd, Nat.reduceSub]
  refine hd (k := k + 98) ⟨by decide, by decide⟩ ok1 fun u2 d2 a2 b2 ok2 => ?_
  conv => whnf
  try dsimp only [startG, nn0, nn1, nn2, nn3, nn4, nn5, nn6, nn7, nn8, List.length, List.map, List.replicate, List.set, List.cons_append, List.nil_append, Nat.reduceAdd, Nat.reduceSub]
  obtain ⟨m, m0, m1, e⟩ : ∃ m : Int, 0 ≤ m ∧ m ≤ 30 ∧ idx [PV.int u1, PV.int 30] (if decide (u2 = 5) = true then 1 else 0) = some (.int m) := by
    by_cases z : u2 = 5
    · exact ⟨30, by omega, by omega, by rw [if_pos (decide_eq_true z)]; rfl⟩
    · exact ⟨u1, by omega, by omega, by rw [if_neg (by simpa using z)]; rfl⟩
  refine onS_of e ?_
  conv => whnf
  try dsimp only [startG, nn0, nn1, nn2, nn3, nn4, nn5, nn6, nn7, nn8, List.length, List.map, List.replicate, List.set, List.cons_append, List.nil_append, Nat.reduceAdd, Nat.reduceSub]
  refine hd (k := k + 97) ⟨by decide, by decide⟩ ok2 fun u3 d3 a3 b3 ok3 => ?_
  conv => whnf
  try dsimp only [startG, nn0, nn1, nn2, nn3, nn4, nn5, nn6, nn7, nn8, List.length, List.map, List.replicate, List.set, List.cons_append, List.nil_append, Nat.reduceAdd, Nat.reduceSub]
  obtain ⟨v, hv, e⟩ := idx_some (xs := [PV.int 12, .int 101]) (k := u3) a3 (by show u3 < 2; assumption)
  refine onS_of e ?_
  obtain ⟨wide, rfl, w0, w1⟩ : ∃ i : Int, v = .int i ∧ 1 ≤ i ∧ i ≤ 101 := by
    simp only [List.mem_cons, List.not_mem_nil, or_false] at hv
    rcases hv with rfl | rfl <;> exact ⟨_, rfl, by omega, by omega⟩
  conv => whnf
  try dsimp only [startG, nn0, nn1, nn2, nn3, nn4, nn5, nn6, nn7, nn8, List.length, List.map, List.replicate, List.set, List.cons_append, List.nil_append, Nat.reduceAdd, Nat.reduceSub]
  refine onD ⟨by omega, by omega⟩ ?_
  conv => whnf
  try dsimp only [startG, nn0, nn1, nn2, nn3, nn4, nn5, nn6, nn7, nn8, List.length, List.map, List.replicate, List.set, List.cons_append, List.nil_append, Nat.reduceAdd, Nat.reduceSub]
  refine onD (by show (rngL 0 m.toNat).length ≤ 16777216; rw [rng_len]; omega) ?_
  refine lc_by (fun acc r S' => ∃ ns d', acc = nums ns ∧ S' = st d' [] ∧ ns.length + r.length = m.toNat ∧ (∀ x ∈ ns, 0 ≤ x ∧ x ≤ 100) ∧ DkOk B d' (k + r.length)) ?_ ?_ ?_ _ _ _ ?_
  · rintro a r S' _
    exact trivial
  · rintro acc S' ⟨ns, d', rfl, rfl, hl, hb, ok'⟩
    have hl : ns.length = m.toNat := hl
    conv => whnf
    try dsimp only [startG, nn0, nn1, nn2, nn3, nn4, nn5, nn6, nn7, nn8, List.length, List.map, List.replicate, List.set, List.cons_append, List.nil_append, Nat.reduceAdd, Nat.reduceSub]
    refine onS_of (ints_nums ns) ?_
    conv => whnf
    try dsimp only [startG, nn0, nn1, nn2, nn3, nn4, nn5, nn6, nn7, nn8, List.length, List.map, List.replicate, List.set, List.cons_append, List.nil_append, Nat.reduceAdd, Nat.reduceSub]
    refine onD (by omega) ?_
    intro ms hp hm
    conv => whnf
    try dsimp only [startG, nn0, nn1, nn2, nn3, nn4, nn5, nn6, nn7, nn8, List.length, List.map, List.replicate, List.set, List.cons_append, List.nil_append, Nat.reduceAdd, Nat.reduceSub]
    exact ret_same (h ms d' (steps_of hp hm (by omega) hb) ok')
  · rintro x acc r S' K ⟨ns, d', rfl, rfl, hl, hb, ok'⟩ hk
    rw [List.length_cons] at hl ok'
    conv => whnf
    try dsimp only [startG, nn0, nn1, nn2, nn3, nn4, nn5, nn6, nn7, nn8, List.length, List.map, List.replicate, List.set, List.cons_append, List.nil_append, Nat.reduceAdd, Nat.reduceSub]
    refine hd (k := k + r.length) ⟨by omega, by omega⟩ (ok'.less (by omega)) fun u d4 a4 b4 ok4 => ?_
    conv => whnf
    try dsimp only [startG, nn0, nn1, nn2, nn3, nn4, nn5, nn6, nn7, nn8, List.length, List.map, List.replicate, List.set, List.cons_append, List.nil_append, Nat.reduceAdd, Nat.reduceSub]
    refine hk (some (.int u)) _ ⟨ns ++ [u], d4, (nums_app ns [u]).symm, rfl, by simp; omega, fun x hx => ?_, ok4⟩
    rcases List.mem_append.mp hx with hx | hx
    · exact hb x hx
    · rw [List.mem_singleton] at hx
      omega
  · exact ⟨[], d3, rfl, rfl, by rw [rng_len]; simp, by simp, ok3.less (by rw [rng_len]; omega)⟩
/-- a step that is reached -/
def fle (k : Int) : PV → Option PV
  | .int x => if x ≤ k then some (.int x) else none
  | _ => none
def cnt (ms : List Int) (k : Int) : Int := (((nums ms).filterMap (fle k)).length : Nat)
theorem cnt_bd {ms : List Int} {k : Int} (h : Steps ms) : 0 ≤ cnt ms k ∧ cnt ms k ≤ 60 := by
  have := List.length_filterMap_le (fle k) (nums ms)
  rw [List.length_map] at this
  have := h.le
  unfold cnt
  omega
def RuleOk (C : CS) : Prop := ∀ {ms : List Int} {k : Int} {a : PV} {r : List PV}, ms.length ≤ 60 → Tells C 8 [.tup (a :: .int k :: r), .tup (nums ms)] (.int (cnt ms k))
theorem ruleT (k : Nat) (hr : isN rn 8 = false) : RuleOk (wpCall tab rn (k + 1)) := by
  intro ms k2 a r hl S Q R h
  show onT (!isN rn 8) (bodyC tab (wpCallA tab k (8 :: rn)) _ _ _ _ _)
  refine onT_of (by rw [hr]; rfl) ?_
  generalize wpCallA tab k (8 :: rn) = C
  refine ⟨_, rfl, rfl, ?_⟩
  have e1 : idx (a :: .int k2 :: r) 1 = some (.int k2) := by
    unfold idx
    rw [if_pos (by decide)]
    rfl
  conv => whnf
  try dsimp only [startG, nn0, nn1, nn2, nn3, nn4, nn5, nn6, nn7, nn8, List.length, List.map, List.replicate, List.set, List.cons_append, List.nil_append, Nat.reduceAdd, Nat.reduceSub]
  refine onD (by show (nums ms).length ≤ 16777216; rw [List.length_map]; omega) ?_
  refine lc_filterMap (fle k2) still_same _ _ (fun x hx K hk => ?_) ?_
  · obtain ⟨i, _, rfl⟩ := nums_mem hx
    conv => whnf
    try dsimp only [startG, nn0, nn1, nn2, nn3, nn4, nn5, nn6, nn7, nn8, List.length, List.map, List.replicate, List.set, List.cons_append, List.nil_append, Nat.reduceAdd, Nat.reduceSub]
    refine decR (fun hc => ?_) (fun hc => ?_)
    · conv => whnf
      try dsimp only [startG, nn0, nn1, nn2, nn3, nn4, nn5, nn6, nn7, nn8, List.length, List.map, List.replicate, List.set, List.cons_append, List.nil_append, Nat.reduceAdd, Nat.reduceSub]
      rw [show fle k2 (.int i) = some (.int i) from if_pos (of_decide_eq_true hc)] at hk
      exact hk
    · rw [show fle k2 (.int i) = none from if_neg (by simpa using hc)] at hk
      exact hk
  · conv => whnf
    try dsimp only [startG, nn0, nn1, nn2, nn3, nn4, nn5, nn6, nn7, nn8, List.length, List.map, List.replicate, List.set, List.cons_append, List.nil_append, Nat.reduceAdd, Nat.reduceSub]
    exact ret_same h
def ByOk (C : CS) : Prop := ∀ {x : PV}, Tells C 0 [x] (.clo 8 [x])
theorem byT (k : Nat) : ByOk (wpCall tab rn (k + 1)) := by
  show ByOk (bodyC tab (wpCall tab rn k))
  generalize wpCall tab rn k = C
  intro x S Q R h
  refine ⟨_, rfl, rfl, ?_⟩
  conv => whnf
  try dsimp only [startG, nn0, nn1, nn2, nn3, nn4, nn5, nn6, nn7, nn8, List.length, List.map, List.replicate, List.set, List.cons_append, List.nil_append, Nat.reduceAdd, Nat.reduceSub]
  exact ret_same h
end Lw
end Rp
namespace Rp
namespace Lw
open PySem PySem.Spec PyProof.Rows
open L2
/-! ### the resolved table of the text -/
def top (i : Nat) : Stmt := PySem.Challenge.pw_rateplan_k28_rules_by_the_store.main.body.getD i (.Pass ⟨0, 0, 0, 0⟩)
def nm : Nm := ⟨[("by_store", 0), ("_law_deck", 2), ("_law_draw", 3), ("_law_talk", 4), ("_law_seen", 5), ("_law_numbers", 6), ("law", 7)], [("Speed", 0)], [], [], ["len", "list", "tuple", "range", "min", "sorted", "set", "int", "repr", "max"], [495873779042, 1937008994], [⟨3, false, 2, [], [.inl 0, .inl 1]⟩, ⟨1, true, 2, [], [.inl 0, .inl 1]⟩, ⟨0, false, 1, [], [.inl 0]⟩, ⟨5, false, 2, [], [.inl 0, .inl 1]⟩, ⟨4, false, 4, [], [.inl 0, .inl 1, .inl 2, .inl 3]⟩, ⟨6, false, 1, [], [.inl 0]⟩, ⟨2, false, 1, [], [.inl 0]⟩]⟩
def tl8 : List Stmt := (defBody (top 2)).drop 0
def nw8 : NW := tlW (("by_store" : Str) ++ ".<locals>.") (["steps"] : List Str) tl8
theorem lk8 : natB nm tab (["seen"] : List Str) ⟨nn8, 2, bb8, .none⟩ nw8 = true := by decide +kernel
theorem ta8 : tailB (nn0.map sN) (defScope (top 2)) (["steps"] : List Str) [0] 1 tl8 = true := by decide +kernel
theorem hb8 (cl : List (Str × Addr)) (c : Addr) (doc pm ctv : Value) (us : List Value) (hl : us.length = 1) : bindArgs (nw8.fd cl c doc pm ctv) ⟨us, []⟩ = pure ((["seen"] : List Str).zip us) := by
  match us, hl with
  | [u0], _ => rfl
def nfs (k : Nat) : NW := match k with
  | 8 => nw8
  | _ => default
theorem lk0 : okSs nm tab ⟨nn0.map sN, defScope (top 2), true⟩ bb0 ((defBody (top 2)).take 0) = true := by decide +kernel
theorem sc0 : C8.scC (nn0.map sN) ((nn0.map sN).take 1) (defScope (top 2)) = true := by decide +kernel
theorem lk1 : okSs nm tab ⟨nn1.map sN, defScope (inClass (top 5) 0), true⟩ bb1 ((defBody (inClass (top 5) 0)).take 2) = true := by decide +kernel
theorem sc1 : C8.scC (nn1.map sN) ((nn1.map sN).take 3) (defScope (inClass (top 5) 0)) = true := by decide +kernel
theorem lk2 : okSs nm tab ⟨nn2.map sN, defScope (top 7), true⟩ bb2 ((defBody (top 7)).take 4) = true := by decide +kernel
theorem sc2 : C8.scC (nn2.map sN) ((nn2.map sN).take 1) (defScope (top 7)) = true := by decide +kernel
theorem lk3 : okSs nm tab ⟨nn3.map sN, defScope (top 8), true⟩ bb3 ((defBody (top 8)).take 7) = true := by decide +kernel
theorem sc3 : C8.scC (nn3.map sN) ((nn3.map sN).take 2) (defScope (top 8)) = true := by decide +kernel
theorem lk4 : okSs nm tab ⟨nn4.map sN, defScope (top 9), true⟩ bb4 ((defBody (top 9)).take 6) = true := by decide +kernel
theorem sc4 : C8.scC (nn4.map sN) ((nn4.map sN).take 4) (defScope (top 9)) = true := by decide +kernel
theorem lk5 : okSs nm tab ⟨nn5.map sN, defScope (top 10), true⟩ bb5 ((defBody (top 10)).take 6) = true := by decide +kernel
theorem sc5 : C8.scC (nn5.map sN) ((nn5.map sN).take 2) (defScope (top 10)) = true := by decide +kernel
theorem lk6 : okSs nm tab ⟨nn6.map sN, defScope (top 11), true⟩ bb6 ((defBody (top 11)).take 3) = true := by decide +kernel
theorem sc6 : C8.scC (nn6.map sN) ((nn6.map sN).take 1) (defScope (top 11)) = true := by decide +kernel
theorem lk7 : okSs nm tab ⟨nn7.map sN, defScope (top 12), true⟩ bb7 ((defBody (top 12)).take 7) = true := by decide +kernel
theorem sc7 : C8.scC (nn7.map sN) ((nn7.map sN).take 1) (defScope (top 12)) = true := by decide +kernel
end Lw
end Rp
namespace Rp
namespace Lw
open PySem PySem.Spec PyProof.Rows
open L2
section
variable {K : PySem.W.Frag} {h : Heap} {mg : Str → Option Value} {ts : List Addr} {f0 f1 f2 f3 f4 f5 f6 f7 C0 : Addr}
  {cc0 PP0 : Addr} {cod0 : Option Addr} {cvs0 : Array Value} {csl0 : Array (Option Value)}
  {od0 an0 : Option Addr} {sl0 : Array (Option Value)} {oc0 dc0 pm0 ct0 : Value} {kV0 : Value}
  {od1 an1 : Option Addr} {sl1 : Array (Option Value)} {oc1 dc1 pm1 cd1 ct1 : Value} {kV1 : Value}
  {od2 an2 : Option Addr} {sl2 : Array (Option Value)} {oc2 dc2 pm2 cd2 ct2 : Value} {kV2 : Value}
  {od3 an3 : Option Addr} {sl3 : Array (Option Value)} {oc3 dc3 pm3 cd3 ct3 : Value} {kV3 : Value}
  {od4 an4 : Option Addr} {sl4 : Array (Option Value)} {oc4 dc4 pm4 cd4 ct4 : Value} {kV4 : Value}
  {od5 an5 : Option Addr} {sl5 : Array (Option Value)} {oc5 dc5 pm5 cd5 ct5 : Value} {kV5 : Value}
  {od6 an6 : Option Addr} {sl6 : Array (Option Value)} {oc6 dc6 pm6 cd6 ct6 : Value} {kV6 : Value}
  {od7 an7 : Option Addr} {sl7 : Array (Option Value)} {oc7 dc7 pm7 cd7 ct7 : Value} {kV7 : Value}
theorem sh0  (D : Ad) (F : Fd) (eK : D.K = K) (eF : F.fd 3 = PySem.W.fnOf "_law_draw" "_law_draw" (defArgs (top 8)) (defBody (top 8)) (defScope (top 8)) .none kV3 dc3 pm3 an3 cd3 ct3) : ShOk D F ⟨3, false, 2, [], [.inl 0, .inl 1]⟩ ⟨nn3, 2, bb3, .none⟩ := by
  refine ⟨[.none, .none], ⟨_, _, rfl, ⟨_, _, rfl, rfl⟩⟩, fun g self us KI hl => ?_⟩
  rw [eF]
  match us, hl with
  | [u0, u1], _ => exact .of_eq rfl
theorem sh1  (D : Ad) (F : Fd) (eK : D.K = K) (eF : F.fd 1 = PySem.W.fnOf "__init__" "Speed.__init__" (defArgs (inClass (top 5) 0)) (defBody (inClass (top 5) 0)) (defScope (inClass (top 5) 0)) .none kV1 dc1 pm1 an1 cd1 ct1) : ShOk D F ⟨1, true, 2, [], [.inl 0, .inl 1]⟩ ⟨nn1, 3, bb1, .none⟩ := by
  refine ⟨[.none, .none], ⟨_, _, rfl, ⟨_, _, rfl, rfl⟩⟩, fun g self us KI hl => ?_⟩
  rw [eF]
  match us, hl with
  | [u0, u1], _ => exact .of_eq rfl
theorem sh2  (D : Ad) (F : Fd) (eK : D.K = K) (eF : F.fd 0 = PySem.W.fnOf "by_store" "by_store" (defArgs (top 2)) (defBody (top 2)) (defScope (top 2)) .none kV0 dc0 pm0 an0 (.ref cc0) ct0) : ShOk D F ⟨0, false, 1, [], [.inl 0]⟩ ⟨nn0, 1, bb0, (some (8, [0]))⟩ := by
  refine ⟨[.none], ⟨_, _, rfl, rfl⟩, fun g self us KI hl => ?_⟩
  rw [eF]
  match us, hl with
  | [u0], _ => exact .of_eq rfl
theorem sh3  (D : Ad) (F : Fd) (eK : D.K = K) (eF : F.fd 5 = PySem.W.fnOf "_law_seen" "_law_seen" (defArgs (top 10)) (defBody (top 10)) (defScope (top 10)) .none kV5 dc5 pm5 an5 cd5 ct5) : ShOk D F ⟨5, false, 2, [], [.inl 0, .inl 1]⟩ ⟨nn5, 2, bb5, .none⟩ := by
  refine ⟨[.none, .none], ⟨_, _, rfl, ⟨_, _, rfl, rfl⟩⟩, fun g self us KI hl => ?_⟩
  rw [eF]
  match us, hl with
  | [u0, u1], _ => exact .of_eq rfl
theorem sh4  (D : Ad) (F : Fd) (eK : D.K = K) (eF : F.fd 4 = PySem.W.fnOf "_law_talk" "_law_talk" (defArgs (top 9)) (defBody (top 9)) (defScope (top 9)) .none kV4 dc4 pm4 an4 cd4 ct4) : ShOk D F ⟨4, false, 4, [], [.inl 0, .inl 1, .inl 2, .inl 3]⟩ ⟨nn4, 4, bb4, .none⟩ := by
  refine ⟨[.none, .none, .none, .none], ⟨_, _, rfl, ⟨_, _, rfl, ⟨_, _, rfl, ⟨_, _, rfl, rfl⟩⟩⟩⟩, fun g self us KI hl => ?_⟩
  rw [eF]
  match us, hl with
  | [u0, u1, u2, u3], _ => exact .of_eq rfl
theorem sh5  (D : Ad) (F : Fd) (eK : D.K = K) (eF : F.fd 6 = PySem.W.fnOf "_law_numbers" "_law_numbers" (defArgs (top 11)) (defBody (top 11)) (defScope (top 11)) .none kV6 dc6 pm6 an6 cd6 ct6) : ShOk D F ⟨6, false, 1, [], [.inl 0]⟩ ⟨nn6, 1, bb6, .none⟩ := by
  refine ⟨[.none], ⟨_, _, rfl, rfl⟩, fun g self us KI hl => ?_⟩
  rw [eF]
  match us, hl with
  | [u0], _ => exact .of_eq rfl
theorem sh6  (D : Ad) (F : Fd) (eK : D.K = K) (eF : F.fd 2 = PySem.W.fnOf "_law_deck" "_law_deck" (defArgs (top 7)) (defBody (top 7)) (defScope (top 7)) .none kV2 dc2 pm2 an2 cd2 ct2) : ShOk D F ⟨2, false, 1, [], [.inl 0]⟩ ⟨nn2, 1, bb2, .none⟩ := by
  refine ⟨[.none], ⟨_, _, rfl, rfl⟩, fun g self us KI hl => ?_⟩
  rw [eF]
  match us, hl with
  | [u0], _ => exact .of_eq rfl
theorem top_mk (X : K.In h) (G : h.Ns mainGlobals mg)
    (a0 : PySem.W.nsIn K mainGlobals "by_store" = some (some (.ref f0)))
    (a2 : PySem.W.nsIn K mainGlobals "_law_deck" = some (some (.ref f2)))
    (a3 : PySem.W.nsIn K mainGlobals "_law_draw" = some (some (.ref f3)))
    (a4 : PySem.W.nsIn K mainGlobals "_law_talk" = some (some (.ref f4)))
    (a5 : PySem.W.nsIn K mainGlobals "_law_seen" = some (some (.ref f5)))
    (a6 : PySem.W.nsIn K mainGlobals "_law_numbers" = some (some (.ref f6)))
    (a7 : PySem.W.nsIn K mainGlobals "law" = some (some (.ref f7)))
    (hn : PySem.W.specialIn K (.builtin "object.__class__") "__get__" = some (some (.builtin "getset_descriptor.__get__")))
    (htk : PySem.W.takesIn K (.builtin "object.__class__") = some true)
    (gC0 : PySem.W.nsIn K mainGlobals "Speed" = some (some (.ref C0)))
    (kC0 : PySem.W.keepIn K (.ref C0) = true)
    (mk0 : PySem.W.makesIn K C0 = true)
    (me0_1 : PySem.W.findIn K (.ref C0) "__init__" = some (some (.ref f1)))
    (fn1 : PySem.W.isFn K (.ref f1) = true)
    (pg0 : PySem.W.plainGet K C0 Str.empty = true)
    (hd0 : PySem.W.hasDictIn K C0 = true)
    (po0 : PySem.W.plainOver K C0 = true)
    (sa0 : PySem.W.findIn K (.ref C0) "__setattr__" = some (some (.builtin "object.__setattr__")))
    (ca0 : PySem.W.findIn K (.ref C0) "__class__" = some (some (.builtin "object.__class__")))
    (mo0 : PySem.W.mroIn K C0 (.type "object") = some true)
    (na0_beats : PySem.W.findIn K (.ref C0) (dN 495873779042) = some none)
    (na0_bits : PySem.W.findIn K (.ref C0) (dN 1937008994) = some none)
    (ic0 : PySem.W.isClsIn K C0 = true)
    (ty0 : PySem.W.typeIn K (.ref C0) = some (.type "type"))
    (ci0_non : PySem.W.subIn K (.ref C0) (.type "NoneType") = some false)
    (ib0_non : PySem.W.subIn K (.type "NoneType") (.ref C0) = some false)
    (ci0_int : PySem.W.subIn K (.ref C0) (.type "int") = some false)
    (ib0_int : PySem.W.subIn K (.type "int") (.ref C0) = some false)
    (ci0_bool : PySem.W.subIn K (.ref C0) (.type "bool") = some false)
    (ib0_bool : PySem.W.subIn K (.type "bool") (.ref C0) = some false)
    (ci0_str : PySem.W.subIn K (.ref C0) (.type "str") = some false)
    (ib0_str : PySem.W.subIn K (.type "str") (.ref C0) = some false)
    (ci0_tuple : PySem.W.subIn K (.ref C0) (.type "tuple") = some false)
    (ib0_tuple : PySem.W.subIn K (.type "tuple") (.ref C0) = some false)
    (ci0_list : PySem.W.subIn K (.ref C0) (.type "list") = some false)
    (ib0_list : PySem.W.subIn K (.type "list") (.ref C0) = some false)
    (ci0_dict : PySem.W.subIn K (.ref C0) (.type "dict") = some false)
    (ib0_dict : PySem.W.subIn K (.type "dict") (.ref C0) = some false)
    (l0 : K.lookup f0 = some ⟨oc0, od0, .func (PySem.W.fnOf "by_store" "by_store" (defArgs (top 2)) (defBody (top 2)) (defScope (top 2)) .none kV0 dc0 pm0 an0 (.ref cc0) ct0), sl0⟩) (c0 : PySem.W.codeIn K (.ref cc0) "by_store" = true) (k0 : PySem.W.keepIn K (.ref f0) = true)
    (lc0 : K.lookup cc0 = some ⟨.type "code", cod0, .fields cvs0, csl0⟩)
    (vp0 : cvs0[11]? = some (.ref PP0))
    (hh0 : PySem.W.codeHdIn K cc0 PP0 = true)
    (np0 : (K.lookup PP0).isNone = true)
    (it0 : ts.contains PP0 = true)
    (l1 : K.lookup f1 = some ⟨oc1, od1, .func (PySem.W.fnOf "__init__" "Speed.__init__" (defArgs (inClass (top 5) 0)) (defBody (inClass (top 5) 0)) (defScope (inClass (top 5) 0)) .none kV1 dc1 pm1 an1 cd1 ct1), sl1⟩) (c1 : PySem.W.codeIn K cd1 "Speed.__init__" = true) (k1 : PySem.W.keepIn K (.ref f1) = true)
    (l2 : K.lookup f2 = some ⟨oc2, od2, .func (PySem.W.fnOf "_law_deck" "_law_deck" (defArgs (top 7)) (defBody (top 7)) (defScope (top 7)) .none kV2 dc2 pm2 an2 cd2 ct2), sl2⟩) (c2 : PySem.W.codeIn K cd2 "_law_deck" = true) (k2 : PySem.W.keepIn K (.ref f2) = true)
    (l3 : K.lookup f3 = some ⟨oc3, od3, .func (PySem.W.fnOf "_law_draw" "_law_draw" (defArgs (top 8)) (defBody (top 8)) (defScope (top 8)) .none kV3 dc3 pm3 an3 cd3 ct3), sl3⟩) (c3 : PySem.W.codeIn K cd3 "_law_draw" = true) (k3 : PySem.W.keepIn K (.ref f3) = true)
    (l4 : K.lookup f4 = some ⟨oc4, od4, .func (PySem.W.fnOf "_law_talk" "_law_talk" (defArgs (top 9)) (defBody (top 9)) (defScope (top 9)) .none kV4 dc4 pm4 an4 cd4 ct4), sl4⟩) (c4 : PySem.W.codeIn K cd4 "_law_talk" = true) (k4 : PySem.W.keepIn K (.ref f4) = true)
    (l5 : K.lookup f5 = some ⟨oc5, od5, .func (PySem.W.fnOf "_law_seen" "_law_seen" (defArgs (top 10)) (defBody (top 10)) (defScope (top 10)) .none kV5 dc5 pm5 an5 cd5 ct5), sl5⟩) (c5 : PySem.W.codeIn K cd5 "_law_seen" = true) (k5 : PySem.W.keepIn K (.ref f5) = true)
    (l6 : K.lookup f6 = some ⟨oc6, od6, .func (PySem.W.fnOf "_law_numbers" "_law_numbers" (defArgs (top 11)) (defBody (top 11)) (defScope (top 11)) .none kV6 dc6 pm6 an6 cd6 ct6), sl6⟩) (c6 : PySem.W.codeIn K cd6 "_law_numbers" = true) (k6 : PySem.W.keepIn K (.ref f6) = true)
    (l7 : K.lookup f7 = some ⟨oc7, od7, .func (PySem.W.fnOf "law" "law" (defArgs (top 12)) (defBody (top 12)) (defScope (top 12)) .none kV7 dc7 pm7 an7 cd7 ct7), sl7⟩) (c7 : PySem.W.codeIn K cd7 "law" = true) (k7 : PySem.W.keepIn K (.ref f7) = true)
    (z_len : PySem.W.nsIn K mainGlobals "len" = some none)
    (z_list : PySem.W.nsIn K mainGlobals "list" = some none)
    (z_tuple : PySem.W.nsIn K mainGlobals "tuple" = some none)
    (z_range : PySem.W.nsIn K mainGlobals "range" = some none)
    (z_min : PySem.W.nsIn K mainGlobals "min" = some none)
    (z_sorted : PySem.W.nsIn K mainGlobals "sorted" = some none)
    (z_set : PySem.W.nsIn K mainGlobals "set" = some none)
    (z_int : PySem.W.nsIn K mainGlobals "int" = some none)
    (z_repr : PySem.W.nsIn K mainGlobals "repr" = some none)
    (z_max : PySem.W.nsIn K mainGlobals "max" = some none)
    : ∃ (D : Ad) (F : Fd) (cs : List (Addr × Addr)), D.K = K ∧ D.fa 7 = f7 ∧ F.fd 7 = PySem.W.fnOf "law" "law" (defArgs (top 12)) (defBody (top 12)) (defScope (top 12)) .none kV7 dc7 pm7 an7 cd7 ct7 ∧ (∀ hd, Top { D with held := hd } F mg tab nm cs) ∧ (∀ p ∈ D.tabs, p.1 ∈ cs.map (·.2)) ∧ (∀ p ∈ cs, p.2 ∈ ts) ∧ (∀ p ∈ cs, K.lookup p.2 = none) ∧ (∀ p ∈ cs, PySem.W.codeHdIn K p.1 p.2 = true) := by
  refine ⟨⟨K, fun i => [f0, f1, f2, f3, f4, f5, f6, f7].getD i 0, fun i => [C0].getD i 0, fun i => ([] : List Addr).getD i 0, nfs, [(PP0, fun _ _ => nw8.qual)], []⟩, ⟨fun i => [PySem.W.fnOf "by_store" "by_store" (defArgs (top 2)) (defBody (top 2)) (defScope (top 2)) .none kV0 dc0 pm0 an0 (.ref cc0) ct0, PySem.W.fnOf "__init__" "Speed.__init__" (defArgs (inClass (top 5) 0)) (defBody (inClass (top 5) 0)) (defScope (inClass (top 5) 0)) .none kV1 dc1 pm1 an1 cd1 ct1, PySem.W.fnOf "_law_deck" "_law_deck" (defArgs (top 7)) (defBody (top 7)) (defScope (top 7)) .none kV2 dc2 pm2 an2 cd2 ct2, PySem.W.fnOf "_law_draw" "_law_draw" (defArgs (top 8)) (defBody (top 8)) (defScope (top 8)) .none kV3 dc3 pm3 an3 cd3 ct3, PySem.W.fnOf "_law_talk" "_law_talk" (defArgs (top 9)) (defBody (top 9)) (defScope (top 9)) .none kV4 dc4 pm4 an4 cd4 ct4, PySem.W.fnOf "_law_seen" "_law_seen" (defArgs (top 10)) (defBody (top 10)) (defScope (top 10)) .none kV5 dc5 pm5 an5 cd5 ct5, PySem.W.fnOf "_law_numbers" "_law_numbers" (defArgs (top 11)) (defBody (top 11)) (defScope (top 11)) .none kV6 dc6 pm6 an6 cd6 ct6, PySem.W.fnOf "law" "law" (defArgs (top 12)) (defBody (top 12)) (defScope (top 12)) .none kV7 dc7 pm7 an7 cd7 ct7].getD i (PySem.W.fnOf "by_store" "by_store" (defArgs (top 2)) (defBody (top 2)) (defScope (top 2)) .none kV0 dc0 pm0 an0 (.ref cc0) ct0)⟩, [(cc0, PP0)], rfl, rfl, rfl, fun hd => ?_, ?_, ?_, ?_, ?_⟩
  rotate_left
  · exact (show ∀ p ∈ ([(PP0, fun _ _ => nw8.qual)] : List NdefX.NTab), p.1 ∈ ([(cc0, PP0)] : List (Addr × Addr)).map (·.2) from List.forall_mem_cons.mpr ⟨by simp, List.forall_mem_nil _⟩)
  · exact (show ∀ p ∈ ([(cc0, PP0)] : List (Addr × Addr)), p.2 ∈ ts from List.forall_mem_cons.mpr ⟨List.contains_iff_mem.mp it0, List.forall_mem_nil _⟩)
  · exact (show ∀ p ∈ ([(cc0, PP0)] : List (Addr × Addr)), K.lookup p.2 = none from List.forall_mem_cons.mpr ⟨Option.isNone_iff_eq_none.mp np0, List.forall_mem_nil _⟩)
  · exact (show ∀ p ∈ ([(cc0, PP0)] : List (Addr × Addr)), PySem.W.codeHdIn K p.1 p.2 = true from List.forall_mem_cons.mpr ⟨hh0, List.forall_mem_nil _⟩)
  refine ⟨?_, ?_, ?_, ?_, ?_, ?_, ?_, ?_, ?_, ?_, ?_, ?_⟩
  · intro x f hx
    exact (show ∀ z ∈ nm.gf, mg (sN z.1) = some (.ref ([f0, f1, f2, f3, f4, f5, f6, f7].getD z.2 0)) ∧ PySem.W.keepIn K (.ref ([f0, f1, f2, f3, f4, f5, f6, f7].getD z.2 0)) = true from List.forall_mem_cons.mpr ⟨⟨PySem.W.mg_of X G a0, k0⟩, List.forall_mem_cons.mpr ⟨⟨PySem.W.mg_of X G a2, k2⟩, List.forall_mem_cons.mpr ⟨⟨PySem.W.mg_of X G a3, k3⟩, List.forall_mem_cons.mpr ⟨⟨PySem.W.mg_of X G a4, k4⟩, List.forall_mem_cons.mpr ⟨⟨PySem.W.mg_of X G a5, k5⟩, List.forall_mem_cons.mpr ⟨⟨PySem.W.mg_of X G a6, k6⟩, List.forall_mem_cons.mpr ⟨⟨PySem.W.mg_of X G a7, k7⟩, List.forall_mem_nil _⟩⟩⟩⟩⟩⟩⟩) (x, f) hx
  · intro x c hx
    exact (show ∀ z ∈ nm.gc, mg (sN z.1) = some (.ref ([C0].getD z.2 0)) ∧ ∀ f, (tab.cls[z.2]?).bind (·.ini) = some f → Mk K ([C0].getD z.2 0) ([f0, f1, f2, f3, f4, f5, f6, f7].getD f 0) from List.forall_mem_cons.mpr ⟨⟨PySem.W.mg_of X G gC0, fun f hf => by cases hf; exact ⟨mk0, me0_1, fn1, kC0⟩⟩, List.forall_mem_nil _⟩) (x, c) hx
  · intro x v hx
    exact (show ∀ z ∈ nm.gv, ∃ u y, mg (sN z.1) = some u ∧ RelV y u ∧ ∀ ι H, RV (⟨K, fun i => [f0, f1, f2, f3, f4, f5, f6, f7].getD i 0, fun i => [C0].getD i 0, fun i => ([] : List Addr).getD i 0, nfs, [(PP0, fun _ _ => nw8.qual)], hd⟩ : Ad) ι H z.2 y from List.forall_mem_nil _) (x, v) hx
  · exact (show ∀ z ∈ nm.nb, mg (sN z) = none from List.forall_mem_cons.mpr ⟨PySem.W.mg_none_of X G z_len, List.forall_mem_cons.mpr ⟨PySem.W.mg_none_of X G z_list, List.forall_mem_cons.mpr ⟨PySem.W.mg_none_of X G z_tuple, List.forall_mem_cons.mpr ⟨PySem.W.mg_none_of X G z_range, List.forall_mem_cons.mpr ⟨PySem.W.mg_none_of X G z_min, List.forall_mem_cons.mpr ⟨PySem.W.mg_none_of X G z_sorted, List.forall_mem_cons.mpr ⟨PySem.W.mg_none_of X G z_set, List.forall_mem_cons.mpr ⟨PySem.W.mg_none_of X G z_int, List.forall_mem_cons.mpr ⟨PySem.W.mg_none_of X G z_repr, List.forall_mem_cons.mpr ⟨PySem.W.mg_none_of X G z_max, List.forall_mem_nil _⟩⟩⟩⟩⟩⟩⟩⟩⟩⟩)
  · refine (show ∀ s ∈ nm.shapes, ∀ d, tab.fns[s.f]? = some d → ShOk _ _ s d from List.forall_mem_cons.mpr ⟨fun d hd => by cases hd; exact sh0  _ _ rfl rfl, List.forall_mem_cons.mpr ⟨fun d hd => by cases hd; exact sh1  _ _ rfl rfl, List.forall_mem_cons.mpr ⟨fun d hd => by cases hd; exact sh2  _ _ rfl rfl, List.forall_mem_cons.mpr ⟨fun d hd => by cases hd; exact sh3  _ _ rfl rfl, List.forall_mem_cons.mpr ⟨fun d hd => by cases hd; exact sh4  _ _ rfl rfl, List.forall_mem_cons.mpr ⟨fun d hd => by cases hd; exact sh5  _ _ rfl rfl, List.forall_mem_cons.mpr ⟨fun d hd => by cases hd; exact sh6  _ _ rfl rfl, List.forall_mem_nil _⟩⟩⟩⟩⟩⟩⟩)
  · intro c cd hc
    match c, hc with
    | 0, hc => cases hc; exact ⟨⟨pg0, hd0, po0, sa0⟩, fun m f hm => lookup_all (P := fun m f => Meth K C0 (dN m) ([f0, f1, f2, f3, f4, f5, f6, f7].getD f 0)) (show ∀ p ∈ ([] : List (Nat × Nat)), Meth K C0 (dN p.1) ([f0, f1, f2, f3, f4, f5, f6, f7].getD p.2 0) from List.forall_mem_nil _) m f hm, (show ∀ g ∈ nm.fl, NoAttr K C0 (dN g) from List.forall_mem_cons.mpr ⟨na0_beats, List.forall_mem_cons.mpr ⟨na0_bits, List.forall_mem_nil _⟩⟩)⟩
    | g + 1, hc => exact absurd hc (by simp [tab])
  · refine isf_mk (fun c cd hc => ?_) (.inr ⟨hn, htk⟩) (fun c cd hc => ?_) (fun c d cd cd1 hc hd hne => ?_) (fun c cd hc he => ?_) (fun c cd hc he => ?_)
    · match c, hc with
      | 0, _ => exact cf_mk pg0 hd0 po0 sa0 ca0 mo0 ic0 ty0 ci0_non ci0_int ci0_bool ci0_str ci0_tuple ci0_list ci0_dict ib0_non ib0_int ib0_bool ib0_str ib0_tuple ib0_list ib0_dict
      | g + 1, hc => exact absurd hc (by simp [tab])
    · match c, hc with
      | 0, hc => cases hc; rfl
      | g + 1, hc => exact absurd hc (by simp [tab])
    · match c, d, hc, hd with
      | 0, 0, _, _ => exact absurd rfl hne
      | 0, g + 1, _, hd => exact absurd hd (by simp [tab])
      | g + 1, _, hc, _ => exact absurd hc (by simp [tab])
    · match c, hc with
      | 0, hc => cases hc; cases he
      | g + 1, hc => exact absurd hc (by simp [tab])
    · match c, hc with
      | 0, hc => cases hc; cases he
      | g + 1, hc => exact absurd hc (by simp [tab])
  · intro s k hs
    exact (show ∀ z ∈ nm.gx, mg (sN z.1) = some (.ref (([] : List Addr).getD z.2 0)) ∧ z.2 < tab.exs.length from List.forall_mem_nil _) (s, k) hs
  · intro P w base c d hc
    match c, hc with
    | g + 0, hc => exact absurd hc (by simp [tab])
  · exact (show ∀ s ∈ nm.shapes, isN tab.nst s.f = false from by decide)
  · intro f d hfd hn
    match f, hfd, hn with
    | 0, hfd, _ =>
      cases hfd
      refine ⟨_, _, _, _, _, _, _, _, _, _, _, _, _, _, _, rfl, l0, c0, sc0, by decide, 0, lk0, ?_⟩
      exact tail_by (k := 8) (fr := (["steps"] : List Str)) (i := 1) (c := cc0) (P := PP0) tl8 ta8 rfl rfl (show (cc0, PP0) ∈ ([(cc0, PP0)] : List (Addr × Addr)) from List.mem_cons_self ..) (show (PP0, fun _ _ => nw8.qual) ∈ ([(PP0, fun _ _ => nw8.qual)] : List NdefX.NTab) from List.mem_cons_self ..)
        (show ∀ p ∈ ([(PP0, fun _ _ => nw8.qual)] : List NdefX.NTab), p.1 = PP0 → p.2 = fun _ _ => nw8.qual from List.forall_mem_cons.mpr ⟨fun e => rfl, List.forall_mem_nil _⟩)
    | 1, hfd, _ => cases hfd; exact ⟨_, _, _, _, _, _, _, _, _, _, _, _, _, _, _, rfl, l1, c1, sc1, by decide, 2, lk1, rfl⟩
    | 2, hfd, _ => cases hfd; exact ⟨_, _, _, _, _, _, _, _, _, _, _, _, _, _, _, rfl, l2, c2, sc2, by decide, 4, lk2, rfl⟩
    | 3, hfd, _ => cases hfd; exact ⟨_, _, _, _, _, _, _, _, _, _, _, _, _, _, _, rfl, l3, c3, sc3, by decide, 7, lk3, rfl⟩
    | 4, hfd, _ => cases hfd; exact ⟨_, _, _, _, _, _, _, _, _, _, _, _, _, _, _, rfl, l4, c4, sc4, by decide, 6, lk4, rfl⟩
    | 5, hfd, _ => cases hfd; exact ⟨_, _, _, _, _, _, _, _, _, _, _, _, _, _, _, rfl, l5, c5, sc5, by decide, 6, lk5, rfl⟩
    | 6, hfd, _ => cases hfd; exact ⟨_, _, _, _, _, _, _, _, _, _, _, _, _, _, _, rfl, l6, c6, sc6, by decide, 3, lk6, rfl⟩
    | 7, hfd, _ => cases hfd; exact ⟨_, _, _, _, _, _, _, _, _, _, _, _, _, _, _, rfl, l7, c7, sc7, by decide, 7, lk7, rfl⟩
    | 8, _, hn => exact absurd hn (by decide)
    | g + 9, hfd, _ => exact absurd hfd (by simp [tab])
  · intro f d hfd hn
    match f, hfd, hn with
    | 0, _, hn => exact absurd hn (by decide)
    | 1, _, hn => exact absurd hn (by decide)
    | 2, _, hn => exact absurd hn (by decide)
    | 3, _, hn => exact absurd hn (by decide)
    | 4, _, hn => exact absurd hn (by decide)
    | 5, _, hn => exact absurd hn (by decide)
    | 6, _, hn => exact absurd hn (by decide)
    | 7, _, hn => exact absurd hn (by decide)
    | 8, hfd, _ => cases hfd; exact nat_by (["seen"] : List Str) lk8 rfl (fun cl c doc pm ctv us hl => hb8 cl c doc pm ctv us hl)
    | g + 9, hfd, _ => exact absurd hfd (by simp [tab])
end
end Lw
end Rp
namespace Rp
namespace Lw
open PySem
variable {rn : List Nat}
theorem seen_is {L : List Int} {v : PV} (h : SeenV L v) : ∃ (n k : Int) (a b : PV), v = .tup [.int n, .int k, a, b] := by
  cases h with
  | non n k _ _ => exact ⟨_, _, _, _, rfl⟩
  | spd n k r b t _ _ _ _ _ _ => exact ⟨_, _, _, _, rfl⟩
/-- the beat before -/
def bfr : PV → PV
  | .int i => .int (if i - 1 > 0 then i - 1 else 0)
  | v => v
abbrev rowsD (Z : List (List Int)) : List PyData := Z.map fun z => .tuple (dInts z)
theorem rows_sh {A B C : List Int} (a : Steps A) (b : Steps B) (c : Steps C) : shOk (.list (rowD [A, B, C])) = true := by
  refine shOk_of (okD_rows (Z := [A, B, C]) fun z hz => ?_) ?_ ?_
  · simp only [List.mem_cons, List.not_mem_nil, or_false] at hz
    intro x hx
    rcases hz with rfl | rfl | rfl
    · have := a.bd x hx; omega
    · have := b.bd x hx; omega
    · have := c.bd x hx; omega
  · show PyData.depthAll (rowD [A, B, C]) + 1 ≤ 64
    have := dep_rows [A, B, C]
    omega
  · show wts (rowD [A, B, C]) ≤ 500000
    have := wt_rows (b := 60) (Z := [A, B, C]) fun z hz => by
      simp only [List.mem_cons, List.not_mem_nil, or_false] at hz
      rcases hz with rfl | rfl | rfl
      · exact a.le
      · exact b.le
      · exact c.le
    have e : [A, B, C].length = 3 := rfl
    rw [e] at this
    omega
theorem plain (ns : List Int) (hn : ns.length ≤ 63) (hb : ∀ z ∈ ns, Builtin.Int.intBits z ≤ 1048576) : wpCall tab [] 6 7 [.scr (ns.map .int)] [] (fun v _ => v = .bl true) (fun _ _ => False) := by
  obtain ⟨B, H, hB⟩ := big_ex
  have hdk : ∀ {Q : QV} {R : QX}, (∀ d, DkOk B d 1000000000000 → Q (.ref 1) (st d [])) → wpCall tab [] 5 2 [.scr (nums ns)] [] Q R := fun h => deckT H 4 (fun z hz => hB z (hb z hz)) h
  have hd : DrawF B 3 (wpCall tab [] 5) := drawT H 4
  have ht : TalkOk B (wpCall tab [] 5) := talkT H 3
  have hse : SeenOk B (wpCall tab [] 5) := seenT H 3
  have hnu : NumOk B (wpCall tab [] 5) := numT H 3
  have hr : RuleOk (wpCall tab [] 5) := ruleT 4 rfl
  have hy : ByOk (wpCall tab [] 5) := byT 4
  show bodyC tab (wpCall tab [] 5) _ _ _ _ _
  generalize wpCall tab [] 5 = C at *
  refine ⟨_, rfl, rfl, ?_⟩
  conv => whnf
  try dsimp only [startG, nn0, nn1, nn2, nn3, nn4, nn5, nn6, nn7, nn8, List.length, List.map, List.replicate, List.set, List.cons_append, List.nil_append, Nat.reduceAdd, Nat.reduceSub]
  refine hdk fun d0 ok0 => ?_
  conv => whnf
  try dsimp only [startG, nn0, nn1, nn2, nn3, nn4, nn5, nn6, nn7, nn8, List.length, List.map, List.replicate, List.set, List.cons_append, List.nil_append, Nat.reduceAdd, Nat.reduceSub]
  refine hnu (k := 300000) (ok0.less (by decide)) fun A d1 sA ok1 => ?_
  conv => whnf
  try dsimp only [startG, nn0, nn1, nn2, nn3, nn4, nn5, nn6, nn7, nn8, List.length, List.map, List.replicate, List.set, List.cons_append, List.nil_append, Nat.reduceAdd, Nat.reduceSub]
  refine ⟨trivial, ?_⟩
  conv => whnf
  try dsimp only [startG, nn0, nn1, nn2, nn3, nn4, nn5, nn6, nn7, nn8, List.length, List.map, List.replicate, List.set, List.cons_append, List.nil_append, Nat.reduceAdd, Nat.reduceSub]
  refine hnu (k := 290000) (ok1.less (by decide)) fun B2 d2 sB ok2 => ?_
  conv => whnf
  try dsimp only [startG, nn0, nn1, nn2, nn3, nn4, nn5, nn6, nn7, nn8, List.length, List.map, List.replicate, List.set, List.cons_append, List.nil_append, Nat.reduceAdd, Nat.reduceSub]
  refine ⟨trivial, ?_⟩
  conv => whnf
  try dsimp only [startG, nn0, nn1, nn2, nn3, nn4, nn5, nn6, nn7, nn8, List.length, List.map, List.replicate, List.set, List.cons_append, List.nil_append, Nat.reduceAdd, Nat.reduceSub]
  refine hnu (k := 280000) (ok2.less (by decide)) fun C2 d3 sC ok3 => ?_
  conv => whnf
  try dsimp only [startG, nn0, nn1, nn2, nn3, nn4, nn5, nn6, nn7, nn8, List.length, List.map, List.replicate, List.set, List.cons_append, List.nil_append, Nat.reduceAdd, Nat.reduceSub]
  refine ⟨trivial, ?_⟩
  conv => whnf
  try dsimp only [startG, nn0, nn1, nn2, nn3, nn4, nn5, nn6, nn7, nn8, List.length, List.map, List.replicate, List.set, List.cons_append, List.nil_append, Nat.reduceAdd, Nat.reduceSub]
  refine hy ?_
  conv => whnf
  try dsimp only [startG, nn0, nn1, nn2, nn3, nn4, nn5, nn6, nn7, nn8, List.length, List.map, List.replicate, List.set, List.cons_append, List.nil_append, Nat.reduceAdd, Nat.reduceSub]
  refine ⟨still_same, ?_⟩
  conv => whnf
  try dsimp only [startG, nn0, nn1, nn2, nn3, nn4, nn5, nn6, nn7, nn8, List.length, List.map, List.replicate, List.set, List.cons_append, List.nil_append, Nat.reduceAdd, Nat.reduceSub]
  refine hy ?_
  conv => whnf
  try dsimp only [startG, nn0, nn1, nn2, nn3, nn4, nn5, nn6, nn7, nn8, List.length, List.map, List.replicate, List.set, List.cons_append, List.nil_append, Nat.reduceAdd, Nat.reduceSub]
  refine ⟨still_same, ?_⟩
  conv => whnf
  try dsimp only [startG, nn0, nn1, nn2, nn3, nn4, nn5, nn6, nn7, nn8, List.length, List.map, List.replicate, List.set, List.cons_append, List.nil_append, Nat.reduceAdd, Nat.reduceSub]
  refine hy ?_
  conv => whnf
  try dsimp only [startG, nn0, nn1, nn2, nn3, nn4, nn5, nn6, nn7, nn8, List.length, List.map, List.replicate, List.set, List.cons_append, List.nil_append, Nat.reduceAdd, Nat.reduceSub]
  refine ⟨still_same, ?_⟩
  conv => whnf
  try dsimp only [startG, nn0, nn1, nn2, nn3, nn4, nn5, nn6, nn7, nn8, List.length, List.map, List.replicate, List.set, List.cons_append, List.nil_append, Nat.reduceAdd, Nat.reduceSub]
  refine hd (k := 270000) ⟨by decide, by decide⟩ (ok3.less (by decide)) fun a1 d4 l1 g1 ok4 => ?_
  conv => whnf
  try dsimp only [startG, nn0, nn1, nn2, nn3, nn4, nn5, nn6, nn7, nn8, List.length, List.map, List.replicate, List.set, List.cons_append, List.nil_append, Nat.reduceAdd, Nat.reduceSub]
  refine hd (k := 269999) ⟨by decide, by decide⟩ ok4 fun a2 d5 l2 g2 ok5 => ?_
  conv => whnf
  try dsimp only [startG, nn0, nn1, nn2, nn3, nn4, nn5, nn6, nn7, nn8, List.length, List.map, List.replicate, List.set, List.cons_append, List.nil_append, Nat.reduceAdd, Nat.reduceSub]
  refine ht (k := 260000) (by omega) (by omega) (by omega) (by omega) (ok5.less (by omega)) fun L Z d6 T ok6 => ?_
  conv => whnf
  try dsimp only [startG, nn0, nn1, nn2, nn3, nn4, nn5, nn6, nn7, nn8, List.length, List.map, List.replicate, List.set, List.cons_append, List.nil_append, Nat.reduceAdd, Nat.reduceSub]
  have dat : ∀ S, datS S (.ls (rows [A, B2, C2])) = some (.list (rowD [A, B2, C2])) := fun S => by
    show (PV.dats (rows [A, B2, C2])).map PyData.list = _
    rw [dats_rows]; rfl
  have sh := rows_sh sA sB sC
  refine onS_of (dat _) ?_
  refine onT_of sh ?_
  have key : ∀ u6 u7 u8 u9 u10 u11 u12 u13 u14 u15, wpSs tab C (drp 5 bb7) [some (.scr (nums ns)), some (.ref 1), some (.ls (rows [A, B2, C2])), some (.ls [.clo 8 [.tup (nums A)], .clo 8 [.tup (nums B2)], .clo 8 [.tup (nums C2)]]), some (talkP L Z), some (.str (shS 0 (.list (rowD [A, B2, C2])))), u6, u7, u8, u9, u10, u11, u12, u13, u14, u15] (st d6 []) { nx := fun _ S' => dropW [] (fun v _ => v = .bl true) .non S', rt := dropW [] fun v _ => v = .bl true, ex := fun x _ S' => dropX [] (fun _ _ => False) x S' } := by
    intro u6 u7 u8 u9 u10 u11 u12 u13 u14 u15
    refine for_rng (j := 8) (S1 := st d6 []) (fun r σ S => ∃ (d' : Dck) (u6 u7 u8 u9 u10 u11 u12 u13 u14 u15 : Option PV), σ = [some (.scr (nums ns)), some (.ref 1), some (.ls (rows [A, B2, C2])), some (.ls [.clo 8 [.tup (nums A)], .clo 8 [.tup (nums B2)], .clo 8 [.tup (nums C2)]]), some (talkP L Z), some (.str (shS 0 (.list (rowD [A, B2, C2])))), u6, u7, u8, u9, u10, u11, u12, u13, u14, u15] ∧ S = st d' [] ∧ (∀ y ∈ r, ∃ i : Int, y = .int i ∧ 0 ≤ i) ∧ DkOk B d' (1000 + 100 * r.length)) ?_ ⟨by omega, by omega⟩ ?_ ?_ ?_
    · intro Q R q
      exact q
    · exact ⟨d6, _, _, _, _, _, _, _, _, _, _, rfl, rfl, fun y hy => by
        obtain ⟨i, h, h0, _⟩ := rng_mem hy
        exact ⟨i, h, h0⟩, ok6.less (by rw [rng_len]; decide)⟩
    · rintro σ S ⟨d', u6, u7, u8, u9, u10, u11, u12, u13, u14, u15, rfl, rfl, _, ok'⟩
      conv => whnf
      try dsimp only [startG, nn0, nn1, nn2, nn3, nn4, nn5, nn6, nn7, nn8, List.length, List.map, List.replicate, List.set, List.cons_append, List.nil_append, Nat.reduceAdd, Nat.reduceSub]
      refine onS_of (dat _) ?_
      refine onT_of sh ?_
      conv => whnf
      try dsimp only [startG, nn0, nn1, nn2, nn3, nn4, nn5, nn6, nn7, nn8, List.length, List.map, List.replicate, List.set, List.cons_append, List.nil_append, Nat.reduceAdd, Nat.reduceSub]
      refine decR (fun _ => ?_) (fun h => absurd (decide_eq_true rfl) h)
      conv => whnf
      try dsimp only [startG, nn0, nn1, nn2, nn3, nn4, nn5, nn6, nn7, nn8, List.length, List.map, List.replicate, List.set, List.cons_append, List.nil_append, Nat.reduceAdd, Nat.reduceSub]
      refine hy ?_
      conv => whnf
      try dsimp only [startG, nn0, nn1, nn2, nn3, nn4, nn5, nn6, nn7, nn8, List.length, List.map, List.replicate, List.set, List.cons_append, List.nil_append, Nat.reduceAdd, Nat.reduceSub]
      refine hr (ms := [-3, 0, 2]) (k := 0) (by decide) ?_
      conv => whnf
      try dsimp only [startG, nn0, nn1, nn2, nn3, nn4, nn5, nn6, nn7, nn8, List.length, List.map, List.replicate, List.set, List.cons_append, List.nil_append, Nat.reduceAdd, Nat.reduceSub]
      exact ret_same rfl
    · rintro x r σ S K ⟨d', u6, u7, u8, u9, u10, u11, u12, u13, u14, u15, rfl, rfl, hx, ok'⟩ hk
      rw [List.length_cons] at ok'
      obtain ⟨i, rfl, i0⟩ := hx x (List.mem_cons_self ..)
      conv => whnf
      try dsimp only [startG, nn0, nn1, nn2, nn3, nn4, nn5, nn6, nn7, nn8, List.length, List.map, List.replicate, List.set, List.cons_append, List.nil_append, Nat.reduceAdd, Nat.reduceSub]
      refine hse (k := 1000 + 100 * r.length + 80) T (ok'.less (by omega)) fun v d7 sv ok7 => ?_
      obtain ⟨n, kk, sa, sb, rfl⟩ := seen_is sv
      conv => whnf
      try dsimp only [startG, nn0, nn1, nn2, nn3, nn4, nn5, nn6, nn7, nn8, List.length, List.map, List.replicate, List.set, List.cons_append, List.nil_append, Nat.reduceAdd, Nat.reduceSub]
      obtain ⟨w, hw, e⟩ := idx_some (xs := rows [A, B2, C2]) (k := i % 3) (Int.emod_nonneg _ (by decide)) (Int.emod_lt_of_pos _ (by decide))
      refine onS_of e ?_
      obtain ⟨E, rfl, sE⟩ : ∃ E, w = .tup (nums E) ∧ Steps E := by
        simp only [rows, List.map_cons, List.map_nil, List.mem_cons, List.not_mem_nil, or_false] at hw
        rcases hw with rfl | rfl | rfl
        · exact ⟨_, rfl, sA⟩
        · exact ⟨_, rfl, sB⟩
        · exact ⟨_, rfl, sC⟩
      simp only [wpTg]
      have lE : (nums E).length = E.length := List.length_map ..
      have hE := sE.le
      refine for_in (v := .ls (.int kk :: nums E ++ (nums E).map bfr)) (xs := .int kk :: nums E ++ (nums E).map bfr) (S1 := st d7 []) (fun r2 σ S => S = st d7 [] ∧ (∀ y ∈ r2, ∃ j : Int, y = .int j) ∧ ∃ u9 u10 u11 u12 u13 u14 u15, σ = [some (.scr (nums ns)), some (.ref 1), some (.ls (rows [A, B2, C2])), some (.ls [.clo 8 [.tup (nums A)], .clo 8 [.tup (nums B2)], .clo 8 [.tup (nums C2)]]), some (talkP L Z), some (.str (shS 0 (.list (rowD [A, B2, C2])))), some (.int i), some (.tup [.int n, .int kk, sa, sb]), some (.tup (nums E)), u9, u10, u11, u12, u13, u14, u15]) ?_ rfl ?_ ?_ ?_ ?_
      · intro Q R q
        conv => whnf
        try dsimp only [startG, nn0, nn1, nn2, nn3, nn4, nn5, nn6, nn7, nn8, List.length, List.map, List.replicate, List.set, List.cons_append, List.nil_append, Nat.reduceAdd, Nat.reduceSub]
        refine onD (by show 1 + (nums E).length ≤ 16777216; omega) ?_
        conv => whnf
        try dsimp only [startG, nn0, nn1, nn2, nn3, nn4, nn5, nn6, nn7, nn8, List.length, List.map, List.replicate, List.set, List.cons_append, List.nil_append, Nat.reduceAdd, Nat.reduceSub]
        refine onD (by show (nums E).length ≤ 16777216; omega) ?_
        refine lc_map bfr still_same _ _ (fun x hx K hk => ?_) ?_
        · obtain ⟨j, _, rfl⟩ := nums_mem hx
          conv => whnf
          try dsimp only [startG, nn0, nn1, nn2, nn3, nn4, nn5, nn6, nn7, nn8, List.length, List.map, List.replicate, List.set, List.cons_append, List.nil_append, Nat.reduceAdd, Nat.reduceSub]
          exact hk
        conv => whnf
        try dsimp only [startG, nn0, nn1, nn2, nn3, nn4, nn5, nn6, nn7, nn8, List.length, List.map, List.replicate, List.set, List.cons_append, List.nil_append, Nat.reduceAdd, Nat.reduceSub]
        have lM : ((nums E).map bfr).length = E.length := by rw [List.length_map]; exact lE
        refine onD (by show ((nums E).length + 1) + ((nums E).map bfr).length ≤ 16777216; omega) ?_
        exact q
      · refine ⟨rfl, fun y hy => ?_, _, _, _, _, _, _, _, rfl⟩
        rcases List.mem_append.mp hy with hy | hy
        · rcases List.mem_cons.mp hy with rfl | hy
          · exact ⟨_, rfl⟩
          · obtain ⟨j, _, rfl⟩ := nums_mem hy
            exact ⟨_, rfl⟩
        · obtain ⟨z, hz, rfl⟩ := List.mem_map.mp hy
          obtain ⟨j, _, rfl⟩ := nums_mem hz
          exact ⟨_, rfl⟩
      · rintro r2 σ S _
        trivial
      · rintro σ S ⟨rfl, _, u9, u10, u11, u12, u13, u14, u15, rfl⟩
        exact hk _ _ ⟨d7, _, _, _, _, _, _, _, _, _, _, rfl, rfl, fun y hy => hx y (List.mem_cons_of_mem _ hy), ok7.less (by omega)⟩
      · rintro y r2 σ S K2 ⟨rfl, hy2, u9, u10, u11, u12, u13, u14, u15, rfl⟩ hk2
        obtain ⟨j, rfl⟩ := hy2 y (List.mem_cons_self ..)
        have so : ∀ X : List Int, Steps X → shOk (.int (cnt X j)) = true := fun X h => by
          have := cnt_bd (k := j) h
          exact shOk_of (by exact ⟨by omega, by omega⟩) (by show (0 : Nat) ≤ 64; decide) (by show 61 ≤ 500000; decide)
        have ln : ∀ X : List Int, Steps X → (nums X).length ≤ lim := fun X h => by
          have := h.le
          show (nums X).length ≤ 16777216
          rw [List.length_map]
          omega
        conv => whnf
        try dsimp only [startG, nn0, nn1, nn2, nn3, nn4, nn5, nn6, nn7, nn8, List.length, List.map, List.replicate, List.set, List.cons_append, List.nil_append, Nat.reduceAdd, Nat.reduceSub]
        refine onD (ln A sA) ?_
        refine lc_filterMap (fle j) still_same _ _ (fun x hx K hk => ?_) ?_
        · obtain ⟨z, _, rfl⟩ := nums_mem hx
          conv => whnf
          try dsimp only [startG, nn0, nn1, nn2, nn3, nn4, nn5, nn6, nn7, nn8, List.length, List.map, List.replicate, List.set, List.cons_append, List.nil_append, Nat.reduceAdd, Nat.reduceSub]
          refine decR (fun hc => ?_) (fun hc => ?_)
          · conv => whnf
            try dsimp only [startG, nn0, nn1, nn2, nn3, nn4, nn5, nn6, nn7, nn8, List.length, List.map, List.replicate, List.set, List.cons_append, List.nil_append, Nat.reduceAdd, Nat.reduceSub]
            rw [show fle j (.int z) = some (.int z) from if_pos (of_decide_eq_true hc)] at hk
            exact hk
          · rw [show fle j (.int z) = none from if_neg (by simpa using hc)] at hk
            exact hk
        conv => whnf
        try dsimp only [startG, nn0, nn1, nn2, nn3, nn4, nn5, nn6, nn7, nn8, List.length, List.map, List.replicate, List.set, List.cons_append, List.nil_append, Nat.reduceAdd, Nat.reduceSub]
        refine hr (ms := A) (k := j) sA.le ?_
        conv => whnf
        try dsimp only [startG, nn0, nn1, nn2, nn3, nn4, nn5, nn6, nn7, nn8, List.length, List.map, List.replicate, List.set, List.cons_append, List.nil_append, Nat.reduceAdd, Nat.reduceSub]
        refine onT_of (so A sA) ?_
        conv => whnf
        try dsimp only [startG, nn0, nn1, nn2, nn3, nn4, nn5, nn6, nn7, nn8, List.length, List.map, List.replicate, List.set, List.cons_append, List.nil_append, Nat.reduceAdd, Nat.reduceSub]
        refine onT_of (so A sA) ?_
        conv => whnf
        try dsimp only [startG, nn0, nn1, nn2, nn3, nn4, nn5, nn6, nn7, nn8, List.length, List.map, List.replicate, List.set, List.cons_append, List.nil_append, Nat.reduceAdd, Nat.reduceSub]
        refine decR (fun hne => absurd hne (by unfold cnt; simp)) fun _ => ?_
        conv => whnf
        try dsimp only [startG, nn0, nn1, nn2, nn3, nn4, nn5, nn6, nn7, nn8, List.length, List.map, List.replicate, List.set, List.cons_append, List.nil_append, Nat.reduceAdd, Nat.reduceSub]
        refine ⟨trivial, ?_⟩
        conv => whnf
        try dsimp only [startG, nn0, nn1, nn2, nn3, nn4, nn5, nn6, nn7, nn8, List.length, List.map, List.replicate, List.set, List.cons_append, List.nil_append, Nat.reduceAdd, Nat.reduceSub]
        refine onD (ln B2 sB) ?_
        refine lc_filterMap (fle j) still_same _ _ (fun x hx K hk => ?_) ?_
        · obtain ⟨z, _, rfl⟩ := nums_mem hx
          conv => whnf
          try dsimp only [startG, nn0, nn1, nn2, nn3, nn4, nn5, nn6, nn7, nn8, List.length, List.map, List.replicate, List.set, List.cons_append, List.nil_append, Nat.reduceAdd, Nat.reduceSub]
          refine decR (fun hc => ?_) (fun hc => ?_)
          · conv => whnf
            try dsimp only [startG, nn0, nn1, nn2, nn3, nn4, nn5, nn6, nn7, nn8, List.length, List.map, List.replicate, List.set, List.cons_append, List.nil_append, Nat.reduceAdd, Nat.reduceSub]
            rw [show fle j (.int z) = some (.int z) from if_pos (of_decide_eq_true hc)] at hk
            exact hk
          · rw [show fle j (.int z) = none from if_neg (by simpa using hc)] at hk
            exact hk
        conv => whnf
        try dsimp only [startG, nn0, nn1, nn2, nn3, nn4, nn5, nn6, nn7, nn8, List.length, List.map, List.replicate, List.set, List.cons_append, List.nil_append, Nat.reduceAdd, Nat.reduceSub]
        refine hr (ms := B2) (k := j) sB.le ?_
        conv => whnf
        try dsimp only [startG, nn0, nn1, nn2, nn3, nn4, nn5, nn6, nn7, nn8, List.length, List.map, List.replicate, List.set, List.cons_append, List.nil_append, Nat.reduceAdd, Nat.reduceSub]
        refine onT_of (so B2 sB) ?_
        conv => whnf
        try dsimp only [startG, nn0, nn1, nn2, nn3, nn4, nn5, nn6, nn7, nn8, List.length, List.map, List.replicate, List.set, List.cons_append, List.nil_append, Nat.reduceAdd, Nat.reduceSub]
        refine onT_of (so B2 sB) ?_
        conv => whnf
        try dsimp only [startG, nn0, nn1, nn2, nn3, nn4, nn5, nn6, nn7, nn8, List.length, List.map, List.replicate, List.set, List.cons_append, List.nil_append, Nat.reduceAdd, Nat.reduceSub]
        refine decR (fun hne => absurd hne (by unfold cnt; simp)) fun _ => ?_
        conv => whnf
        try dsimp only [startG, nn0, nn1, nn2, nn3, nn4, nn5, nn6, nn7, nn8, List.length, List.map, List.replicate, List.set, List.cons_append, List.nil_append, Nat.reduceAdd, Nat.reduceSub]
        refine ⟨trivial, ?_⟩
        conv => whnf
        try dsimp only [startG, nn0, nn1, nn2, nn3, nn4, nn5, nn6, nn7, nn8, List.length, List.map, List.replicate, List.set, List.cons_append, List.nil_append, Nat.reduceAdd, Nat.reduceSub]
        refine onD (ln C2 sC) ?_
        refine lc_filterMap (fle j) still_same _ _ (fun x hx K hk => ?_) ?_
        · obtain ⟨z, _, rfl⟩ := nums_mem hx
          conv => whnf
          try dsimp only [startG, nn0, nn1, nn2, nn3, nn4, nn5, nn6, nn7, nn8, List.length, List.map, List.replicate, List.set, List.cons_append, List.nil_append, Nat.reduceAdd, Nat.reduceSub]
          refine decR (fun hc => ?_) (fun hc => ?_)
          · conv => whnf
            try dsimp only [startG, nn0, nn1, nn2, nn3, nn4, nn5, nn6, nn7, nn8, List.length, List.map, List.replicate, List.set, List.cons_append, List.nil_append, Nat.reduceAdd, Nat.reduceSub]
            rw [show fle j (.int z) = some (.int z) from if_pos (of_decide_eq_true hc)] at hk
            exact hk
          · rw [show fle j (.int z) = none from if_neg (by simpa using hc)] at hk
            exact hk
        conv => whnf
        try dsimp only [startG, nn0, nn1, nn2, nn3, nn4, nn5, nn6, nn7, nn8, List.length, List.map, List.replicate, List.set, List.cons_append, List.nil_append, Nat.reduceAdd, Nat.reduceSub]
        refine hr (ms := C2) (k := j) sC.le ?_
        conv => whnf
        try dsimp only [startG, nn0, nn1, nn2, nn3, nn4, nn5, nn6, nn7, nn8, List.length, List.map, List.replicate, List.set, List.cons_append, List.nil_append, Nat.reduceAdd, Nat.reduceSub]
        refine onT_of (so C2 sC) ?_
        conv => whnf
        try dsimp only [startG, nn0, nn1, nn2, nn3, nn4, nn5, nn6, nn7, nn8, List.length, List.map, List.replicate, List.set, List.cons_append, List.nil_append, Nat.reduceAdd, Nat.reduceSub]
        refine onT_of (so C2 sC) ?_
        conv => whnf
        try dsimp only [startG, nn0, nn1, nn2, nn3, nn4, nn5, nn6, nn7, nn8, List.length, List.map, List.replicate, List.set, List.cons_append, List.nil_append, Nat.reduceAdd, Nat.reduceSub]
        refine decR (fun hne => absurd hne (by unfold cnt; simp)) fun _ => ?_
        conv => whnf
        try dsimp only [startG, nn0, nn1, nn2, nn3, nn4, nn5, nn6, nn7, nn8, List.length, List.map, List.replicate, List.set, List.cons_append, List.nil_append, Nat.reduceAdd, Nat.reduceSub]
        refine ⟨trivial, ?_⟩
        conv => whnf
        try dsimp only [startG, nn0, nn1, nn2, nn3, nn4, nn5, nn6, nn7, nn8, List.length, List.map, List.replicate, List.set, List.cons_append, List.nil_append, Nat.reduceAdd, Nat.reduceSub]
        exact hk2 _ _ ⟨rfl, fun y hy => hy2 y (List.mem_cons_of_mem _ hy), _, _, _, _, _, _, _, rfl⟩
  exact key none none none none none none none none none none
end Lw
end Rp
namespace Rp
namespace Lw
open PySem PySem.Spec PyProof.Rows
open L2
theorem room_law : Room (2 * 6 + 1) callerA := ⟨rfl, by decide, by decide⟩
section
variable {K : PySem.W.Frag} {h : Heap} {mg : Str → Option Value} {ts : List Addr} {f0 f1 f2 f3 f4 f5 f6 f7 C0 : Addr}
  {cc0 PP0 : Addr} {cod0 : Option Addr} {cvs0 : Array Value} {csl0 : Array (Option Value)}
  {od0 an0 : Option Addr} {sl0 : Array (Option Value)} {oc0 dc0 pm0 ct0 : Value} {kV0 : Value}
  {od1 an1 : Option Addr} {sl1 : Array (Option Value)} {oc1 dc1 pm1 cd1 ct1 : Value} {kV1 : Value}
  {od2 an2 : Option Addr} {sl2 : Array (Option Value)} {oc2 dc2 pm2 cd2 ct2 : Value} {kV2 : Value}
  {od3 an3 : Option Addr} {sl3 : Array (Option Value)} {oc3 dc3 pm3 cd3 ct3 : Value} {kV3 : Value}
  {od4 an4 : Option Addr} {sl4 : Array (Option Value)} {oc4 dc4 pm4 cd4 ct4 : Value} {kV4 : Value}
  {od5 an5 : Option Addr} {sl5 : Array (Option Value)} {oc5 dc5 pm5 cd5 ct5 : Value} {kV5 : Value}
  {od6 an6 : Option Addr} {sl6 : Array (Option Value)} {oc6 dc6 pm6 cd6 ct6 : Value} {kV6 : Value}
  {od7 an7 : Option Addr} {sl7 : Array (Option Value)} {oc7 dc7 pm7 cd7 ct7 : Value} {kV7 : Value}
theorem all_mk {l : PySem.W.OpenLaw} {w : World} {fa : Addr} (X : K.In h) (G : h.Ns mainGlobals mg) (hfa : mg "law" = some (.ref fa))
    (a0 : PySem.W.nsIn K mainGlobals "by_store" = some (some (.ref f0)))
    (a2 : PySem.W.nsIn K mainGlobals "_law_deck" = some (some (.ref f2)))
    (a3 : PySem.W.nsIn K mainGlobals "_law_draw" = some (some (.ref f3)))
    (a4 : PySem.W.nsIn K mainGlobals "_law_talk" = some (some (.ref f4)))
    (a5 : PySem.W.nsIn K mainGlobals "_law_seen" = some (some (.ref f5)))
    (a6 : PySem.W.nsIn K mainGlobals "_law_numbers" = some (some (.ref f6)))
    (a7 : PySem.W.nsIn K mainGlobals "law" = some (some (.ref f7)))
    (hn : PySem.W.specialIn K (.builtin "object.__class__") "__get__" = some (some (.builtin "getset_descriptor.__get__")))
    (htk : PySem.W.takesIn K (.builtin "object.__class__") = some true)
    (gC0 : PySem.W.nsIn K mainGlobals "Speed" = some (some (.ref C0)))
    (kC0 : PySem.W.keepIn K (.ref C0) = true)
    (mk0 : PySem.W.makesIn K C0 = true)
    (me0_1 : PySem.W.findIn K (.ref C0) "__init__" = some (some (.ref f1)))
    (fn1 : PySem.W.isFn K (.ref f1) = true)
    (pg0 : PySem.W.plainGet K C0 Str.empty = true)
    (hd0 : PySem.W.hasDictIn K C0 = true)
    (po0 : PySem.W.plainOver K C0 = true)
    (sa0 : PySem.W.findIn K (.ref C0) "__setattr__" = some (some (.builtin "object.__setattr__")))
    (ca0 : PySem.W.findIn K (.ref C0) "__class__" = some (some (.builtin "object.__class__")))
    (mo0 : PySem.W.mroIn K C0 (.type "object") = some true)
    (na0_beats : PySem.W.findIn K (.ref C0) (dN 495873779042) = some none)
    (na0_bits : PySem.W.findIn K (.ref C0) (dN 1937008994) = some none)
    (ic0 : PySem.W.isClsIn K C0 = true)
    (ty0 : PySem.W.typeIn K (.ref C0) = some (.type "type"))
    (ci0_non : PySem.W.subIn K (.ref C0) (.type "NoneType") = some false)
    (ib0_non : PySem.W.subIn K (.type "NoneType") (.ref C0) = some false)
    (ci0_int : PySem.W.subIn K (.ref C0) (.type "int") = some false)
    (ib0_int : PySem.W.subIn K (.type "int") (.ref C0) = some false)
    (ci0_bool : PySem.W.subIn K (.ref C0) (.type "bool") = some false)
    (ib0_bool : PySem.W.subIn K (.type "bool") (.ref C0) = some false)
    (ci0_str : PySem.W.subIn K (.ref C0) (.type "str") = some false)
    (ib0_str : PySem.W.subIn K (.type "str") (.ref C0) = some false)
    (ci0_tuple : PySem.W.subIn K (.ref C0) (.type "tuple") = some false)
    (ib0_tuple : PySem.W.subIn K (.type "tuple") (.ref C0) = some false)
    (ci0_list : PySem.W.subIn K (.ref C0) (.type "list") = some false)
    (ib0_list : PySem.W.subIn K (.type "list") (.ref C0) = some false)
    (ci0_dict : PySem.W.subIn K (.ref C0) (.type "dict") = some false)
    (ib0_dict : PySem.W.subIn K (.type "dict") (.ref C0) = some false)
    (l0 : K.lookup f0 = some ⟨oc0, od0, .func (PySem.W.fnOf "by_store" "by_store" (defArgs (top 2)) (defBody (top 2)) (defScope (top 2)) .none kV0 dc0 pm0 an0 (.ref cc0) ct0), sl0⟩) (c0 : PySem.W.codeIn K (.ref cc0) "by_store" = true) (k0 : PySem.W.keepIn K (.ref f0) = true)
    (lc0 : K.lookup cc0 = some ⟨.type "code", cod0, .fields cvs0, csl0⟩)
    (vp0 : cvs0[11]? = some (.ref PP0))
    (hh0 : PySem.W.codeHdIn K cc0 PP0 = true)
    (np0 : (K.lookup PP0).isNone = true)
    (it0 : ts.contains PP0 = true)
    (l1 : K.lookup f1 = some ⟨oc1, od1, .func (PySem.W.fnOf "__init__" "Speed.__init__" (defArgs (inClass (top 5) 0)) (defBody (inClass (top 5) 0)) (defScope (inClass (top 5) 0)) .none kV1 dc1 pm1 an1 cd1 ct1), sl1⟩) (c1 : PySem.W.codeIn K cd1 "Speed.__init__" = true) (k1 : PySem.W.keepIn K (.ref f1) = true)
    (l2 : K.lookup f2 = some ⟨oc2, od2, .func (PySem.W.fnOf "_law_deck" "_law_deck" (defArgs (top 7)) (defBody (top 7)) (defScope (top 7)) .none kV2 dc2 pm2 an2 cd2 ct2), sl2⟩) (c2 : PySem.W.codeIn K cd2 "_law_deck" = true) (k2 : PySem.W.keepIn K (.ref f2) = true)
    (l3 : K.lookup f3 = some ⟨oc3, od3, .func (PySem.W.fnOf "_law_draw" "_law_draw" (defArgs (top 8)) (defBody (top 8)) (defScope (top 8)) .none kV3 dc3 pm3 an3 cd3 ct3), sl3⟩) (c3 : PySem.W.codeIn K cd3 "_law_draw" = true) (k3 : PySem.W.keepIn K (.ref f3) = true)
    (l4 : K.lookup f4 = some ⟨oc4, od4, .func (PySem.W.fnOf "_law_talk" "_law_talk" (defArgs (top 9)) (defBody (top 9)) (defScope (top 9)) .none kV4 dc4 pm4 an4 cd4 ct4), sl4⟩) (c4 : PySem.W.codeIn K cd4 "_law_talk" = true) (k4 : PySem.W.keepIn K (.ref f4) = true)
    (l5 : K.lookup f5 = some ⟨oc5, od5, .func (PySem.W.fnOf "_law_seen" "_law_seen" (defArgs (top 10)) (defBody (top 10)) (defScope (top 10)) .none kV5 dc5 pm5 an5 cd5 ct5), sl5⟩) (c5 : PySem.W.codeIn K cd5 "_law_seen" = true) (k5 : PySem.W.keepIn K (.ref f5) = true)
    (l6 : K.lookup f6 = some ⟨oc6, od6, .func (PySem.W.fnOf "_law_numbers" "_law_numbers" (defArgs (top 11)) (defBody (top 11)) (defScope (top 11)) .none kV6 dc6 pm6 an6 cd6 ct6), sl6⟩) (c6 : PySem.W.codeIn K cd6 "_law_numbers" = true) (k6 : PySem.W.keepIn K (.ref f6) = true)
    (l7 : K.lookup f7 = some ⟨oc7, od7, .func (PySem.W.fnOf "law" "law" (defArgs (top 12)) (defBody (top 12)) (defScope (top 12)) .none kV7 dc7 pm7 an7 cd7 ct7), sl7⟩) (c7 : PySem.W.codeIn K cd7 "law" = true) (k7 : PySem.W.keepIn K (.ref f7) = true)
    (z_len : PySem.W.nsIn K mainGlobals "len" = some none)
    (z_list : PySem.W.nsIn K mainGlobals "list" = some none)
    (z_tuple : PySem.W.nsIn K mainGlobals "tuple" = some none)
    (z_range : PySem.W.nsIn K mainGlobals "range" = some none)
    (z_min : PySem.W.nsIn K mainGlobals "min" = some none)
    (z_sorted : PySem.W.nsIn K mainGlobals "sorted" = some none)
    (z_set : PySem.W.nsIn K mainGlobals "set" = some none)
    (z_int : PySem.W.nsIn K mainGlobals "int" = some none)
    (z_repr : PySem.W.nsIn K mainGlobals "repr" = some none)
    (z_max : PySem.W.nsIn K mainGlobals "max" = some none)
    : ∃ (k : Nat) (fd : FuncData) (sp : Sp) (cs : List (Addr × Addr)), Room k callerA ∧ (∀ p ∈ cs, p.2 ∈ ts) ∧ (∀ p ∈ cs, K.lookup p.2 = none) ∧ (∀ p ∈ cs, PySem.W.codeHdIn K p.1 p.2 = true) ∧ (∀ (s : Shared) (u : Value), BindsTo s fd ⟨[u], []⟩ [("_law_script", u)]) ∧ (∀ base : Heap, K.In base → base.Ns mainGlobals mg → (∀ p ∈ cs, LamX.TabB base mg p.1 p.2) → GFn l.prog w K mg base k fa fd ["_law_script"] sp) ∧
      ∀ (H : Hp) (a : Addr) (ns : List Int), ns.length ≤ 63 → (∀ z ∈ ns, Builtin.Int.intBits z ≤ 1048576) → OnlyT cs H → (∀ p ∈ cs, H p.2 = some (.tbl #[])) → SqL K H a (ns.map V.int) → sp [.ref a] H (fun v _ => v = .bl true) fun _ _ _ => False := by
  have e := hfa.symm.trans (PySem.W.mg_of X G a7)
  cases e
  obtain ⟨D, F, cs, eK, ef, eF, t, ht, h1, h2, h3⟩ := top_mk (ts := ts) X G a0 a2 a3 a4 a5 a6 a7 hn htk gC0 kC0 mk0 me0_1 fn1 pg0 hd0 po0 sa0 ca0 mo0 na0_beats na0_bits ic0 ty0 ci0_non ib0_non ci0_int ib0_int ci0_bool ib0_bool ci0_str ib0_str ci0_tuple ib0_tuple ci0_list ib0_list ci0_dict ib0_dict l0 c0 k0 lc0 vp0 hh0 np0 it0 l1 c1 k1 l2 c2 k2 l3 c3 k3 l4 c4 k4 l5 c5 k5 l6 c6 k6 l7 c7 k7 z_len z_list z_tuple z_range z_min z_sorted z_set z_int z_repr z_max
  subst eK
  refine ⟨2 * 6 + 1, F.fd 7, spC { D with held := [] } (wpCall tab [] 6) 7, cs, room_law, h1, h2, h3, fun s u => ?_, fun base _ _ TBs => ?_, fun H a ns hn hb only tt sq => law_sp only tt ht sq (plain ns hn hb)⟩
  · rw [eF]
    exact .of_eq rfl
  · rw [← ef]
    exact defs_ok t TBs 6 7 _ rfl rfl
end
end Lw
end Rp
open PySem PySem.W PyProof.Rows in
set_option maxRecDepth 100000 in
set_option maxHeartbeats 0 in
theorem PySem.Challenge.cw_rateplan_k28_rules_by_the_store_holds : PySem.Challenge.rw_rateplan_k28_rules_by_the_store.Holds := by
  w_on; o_law; k_head; (case hw => w_witness2)
  k_fill
  refine Rp.law_walk (l := PySem.Challenge.rw_rateplan_k28_rules_by_the_store) (n := 63) (x := "_law_script") rfl (by decide +kernel) rfl (fun w h Y => PySem.W.km_in_of Y) (fun w h Y => PySem.W.km_tabs_of Y) ?F
  case F =>
    intro w mg fa h KX G hmg
    refine' Rp.Lw.all_mk KX G hmg ?a0 ?a2 ?a3 ?a4 ?a5 ?a6 ?a7 ?hn ?htk ?gC0 ?kC0 ?mk0 ?me0_1 ?fn1 ?pg0 ?hd0 ?po0 ?sa0 ?ca0 ?mo0 ?na0_beats ?na0_bits ?ic0 ?ty0 ?ci0_non ?ib0_non ?ci0_int ?ib0_int ?ci0_bool ?ib0_bool ?ci0_str ?ib0_str ?ci0_tuple ?ib0_tuple ?ci0_list ?ib0_list ?ci0_dict ?ib0_dict ?l0 ?c0 ?k0 ?lc0 ?vp0 ?hh0 ?np0 ?it0 ?l1 ?c1 ?k1 ?l2 ?c2 ?k2 ?l3 ?c3 ?k3 ?l4 ?c4 ?k4 ?l5 ?c5 ?k5 ?l6 ?c6 ?k6 ?l7 ?c7 ?k7 ?z_len ?z_list ?z_tuple ?z_range ?z_min ?z_sorted ?z_set ?z_int ?z_repr ?z_max
    (case a0 => k_is)
    (case a2 => k_is)
    (case a3 => k_is)
    (case a4 => k_is)
    (case a5 => k_is)
    (case a6 => k_is)
    (case a7 => k_is)
    (case hn => k_is)
    (case htk => k_is)
    (case gC0 => k_is)
    (case kC0 => k_is)
    (case mk0 => k_is)
    (case me0_1 => k_is)
    (case fn1 => k_is)
    (case pg0 => k_is)
    (case hd0 => k_is)
    (case po0 => k_is)
    (case sa0 => k_is)
    (case ca0 => k_is)
    (case mo0 => k_is)
    (case na0_beats => k_is)
    (case na0_bits => k_is)
    (case ic0 => k_is)
    (case ty0 => k_is)
    (case ci0_non => k_is)
    (case ib0_non => k_is)
    (case ci0_int => k_is)
    (case ib0_int => k_is)
    (case ci0_bool => k_is)
    (case ib0_bool => k_is)
    (case ci0_str => k_is)
    (case ib0_str => k_is)
    (case ci0_tuple => k_is)
    (case ib0_tuple => k_is)
    (case ci0_list => k_is)
    (case ib0_list => k_is)
    (case ci0_dict => k_is)
    (case ib0_dict => k_is)
    (case l0 => k_is)
    (case c0 => k_is)
    (case k0 => k_is)
    (case lc0 => k_is)
    (case vp0 => exact rfl)
    (case hh0 => kernel_rfl)
    (case np0 => kernel_rfl)
    (case it0 => decide)
    (case l1 => k_is)
    (case c1 => k_is)
    (case k1 => k_is)
    (case l2 => k_is)
    (case c2 => k_is)
    (case k2 => k_is)
    (case l3 => k_is)
    (case c3 => k_is)
    (case k3 => k_is)
    (case l4 => k_is)
    (case c4 => k_is)
    (case k4 => k_is)
    (case l5 => k_is)
    (case c5 => k_is)
    (case k5 => k_is)
    (case l6 => k_is)
    (case c6 => k_is)
    (case k6 => k_is)
    (case l7 => k_is)
    (case c7 => k_is)
    (case k7 => k_is)
    (case z_len => k_is)
    (case z_list => k_is)
    (case z_tuple => k_is)
    (case z_range => k_is)
    (case z_min => k_is)
    (case z_sorted => k_is)
    (case z_set => k_is)
    (case z_int => k_is)
    (case z_repr => k_is)
    (case z_max => k_is)
