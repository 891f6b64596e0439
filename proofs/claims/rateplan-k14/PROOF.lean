import PyProof.Rows.All
import Wide.All
import OpenK.AllK
import Wide.FinOn
import HandS.ForMost
import HandS.Zip
import HandS.DictSubView0
import KE.GoesEnumKw
import HandS.Exc
import HandS.ExcOwn
import HandS.Flow
import PyProof.SliceList
import HandS.Wide
import HandS.TupAny
import HandS.TupMul
import HandS.Style
import HandS.IsInst
import KE.KFmtOwn
import HandS.DictSub
import HandS.Sort
import PyProof.ListRange
import HandS.TryOnly
import KE.KUnpackStar
import PyProof.MinMaxWalk
import HandS.Ends
import HandS.Codes
import HandS.Defaults
import PySem.Challenge.RW_rateplan_k14_whole_great_roads
set_option Elab.async false
set_option linter.all false
set_option maxRecDepth 100000
set_option maxHeartbeats 4000000
/-! # zip of two rows, lists or tuples, strict or not -/
namespace Rp
open PySem PySem.Spec PyProof.Rows L2

/-- a row: a list (true) or a tuple -/
def SqV (k : Bool) (h : Heap) (l : Addr) (its : Array Value) : Prop := match k with
  | true => h.IsList l its
  | false => h.IsTuple l its
def SqI (k : Bool) (h : Heap) (it l : Addr) (i : Nat) : Prop := match k with
  | true => h.IsListIter it l i
  | false => h.IsTupleIter it l i
theorem SqV.ext {k : Bool} {h h' : Heap} {b l : Addr} {its : Array Value} (q : SqV k h l its) (e : Heap.ExtBut b h h') (n : l ≠ b) : SqV k h' l its := by
  cases k
  · exact Heap.IsTuple.extBut q e n
  · exact Heap.IsList.extBut q e n
theorem SqI.obj {k : Bool} {h : Heap} {it l : Addr} {i : Nat} (q : SqI k h it l i) : ∃ o n, h.get? it = some o ∧ o.cls = .type n ∧ o.data = .fields #[.ref l, .int i 0] := by
  cases k
  · obtain ⟨o, a, b, c⟩ := q; exact ⟨o, _, a, b, c⟩
  · obtain ⟨o, a, b, c⟩ := q; exact ⟨o, _, a, b, c⟩
theorem SqI.at' {k : Bool} {h h' : Heap} {it l : Addr} {i : Nat} (q : SqI k h it l i) (e : ∀ o, h.get? it = some o → h'.get? it = some o) : SqI k h' it l i := by
  cases k
  · obtain ⟨o, a, b⟩ := q; exact ⟨o, e o a, b⟩
  · obtain ⟨o, a, b⟩ := q; exact ⟨o, e o a, b⟩
theorem SqI.ext {k : Bool} {h h' : Heap} {b it l : Addr} {i : Nat} (q : SqI k h it l i) (e : Heap.ExtBut b h h') (n : it ≠ b) : SqI k h' it l i := q.at' fun o => e it o n

section
variable {prog : Program} {w : World} {A : Around} {E : Value → Shared → Prop} {s : Shared}
theorem nx_item {k : Bool} {it l : Addr} {i : Nat} {its : Array Value} {x : Value} {Q : Value → Shared → Prop} (hi : SqI k s.heap it l i) (hl : SqV k s.heap l its) (hx : its[i]? = some x)
    (hq : ∀ g, SqI k g it l (i + 1) → Heap.SameBut it s.heap g → Q x { s with heap := g }) : wpAny (model prog w) A (Builtin.SmallTypes.nextOf (.ref it)) Q E s := by
  cases k
  · exact RZ.nextOf_tuple_item hi hl hx hq
  · exact wpAny_nextOf_list_item hi hl hx hq
theorem nx_end {k : Bool} {it l : Addr} {i : Nat} {its : Array Value} {Q : Value → Shared → Prop} (hh : A.handled = none) (hi : SqI k s.heap it l i) (hl : SqV k s.heap l its) (hx : its[i]? = none)
    (hq : ∀ g e, Heap.ExtBut it s.heap g → (∃ o, g.get? e = some o ∧ o.cls = .type "StopIteration") → E (.ref e) { s with heap := g }) : wpAny (model prog w) A (Builtin.SmallTypes.nextOf (.ref it)) Q E s := by
  cases k
  · exact RZ.nextOf_tuple_end hh hi hl hx hq
  · exact wpAny_nextOf_list_end hh hi hl hx hq
theorem nxe_item {k : Bool} {it l : Addr} {i : Nat} {its : Array Value} {x : Value} {Q : Option Value → Shared → Prop} (hi : SqI k s.heap it l i) (hl : SqV k s.heap l its) (hx : its[i]? = some x)
    (hq : ∀ g, SqI k g it l (i + 1) → Heap.SameBut it s.heap g → Q (some x) { s with heap := g }) : wpAny (model prog w) A (Builtin.SmallTypes.nextOrEnd (.ref it)) Q E s := by
  unfold Builtin.SmallTypes.nextOrEnd
  exact wpAny_bind (wpAny_attempt (nx_item hi hl hx fun g a b => wpAny_pure (hq g a b)))
theorem nxe_end {k : Bool} {it l : Addr} {i : Nat} {its : Array Value} {Q : Option Value → Shared → Prop} (hh : A.handled = none) (hi : SqI k s.heap it l i) (hl : SqV k s.heap l its) (hx : its[i]? = none)
    (hq : ∀ g, Heap.ExtBut it s.heap g → Q none { s with heap := g }) : wpAny (model prog w) A (Builtin.SmallTypes.nextOrEnd (.ref it)) Q E s := by
  unfold Builtin.SmallTypes.nextOrEnd
  refine wpAny_bind (wpAny_attempt (nx_end hh hi hl hx fun g e hg he => ?_))
  obtain ⟨o, ho, hc⟩ := he
  exact wpAny_bind (wpAny_isInstance (T := "StopIteration") (b := true) ⟨o, ho, hc⟩ isSubtype_stop (wpAny_pure (hq g hg)))
/-- one row's turn in a zip -/
def drawZ (st : Bool) (it : Value) : Sem (Option Value) := do
  if st then Builtin.SmallTypes.nextOrEnd it else return some (← Builtin.SmallTypes.nextOf it)
theorem dz_item {st k : Bool} {it l : Addr} {i : Nat} {its : Array Value} {x : Value} {Q : Option Value → Shared → Prop} (hi : SqI k s.heap it l i) (hl : SqV k s.heap l its) (hx : its[i]? = some x)
    (hq : ∀ g, SqI k g it l (i + 1) → Heap.SameBut it s.heap g → Q (some x) { s with heap := g }) : wpAny (model prog w) A (drawZ st (.ref it)) Q E s := by
  cases st
  · exact wpAny_bind (nx_item hi hl hx fun g a b => wpAny_pure (hq g a b))
  · exact nxe_item hi hl hx hq
/-- a zip's record -/
abbrev IsZ (h : Heap) (z TI TO : Addr) (f0 : Value) (st : Bool) : Prop :=
  h.get? z = some { cls := .type "zip", dict := none, data := .fields #[f0, .bool false, .bool st, .ref TI, .ref TO], slots := #[] }

theorem zz_item {st k1 k2 : Bool} {z TI TO i1 i2 l1 l2 : Addr} {n : Nat} {xs ys : Array Value} {x y a b : Value} {Q : Value → Shared → Prop} (D : ZipApart z TI TO i1 i2 l1 l2) (hz : IsZ s.heap z TI TO .none st) (hTI : IsPair s.heap TI (.ref i1) (.ref i2)) (hTO : IsPair s.heap TO a b)
    (h1 : SqI k1 s.heap i1 l1 n) (h2 : SqI k2 s.heap i2 l2 n) (hl1 : SqV k1 s.heap l1 xs) (hl2 : SqV k2 s.heap l2 ys) (hx : xs[n]? = some x) (hy : ys[n]? = some y)
    (hQ : ∀ g, IsZ g z TI TO (rawInt s.heap.objs.size) st → IsPair g TO x y → SqI k1 g i1 l1 (n + 1) → SqI k2 g i2 l2 (n + 1) → IsPair g s.heap.objs.size x y → g.objs.size = s.heap.objs.size + 1 →
      (∀ c o, c ≠ z → c ≠ TO → c ≠ i1 → c ≠ i2 → s.heap.get? c = some o → g.get? c = some o) → Q (.ref s.heap.objs.size) { s with heap := g }) :
    wpAny (model prog w) A (Builtin.«zip.__next__» ⟨[.ref z], []⟩) (fun fin s' => ∃ v, fin = .done (.ret v) ∧ Q v s') E s := by
  have est : (Value.bool st == Value.bool true) = st := by cases st <;> rfl
  show wpAny _ _ (field (.ref z) 2 >>= _) _ _ _
  refine wpAny_bind (wpAny_field hz rfl (x := .bool st) rfl ?_)
  simp only [est]
  show wpAny _ _ (field (.ref z) 3 >>= _) _ _ _
  refine wpAny_bind (wpAny_field hz rfl (x := .ref TI) rfl ?_)
  refine wpAny_bind (wpAny_seqItems hTI rfl ?_)
  show wpAny _ _ (Builtin.SmallTypes.ownedTupleIsFree (.ref z) >>= _) _ _ _
  refine wpAny_bind ?_
  unfold Builtin.SmallTypes.ownedTupleIsFree
  refine wpAny_bind (wpAny_field hz rfl (x := .none) rfl (wpAny_pure ?_))
  simp only [if_true]
  refine wpAny_bind (wpAny_rule (wpAny_bind (wpAny_field hz rfl (x := .ref TO) rfl ?_)))
  refine wpAny_bind (wpAny_setField_rec hz (by simp) fun g1 hz1 s1 => ?_)
  replace hz1 : IsZ g1 z TI TO .ellipsis st := hz1
  refine wpAny_bind ?_
  simp only [List.forIn_cons, List.forIn_nil, List.zipIdx_cons, List.zipIdx_nil]
  refine wpAny_bind (wpAny_bind (wpAny_onRaise ?_))
  show wpAny _ _ (drawZ st (.ref i1)) _ _ _
  refine dz_item (h1.ext s1.extBut D.i1z) (hl1.ext s1.extBut D.l1z) hx fun g2 h12 s2 => ?_
  have t2 : IsPair g2 TO a b := s2.extBut _ _ D.TOi1 (s1.extBut _ _ D.TOz hTO)
  refine wpAny_bind (wpAny_seqItems t2 rfl (wpAny_bind (wpAny_updateSeq_pair t2 fun g3 t3 s3 => ?_)))
  replace t3 : IsPair g3 TO x b := t3
  refine wpAny_bind (wpAny_letGo (wpAny_pure ?_))
  refine wpAny_bind (wpAny_bind (wpAny_onRaise ?_))
  show wpAny _ _ (drawZ st (.ref i2)) _ _ _
  refine dz_item (((h2.ext s1.extBut D.i2z).ext s2.extBut D.i12.symm).ext s3.extBut D.TOi2.symm) (((hl2.ext s1.extBut D.l2z).ext s2.extBut D.l2i1).ext s3.extBut D.l2TO) hy fun g4 h24 s4 => ?_
  have t4 : IsPair g4 TO x b := s4.extBut _ _ D.TOi2 t3
  refine wpAny_bind (wpAny_seqItems t4 rfl (wpAny_bind (wpAny_updateSeq_pair t4 fun g5 t5 s5 => ?_)))
  replace t5 : IsPair g5 TO x y := t5
  refine wpAny_bind (wpAny_letGo (wpAny_pure (wpAny_pure ?_)))
  refine wpAny_bind (wpAny_seqItems t5 rfl (wpAny_bind (wpAny_newTuple ?_)))
  have sz : g5.objs.size = s.heap.objs.size := by rw [s5.1, s4.1, s3.1, s2.1, s1.1]
  have z5 : IsZ g5 z TI TO .ellipsis st := s5.extBut _ _ D.TOz.symm (s4.extBut _ _ D.i2z.symm (s3.extBut _ _ D.TOz.symm (s2.extBut _ _ D.i1z.symm hz1)))
  have k5 : ∀ c o, c ≠ z → c ≠ TO → c ≠ i1 → c ≠ i2 → s.heap.get? c = some o → g5.get? c = some o := fun c o c1 c2 c3 c4 e => s5.extBut _ _ c2 (s4.extBut _ _ c4 (s3.extBut _ _ c2 (s2.extBut _ _ c3 (s1.extBut _ _ c1 e))))
  have h15 : SqI k1 g5 i1 l1 (n + 1) := ((h12.ext s3.extBut D.TOi1.symm).ext s4.extBut D.i12).ext s5.extBut D.TOi1.symm
  have h25 : SqI k2 g5 i2 l2 (n + 1) := h24.ext s5.extBut D.TOi2.symm
  have zlt : z < g5.objs.size := Heap.lt_size z5
  show wpAny _ _ (Builtin.SmallTypes.ownedTupleHandOut (.ref z) (.ref g5.objs.size) >>= _) _ _ _
  refine wpAny_bind ?_
  unfold Builtin.SmallTypes.ownedTupleHandOut
  have z6 : IsZ (g5.push { cls := .type "tuple", data := .seq #[x, y] }) z TI TO .ellipsis st := Heap.get?_push_of_some _ z5
  refine wpAny_bind (wpAny_setField_rec z6 (by simp) fun g7 z7 s7 => ?_)
  replace z7 : IsZ g7 z TI TO (rawInt g5.objs.size) st := z7
  refine wpAny_setField_rec z7 (by simp) fun g8 z8 s8 => ?_
  replace z8 : IsZ g8 z TI TO (rawInt g5.objs.size) st := z8
  have up : ∀ c o, c ≠ z → g5.get? c = some o → g8.get? c = some o := fun c o c1 e => s8.extBut _ _ c1 (s7.extBut _ _ c1 (Heap.get?_push_of_some _ e))
  have t8 : IsPair g8 g5.objs.size x y := s8.extBut _ _ (Nat.ne_of_gt zlt) (s7.extBut _ _ (Nat.ne_of_gt zlt) (Heap.get?_push_size _ rfl))
  have sz8 : g8.objs.size = g5.objs.size + 1 := by rw [s8.1, s7.1, Heap.size_push]
  rw [sz] at z8 t8 sz8
  refine wpAny_pure ⟨_, rfl, ?_⟩
  show Q (.ref g5.objs.size) _
  rw [sz]
  exact hQ g8 z8 (up _ _ D.TOz t5) (h15.at' fun o e => up _ o D.i1z e) (h25.at' fun o e => up _ o D.i2z e) t8 sz8 fun c o c1 c2 c3 c4 e => up c o c1 (k5 c o c1 c2 c3 c4 e)

/-- none is left: a strict zip wants both ended -/
theorem zz_end {st k1 k2 : Bool} {z TI TO i1 i2 l1 l2 : Addr} {n : Nat} {xs ys : Array Value} {a b : Value} {Q : Fin → Shared → Prop} (hh : A.handled = none) (D : ZipApart z TI TO i1 i2 l1 l2) (hz : IsZ s.heap z TI TO .none st) (hTI : IsPair s.heap TI (.ref i1) (.ref i2)) (hTO : IsPair s.heap TO a b)
    (h1 : SqI k1 s.heap i1 l1 n) (h2 : SqI k2 s.heap i2 l2 n) (hl1 : SqV k1 s.heap l1 xs) (hl2 : SqV k2 s.heap l2 ys) (hend : xs[n]? = none ∨ ys[n]? = none) (hst : st = true → xs[n]? = none ∧ ys[n]? = none)
    (hE : ∀ g e, (∀ c o, c ≠ z → c ≠ TO → c ≠ i1 → c ≠ i2 → s.heap.get? c = some o → g.get? c = some o) → (∃ o, g.get? e = some o ∧ o.cls = .type "StopIteration") → E (.ref e) { s with heap := g }) :
    wpAny (model prog w) A (Builtin.«zip.__next__» ⟨[.ref z], []⟩) Q E s := by
  have est : (Value.bool st == Value.bool true) = st := by cases st <;> rfl
  show wpAny _ _ (field (.ref z) 2 >>= _) _ _ _
  refine wpAny_bind (wpAny_field hz rfl (x := .bool st) rfl ?_)
  simp only [est]
  show wpAny _ _ (field (.ref z) 3 >>= _) _ _ _
  refine wpAny_bind (wpAny_field hz rfl (x := .ref TI) rfl ?_)
  refine wpAny_bind (wpAny_seqItems hTI rfl ?_)
  show wpAny _ _ (Builtin.SmallTypes.ownedTupleIsFree (.ref z) >>= _) _ _ _
  refine wpAny_bind ?_
  unfold Builtin.SmallTypes.ownedTupleIsFree
  refine wpAny_bind (wpAny_field hz rfl (x := .none) rfl (wpAny_pure ?_))
  simp only [if_true]
  refine wpAny_bind (wpAny_rule (wpAny_bind (wpAny_field hz rfl (x := .ref TO) rfl ?_)))
  refine wpAny_bind (wpAny_setField_rec hz (by simp) fun g1 hz1 s1 => ?_)
  replace hz1 : IsZ g1 z TI TO .ellipsis st := hz1
  refine wpAny_bind ?_
  simp only [List.forIn_cons, List.forIn_nil, List.zipIdx_cons, List.zipIdx_nil]
  refine wpAny_bind (wpAny_bind (wpAny_onRaise ?_))
  cases st with
  | true =>
    obtain ⟨e1, e2⟩ := hst rfl
    show wpAny _ _ (Builtin.SmallTypes.nextOrEnd (.ref i1)) _ _ _
    refine nxe_end hh (h1.ext s1.extBut D.i1z) (hl1.ext s1.extBut D.l1z) e1 fun g2 s2 => ?_
    have hz2 : IsZ g2 z TI TO .ellipsis true := s2 _ _ D.i1z.symm hz1
    refine wpAny_bind (wpAny_setField_rec hz2 (by simp) fun g3 hz3 s3 => ?_)
    refine wpAny_bind ?_
    show wpAny _ _ (do
      for (it, j) in [(Value.ref i2, 1)] do
        if (← Builtin.SmallTypes.nextOrEnd it).isSome then
          rule "zip.__next__.longer"; raiseError "ValueError" s!"zip() argument {j + 1} is longer than {if j == 1 then "argument 1" else s!"arguments 1-{j}"}"
      rule "zip.__next__.all-ended"; Builtin.SmallTypes.stopIteration : Sem Fin) _ _ _
    simp only [List.forIn_cons, List.forIn_nil]
    refine wpAny_bind (wpAny_bind (wpAny_bind ?_))
    refine nxe_end hh (((h2.ext s1.extBut D.i2z).ext s2 D.i12.symm).ext s3.extBut D.i2z) (((hl2.ext s1.extBut D.l2z).ext s2 D.l2i1).ext s3.extBut D.l2z) e2 fun g4 s4 => ?_
    refine wpAny_pure (wpAny_pure (wpAny_bind (wpAny_rule ?_)))
    refine DVw.raise_stop hh fun g5 e oe k5 ho hc => ?_
    exact hE g5 e (fun c o c1 c2 c3 c4 q => k5 _ _ (s4 _ _ c4 (s3.extBut _ _ c1 (s2 _ _ c3 (s1.extBut _ _ c1 q))))) ⟨oe, ho, hc⟩
  | false =>
    refine wpAny_bind ?_
    show wpAny _ _ (Builtin.SmallTypes.nextOf (.ref i1)) _ _ _
    cases hx : xs[n]? with
    | none =>
      refine nx_end hh (h1.ext s1.extBut D.i1z) (hl1.ext s1.extBut D.l1z) hx fun g2 e s2 he => ?_
      obtain ⟨oe, ho, hc⟩ := he
      have hz2 : IsZ g2 z TI TO .ellipsis false := s2 _ _ D.i1z.symm hz1
      have nez : e ≠ z := fun q => by subst q; rw [hz2] at ho; cases ho; simp at hc
      exact wpAny_setField_rec hz2 (by simp) fun g3 _ s3 => hE g3 e (fun c o c1 _ c3 _ q => s3.extBut _ _ c1 (s2 _ _ c3 (s1.extBut _ _ c1 q))) ⟨oe, s3.extBut _ _ nez ho, hc⟩
    | some x =>
      have hy : ys[n]? = none := by
        rcases hend with q | q
        · rw [hx] at q; cases q
        · exact q
      refine nx_item (h1.ext s1.extBut D.i1z) (hl1.ext s1.extBut D.l1z) hx fun g2 h12 s2 => wpAny_pure ?_
      have t2 : IsPair g2 TO a b := s2.extBut _ _ D.TOi1 (s1.extBut _ _ D.TOz hTO)
      refine wpAny_bind (wpAny_seqItems t2 rfl (wpAny_bind (wpAny_updateSeq_pair t2 fun g3 t3 s3 => ?_)))
      refine wpAny_bind (wpAny_letGo (wpAny_pure ?_))
      refine wpAny_bind (wpAny_bind (wpAny_onRaise (wpAny_bind ?_)))
      show wpAny _ _ (Builtin.SmallTypes.nextOf (.ref i2)) _ _ _
      refine nx_end hh (((h2.ext s1.extBut D.i2z).ext s2.extBut D.i12.symm).ext s3.extBut D.TOi2.symm) (((hl2.ext s1.extBut D.l2z).ext s2.extBut D.l2i1).ext s3.extBut D.l2TO) hy fun g4 e s4 he => ?_
      obtain ⟨oe, ho, hc⟩ := he
      have hz4 : IsZ g4 z TI TO .ellipsis false := s4 _ _ D.i2z.symm (s3.extBut _ _ D.TOz.symm (s2.extBut _ _ D.i1z.symm hz1))
      have nez : e ≠ z := fun q => by subst q; rw [hz4] at ho; cases ho; simp at hc
      exact wpAny_setField_rec hz4 (by simp) fun g5 _ s5 => hE g5 e (fun c o c1 c2 c3 c4 q => s5.extBut _ _ c1 (s4 _ _ c4 (s3.extBut _ _ c2 (s2.extBut _ _ c3 (s1.extBut _ _ c1 q))))) ⟨oe, s5.extBut _ _ nez ho, hc⟩

theorem zz_next {st k1 k2 : Bool} {z TI TO i1 i2 l1 l2 : Addr} {n : Nat} {xs ys : Array Value} {x y a b : Value} {Q : Option Value → Shared → Prop} (D : ZipApart z TI TO i1 i2 l1 l2) (hz : IsZ s.heap z TI TO .none st) (hTI : IsPair s.heap TI (.ref i1) (.ref i2)) (hTO : IsPair s.heap TO a b)
    (h1 : SqI k1 s.heap i1 l1 n) (h2 : SqI k2 s.heap i2 l2 n) (hl1 : SqV k1 s.heap l1 xs) (hl2 : SqV k2 s.heap l2 ys) (hx : xs[n]? = some x) (hy : ys[n]? = some y)
    (hQ : ∀ g, IsZ g z TI TO (rawInt s.heap.objs.size) st → IsPair g TO x y → SqI k1 g i1 l1 (n + 1) → SqI k2 g i2 l2 (n + 1) → IsPair g s.heap.objs.size x y → g.objs.size = s.heap.objs.size + 1 →
      (∀ c o, c ≠ z → c ≠ TO → c ≠ i1 → c ≠ i2 → s.heap.get? c = some o → g.get? c = some o) → Q (some (.ref s.heap.objs.size)) { s with heap := g }) : wpAny (model prog w) A (pyNext (.ref z)) Q E s := by
  have ty : s.TypeIs (.ref z) "zip" := ⟨_, hz, rfl⟩
  unfold pyNext
  refine wpAny_bind (wpAny_attempt (wpAny_callSpecial?_slot (name := Str.ofString "__next__") ty F.slot_zip_next (wpAny_call_entry F.slot_zip_next ty F.entry_zip_next ?_ (F.args_zip_next_1 _))))
  exact zz_item D hz hTI hTO h1 h2 hl1 hl2 hx hy fun g a1 a2 a3 a4 a5 a6 a7 => wpAny_pure (hQ g a1 a2 a3 a4 a5 a6 a7)
theorem zz_stop {st k1 k2 : Bool} {z TI TO i1 i2 l1 l2 : Addr} {n : Nat} {xs ys : Array Value} {a b : Value} {Q : Option Value → Shared → Prop} (hh : A.handled = none) (D : ZipApart z TI TO i1 i2 l1 l2) (hz : IsZ s.heap z TI TO .none st) (hTI : IsPair s.heap TI (.ref i1) (.ref i2)) (hTO : IsPair s.heap TO a b)
    (h1 : SqI k1 s.heap i1 l1 n) (h2 : SqI k2 s.heap i2 l2 n) (hl1 : SqV k1 s.heap l1 xs) (hl2 : SqV k2 s.heap l2 ys) (hend : xs[n]? = none ∨ ys[n]? = none) (hst : st = true → xs[n]? = none ∧ ys[n]? = none)
    (hQ : ∀ g, (∀ c o, c ≠ z → c ≠ TO → c ≠ i1 → c ≠ i2 → s.heap.get? c = some o → g.get? c = some o) → Q none { s with heap := g }) : wpAny (model prog w) A (pyNext (.ref z)) Q E s := by
  have ty : s.TypeIs (.ref z) "zip" := ⟨_, hz, rfl⟩
  unfold pyNext
  refine wpAny_bind (wpAny_attempt (wpAny_callSpecial?_slot (name := Str.ofString "__next__") ty F.slot_zip_next (wpAny_call_entry F.slot_zip_next ty F.entry_zip_next ?_ (F.args_zip_next_1 _))))
  refine zz_end hh D hz hTI hTO h1 h2 hl1 hl2 hend hst fun g e hk he => ?_
  obtain ⟨o, ho, hc⟩ := he
  exact wpAny_bind (wpAny_isInstance (T := "StopIteration") (b := true) ⟨o, ho, hc⟩ isSubtype_stop (wpAny_pure (hQ _ hk)))
/-- its tuple is given to the targets -/
theorem zz_go {st : Bool} {elts : List Expr} {kk : Nat} {pos : Pos} {z TI TO a : Addr} {Q : Unit → Shared → Prop} (hz : IsZ s.heap z TI TO (rawInt a) st) (hQ : ∀ g, IsZ g z TI TO .none st → Heap.SameBut z s.heap g → Q () { s with heap := g }) :
    wpAny (model prog w) A (letOwnedTupleGo (.Tuple elts kk pos) (.ref z) (.ref a)) Q E s := by
  unfold letOwnedTupleGo
  refine wpAny_bind (wpAny_load hz ?_)
  show wpAny _ _ (if (["enumerate", "zip", "dict_itemiterator", "dict_reverseitemiterator", "odict_iterator", "itertools.zip_longest", "itertools.pairwise"].contains "zip" && (#[rawInt a, .bool false, .bool st, .ref TI, .ref TO] : Array Value)[0]? == some (rawInt a)) = true then _ else _) Q E s
  rw [if_pos (by simp)]
  refine wpAny_bind (wpAny_rule ?_)
  show wpAny _ _ (setField (.ref z) 0 .none) Q E s
  exact wpAny_setField_rec hz (by simp) fun g z' s' => hQ g z' s'
theorem zz_self {st : Bool} {z TI TO : Addr} {f0 : Value} {Q : Value → Shared → Prop} (hz : IsZ s.heap z TI TO f0 st) (h : Q (.ref z) s) : wpAny (model prog w) A (pyIter (.ref z)) Q E s := by
  have ty : s.TypeIs (.ref z) "zip" := ⟨_, hz, rfl⟩
  refine wpAny_pyIter_slot ty F.slot_zip_iter (wpAny_call_entry F.slot_zip_iter ty F.entry_zip_iter ?_ (F.args_zip_iter_1 _))
  show wpAny _ _ (ret (.ref z)) _ _ s
  exact wpAny_pure ⟨_, rfl, "zip", _, ty, F.slot_zip_next.lookup, h⟩
def itN : Bool → String
  | true => "list_iterator"
  | false => "tuple_iterator"
def itO (k : Bool) (l : Addr) : Obj := { cls := .type (itN k), data := .fields #[.ref l, .int 0 0] }
theorem pit {k : Bool} {l : Addr} {its : Array Value} {Q : Value → Shared → Prop} (hl : SqV k s.heap l its) (hq : Q (.ref s.heap.objs.size) { s with heap := s.heap.push (itO k l) }) : wpAny (model prog w) A (pyIter (.ref l)) Q E s := by
  cases k
  · exact wpAny_pyIter_tuple hl hq
  · exact wpAny_pyIter_list hl hq
end
theorem SqV.push {k : Bool} {h : Heap} {l : Addr} {its : Array Value} (q : SqV k h l its) (o : Obj) : SqV k (h.push o) l its := by
  cases k
  · obtain ⟨u, a, b⟩ := q; exact ⟨u, Heap.get?_push_of_some _ a, b⟩
  · obtain ⟨u, a, b⟩ := q; exact ⟨u, Heap.get?_push_of_some _ a, b⟩
abbrev zh1 (h : Heap) (k1 : Bool) (l1 : Addr) : Heap := h.push (itO k1 l1)
abbrev zh2 (h : Heap) (k1 k2 : Bool) (l1 l2 : Addr) : Heap := (zh1 h k1 l1).push (itO k2 l2)
abbrev zh3 (h : Heap) (k1 k2 : Bool) (l1 l2 : Addr) : Heap := (zh2 h k1 k2 l1 l2).push { cls := .type "tuple", data := .seq #[.ref h.objs.size, .ref (zh1 h k1 l1).objs.size] }
abbrev zh4 (h : Heap) (k1 k2 : Bool) (l1 l2 : Addr) : Heap := (zh3 h k1 k2 l1 l2).push { cls := .type "tuple", data := .seq #[.none, .none] }
abbrev zh5 (h : Heap) (k1 k2 st : Bool) (l1 l2 : Addr) : Heap := (zh4 h k1 k2 l1 l2).push { cls := .type "zip", data := .fields #[.none, .bool false, .bool st, .ref (zh2 h k1 k2 l1 l2).objs.size, .ref (zh3 h k1 k2 l1 l2).objs.size] }
theorem zz_new0 (k1 k2 : Bool) (l1 l2 : Addr) (xs ys : Array Value) : Meets (Builtin.«zip.__new__» ⟨[.type "zip", .ref l1, .ref l2], []⟩) (fun _ R s => SqV k1 s.heap l1 xs ∧ SqV k2 s.heap l2 ys ∧
      R (.ok (.ret (.ref (zh4 s.heap k1 k2 l1 l2).objs.size))) { s with heap := zh5 s.heap k1 k2 false l1 l2 }) :=
  .of_wp fun prog w A R s h => by
    obtain ⟨hp, g, d, tk, os⟩ := s
    obtain ⟨hl1, hl2, h⟩ := h
    have hsub := sub_zip
    have q1 : SqV k1 (Shared.heap ⟨hp, g, d, tk, os⟩) l1 xs := hl1
    have q2 : SqV k2 (Shared.heap ⟨hp.push (itO k1 l1), g, d, tk, os⟩) l2 ys := SqV.push hl2 _
    wp_walk using pit q1, pit q2
    exact ⟨_, rfl, h⟩
theorem zz_new1 (k1 k2 : Bool) (l1 l2 : Addr) (xs ys : Array Value) : Meets (Builtin.«zip.__new__» ⟨[.type "zip", .ref l1, .ref l2], [(Str.ofString "strict", .bool true)]⟩) (fun _ R s => SqV k1 s.heap l1 xs ∧ SqV k2 s.heap l2 ys ∧
      R (.ok (.ret (.ref (zh4 s.heap k1 k2 l1 l2).objs.size))) { s with heap := zh5 s.heap k1 k2 true l1 l2 }) :=
  .of_wp fun prog w A R s h => by
    obtain ⟨hp, g, d, tk, os⟩ := s
    obtain ⟨hl1, hl2, h⟩ := h
    have hsub := sub_zip
    have q1 : SqV k1 (Shared.heap ⟨hp, g, d, tk, os⟩) l1 xs := hl1
    have q2 : SqV k2 (Shared.heap ⟨hp.push (itO k1 l1), g, d, tk, os⟩) l2 ys := SqV.push hl2 _
    have e1 : (Str.ofString "strict" != ("strict" : Str)) = false := by decide +kernel
    wp_walk using pit q1, pit q2
    exact ⟨_, rfl, h⟩
end Rp
/-! # zip as an iterator of the hand layer -/
namespace Rp
open PySem PySem.Spec PyProof.Rows L2

/-- zip's iterator, by the rows that it goes through -/
def ItZ (st : Bool) (P1 P2 : Hp → List V → Prop) : It :=
  ⟨fun i H => ∃ (xs ys : List V) (x y : V), P1 H xs ∧ P2 H ys ∧ xs[i]? = some x ∧ ys[i]? = some y,
    fun i H v H' => ∃ T x y, v = .ref T ∧ H T = none ∧ H' = upd H T (.tup [x, y]) ∧ (∀ xs, P1 H xs → xs[i]? = some x) ∧ ∀ ys, P2 H ys → ys[i]? = some y,
    fun i H => ∃ xs ys : List V, P1 H xs ∧ P2 H ys ∧ (xs.length ≤ i ∨ ys.length ≤ i) ∧ (st = true → xs.length ≤ i ∧ ys.length ≤ i)⟩
def SqK (k : Bool) (K : PySem.W.Frag) (a : Addr) (H : Hp) (vs : List V) : Prop := match k with
  | true => SqL K H a vs
  | false => SqT K H a vs
theorem SqK.at' {X : Cx} {pins : List (Addr × Obj)} {σ : L2.St} {H : Hp} {s : Shared} {k : Bool} {a : Addr} {vs : List V} (q : SqK k X.K a H vs) (I : Inv X pins σ H s) : ∃ its : List Value, Vals vs its ∧ SqV k s.heap a its.toArray ∧ a < s.heap.objs.size := by
  cases k
  · obtain ⟨its, r, p, _⟩ := I.tuple q
    obtain ⟨o, e, _⟩ := id p
    exact ⟨its, r, p, Heap.lt_size e⟩
  · obtain ⟨its, r, p, _⟩ := I.list q
    exact ⟨its, r, p.isList, p.lt⟩
theorem SqK.inj {X : Cx} {pins : List (Addr × Obj)} {σ : L2.St} {H : Hp} {s : Shared} {k : Bool} {a : Addr} {xs ys : List V} (p : SqK k X.K a H xs) (q : SqK k X.K a H ys) (I : Inv X pins σ H s) : xs = ys := by
  cases k
  · exact I.tuple_inj p q
  · exact I.list_inj p q

section
variable {prog : Program} {w : World} {A : Around} {E : Value → Shared → Prop} {s : Shared}
/-- the cells of a new zip -/
def ZNew (s : Shared) (st k1 k2 : Bool) (l1 l2 : Addr) (g : Heap) : Prop :=
  IsZ g (s.heap.objs.size + 4) (s.heap.objs.size + 2) (s.heap.objs.size + 3) .none st ∧ IsPair g (s.heap.objs.size + 2) (.ref s.heap.objs.size) (.ref (s.heap.objs.size + 1)) ∧
    IsPair g (s.heap.objs.size + 3) .none .none ∧ SqI k1 g s.heap.objs.size l1 0 ∧ SqI k2 g (s.heap.objs.size + 1) l2 0 ∧ ∀ c o, s.heap.get? c = some o → g.get? c = some o
theorem itO_is {k : Bool} {g : Heap} {i l : Addr} (e : g.get? i = some (itO k l)) : SqI k g i l 0 := by
  cases k
  · exact ⟨_, e, rfl, rfl⟩
  · exact ⟨_, e, rfl, rfl⟩
theorem znew {st k1 k2 : Bool} {l1 l2 : Addr} : (zh4 s.heap k1 k2 l1 l2).objs.size = s.heap.objs.size + 4 ∧ ZNew s st k1 k2 l1 l2 (zh5 s.heap k1 k2 st l1 l2) := by
  have z1 : (zh1 s.heap k1 l1).objs.size = s.heap.objs.size + 1 := Heap.size_push ..
  have z2 : (zh2 s.heap k1 k2 l1 l2).objs.size = s.heap.objs.size + 2 := by rw [Heap.size_push, z1]
  have z3 : (zh3 s.heap k1 k2 l1 l2).objs.size = s.heap.objs.size + 3 := by rw [Heap.size_push, z2]
  have z4 : (zh4 s.heap k1 k2 l1 l2).objs.size = s.heap.objs.size + 4 := by rw [Heap.size_push, z3]
  have e5 : (zh5 s.heap k1 k2 st l1 l2).get? (zh4 s.heap k1 k2 l1 l2).objs.size = some _ := Heap.get?_push_size _ rfl
  have e4 : (zh5 s.heap k1 k2 st l1 l2).get? (zh3 s.heap k1 k2 l1 l2).objs.size = some _ := Heap.get?_push_of_some _ (Heap.get?_push_size _ rfl)
  have e3 : (zh5 s.heap k1 k2 st l1 l2).get? (zh2 s.heap k1 k2 l1 l2).objs.size = some _ := Heap.get?_push_of_some _ (Heap.get?_push_of_some _ (Heap.get?_push_size _ rfl))
  have e2 : (zh5 s.heap k1 k2 st l1 l2).get? (zh1 s.heap k1 l1).objs.size = some (itO k2 l2) := Heap.get?_push_of_some _ (Heap.get?_push_of_some _ (Heap.get?_push_of_some _ (Heap.get?_push_size _ rfl)))
  have e1 : (zh5 s.heap k1 k2 st l1 l2).get? s.heap.objs.size = some (itO k1 l1) := Heap.get?_push_of_some _ (Heap.get?_push_of_some _ (Heap.get?_push_of_some _ (Heap.get?_push_of_some _ (Heap.get?_push_size _ rfl))))
  rw [z2, z3, z4] at e5
  rw [z1, z2] at e3
  rw [z3] at e4
  rw [z1] at e2
  exact ⟨z4, e5, e3, e4, itO_is e1, itO_is e2, fun c o x => Heap.get?_push_of_some _ (Heap.get?_push_of_some _ (Heap.get?_push_of_some _ (Heap.get?_push_of_some _ (Heap.get?_push_of_some _ x))))⟩
theorem zz_call0 {k1 k2 : Bool} {l1 l2 : Addr} {xs ys : Array Value} {Q : Value → Shared → Prop} (hl1 : SqV k1 s.heap l1 xs) (hl2 : SqV k2 s.heap l2 ys) (h : ∀ g, ZNew s false k1 k2 l1 l2 g → Q (.ref (s.heap.objs.size + 4)) { s with heap := g }) :
    wpAny (model prog w) A (call (.type "zip") [.ref l1, .ref l2]) Q E s := by
  obtain ⟨z4, n⟩ := znew (s := s) (st := false) (k1 := k1) (k2 := k2) (l1 := l1) (l2 := l2)
  refine callType_new F.called_zip (by decide) (F.typeCall_zip_2 _ _) (F.newCall_zip_2 _ _) (fun obj => F.args_object_init_3 obj _ _) F.entry_zip_new (zz_new0 k1 k2 l1 l2 xs ys) ⟨hl1, hl2, ?_⟩
  show _ ∧ _
  rw [z4]
  exact ⟨⟨_, n.1, rfl⟩, h _ n⟩
theorem typeCall_zipS (a b c : Value) : checkTypeCall "zip" ⟨[a, b], [(Str.ofString "strict", c)]⟩ = pure () := by kernel_rfl
theorem newCall_zipS (a b c : Value) : checkBuiltinCall "zip.__new__" ⟨[.type "zip", a, b], [(Str.ofString "strict", c)]⟩ = pure () := by kernel_rfl
theorem args_zipS (obj a b c : Value) : argsOk "object.__init__" ⟨[obj, a, b], [(Str.ofString "strict", c)]⟩ := by
  unfold argsOk
  kernel_rfl
theorem zz_call1 {k1 k2 : Bool} {l1 l2 : Addr} {xs ys : Array Value} {Q : Value → Shared → Prop} (hl1 : SqV k1 s.heap l1 xs) (hl2 : SqV k2 s.heap l2 ys) (h : ∀ g, ZNew s true k1 k2 l1 l2 g → Q (.ref (s.heap.objs.size + 4)) { s with heap := g }) :
    wpAny (model prog w) A (call (.type "zip") [.ref l1, .ref l2] [(Str.ofString "strict", .bool true)]) Q E s := by
  obtain ⟨z4, n⟩ := znew (s := s) (st := true) (k1 := k1) (k2 := k2) (l1 := l1) (l2 := l2)
  refine callType_newKw F.called_zip (by decide) (typeCall_zipS _ _ _) (newCall_zipS _ _ _) (fun obj => args_zipS obj _ _ _) F.entry_zip_new (zz_new1 k1 k2 l1 l2 xs ys) ⟨hl1, hl2, ?_⟩
  show _ ∧ _
  rw [z4]
  exact ⟨⟨_, n.1, rfl⟩, h _ n⟩
end

theorem turn_zz {P : Program} {w : World} {K : PySem.W.Frag} {elts : List Expr} {kk : Nat} {tpos : Pos} {st k1 k2 : Bool} {a b z TI TO i1 i2 : Addr} (D : ZipApart z TI TO i1 i2 a b) :
    Turn P w K (.Tuple elts kk tpos) (ItZ st (SqK k1 K a) (SqK k2 K b)) [z, TI, TO, i1, i2] z (fun i h => IsZ h z TI TO .none st ∧ IsPair h TI (.ref i1) (.ref i2) ∧ (∃ x y, IsPair h TO x y) ∧ SqI k1 h i1 a i ∧ SqI k2 h i2 b i) where
  mem := by simp
  obj := fun i h hs c hc => by
    obtain ⟨hz, hTI, ⟨x, y, hTO⟩, h1, h2⟩ := hs
    obtain ⟨o1, n1, e1, _, d1⟩ := h1.obj
    obtain ⟨o2, n2, e2, _, d2⟩ := h2.obj
    have w : c = z ∨ c = TI ∨ c = TO ∨ c = i1 ∨ c = i2 := by simpa using hc
    rcases w with rfl | rfl | rfl | rfl | rfl
    · exact ⟨_, hz, fun v q => nomatch q⟩
    · exact ⟨_, hTI, fun v q => nomatch q⟩
    · exact ⟨_, hTO, fun v q => nomatch q⟩
    · exact ⟨o1, e1, fun v q => by rw [d1] at q; cases q⟩
    · exact ⟨o2, e2, fun v q => by rw [d2] at q; cases q⟩
  keep := fun i h h' hs k => by
    obtain ⟨hz, hTI, ⟨x, y, hTO⟩, h1, h2⟩ := hs
    exact ⟨k z (by simp) _ hz, k TI (by simp) _ hTI, ⟨x, y, k TO (by simp) _ hTO⟩, h1.at' fun o q => k i1 (by simp) o q, h2.at' fun o q => k i2 (by simp) o q⟩
  item := by
    intro X hP hw hK hc i pins s σ H E I hf hs hg
    subst hP hw hK
    obtain ⟨hz, hTI, ⟨x0, y0, hTO⟩, h1, h2⟩ := hs
    obtain ⟨xs, ys, x, y, hqx, hqy, hx, hy⟩ := hg
    obtain ⟨its, rv, p, _⟩ := hqx.at' I
    obtain ⟨its2, rv2, p2, _⟩ := hqy.at' I
    obtain ⟨u, hu, ru⟩ := rv.get hx
    obtain ⟨u2, hu2, ru2⟩ := rv2.get hy
    have zl : z < s.heap.objs.size := Heap.lt_size hz
    refine zz_next D hz hTI hTO h1 h2 p p2 (x := u) (y := u2) (by simpa using hu) (by simpa using hu2) fun g z1 TO1 h11 h21 hT hsz hk => ?_
    refine ⟨_, rfl, zz_go (s := { s with heap := g }) z1 fun g2 z2 sb => ?_⟩
    have hT2 : g2.get? s.heap.objs.size = some { cls := .type "tuple", data := .seq #[u, u2] } := (sb.2 _ (Nat.ne_of_gt zl)).trans hT
    have new : ObjOk X.prog X.w (upd H s.heap.objs.size (.tup [x, y])) g2 s.heap.objs.size (.tup [x, y]) := ⟨by show 2 ≤ sizeLine; decide, [u, u2], .cons ru (.cons ru2 .nil), ⟨_, hT2, rfl, _, rfl⟩⟩
    have I1 : Inv X pins σ (upd H s.heap.objs.size (.tup [x, y])) { s with heap := g2 } :=
      I.turnedNew (t' := s.toks) (ch := [z, TI, TO, i1, i2]) (fun c o hb q => (sb.2 c (fun q' => hb (by simp [q']))).trans (hk c o (fun q' => hb (by simp [q'])) (fun q' => hb (by simp [q'])) (fun q' => hb (by simp [q'])) (fun q' => hb (by simp [q'])) q)) hf (Nat.le_refl _) new
    refine ⟨.ref s.heap.objs.size, _, I1, rfl, ⟨_, x, y, rfl, I.hok.fresh (Nat.le_refl _), rfl, fun l hl => by rw [SqK.inj hl hqx I]; exact hx, fun l hl => by rw [SqK.inj hl hqy I]; exact hy⟩, ⟨z2, ?_, ⟨u, u2, ?_⟩, ?_, ?_⟩, fun c hcm => ?_⟩
    · exact (sb.2 _ D.TIz).trans (hk _ _ D.TIz D.TITO D.TIi1 D.TIi2 hTI)
    · exact (sb.2 _ D.TOz).trans TO1
    · exact h11.at' fun o q => (sb.2 _ D.i1z).trans q
    · exact h21.at' fun o q => (sb.2 _ D.i2z).trans q
    · have lt : c < s.heap.objs.size := by
        obtain ⟨o1, n1, e1, _⟩ := h1.obj
        obtain ⟨o2, n2, e2, _⟩ := h2.obj
        have w : c = z ∨ c = TI ∨ c = TO ∨ c = i1 ∨ c = i2 := by simpa using hcm
        rcases w with rfl | rfl | rfl | rfl | rfl
        · exact zl
        · exact Heap.lt_size hTI
        · exact Heap.lt_size hTO
        · exact Heap.lt_size e1
        · exact Heap.lt_size e2
      rw [upd_ne (Nat.ne_of_lt lt)]
      exact (hf c hcm).1
  done := by
    intro X hP hw hK hc i pins s σ H E I hf hs hg
    subst hP hw hK
    obtain ⟨hz, hTI, ⟨x0, y0, hTO⟩, h1, h2⟩ := hs
    obtain ⟨xs, ys, hqx, hqy, hend, hst⟩ := hg
    obtain ⟨its, rv, p, _⟩ := hqx.at' I
    obtain ⟨its2, rv2, p2, _⟩ := hqy.at' I
    have l1 := rv.length
    have l2 := rv2.length
    refine zz_stop (I.ok.hd hc) D hz hTI hTO h1 h2 p p2 ?_ (fun e => ?_) fun g hk => ⟨rfl, I.turnedL (t' := s.toks) (ch := [z, TI, TO, i1, i2]) (fun c o hb q => hk c o (fun q' => hb (by simp [q'])) (fun q' => hb (by simp [q'])) (fun q' => hb (by simp [q'])) (fun q' => hb (by simp [q'])) q) hf⟩
    · rcases hend with q | q
      · exact .inl (by simp; omega)
      · exact .inr (by simp; omega)
    · obtain ⟨q1, q2⟩ := hst e
      exact ⟨by simp; omega, by simp; omega⟩
  self := fun A i s Q E hs h => zz_self hs.1 h

/-- what a zip's two arguments are -/
def iZZ (K : PySem.W.Frag) (st : Bool) (ta : TA) : TI := fun σ H R => ta σ H fun vs H1 => ∃ a b k1 k2 xs ys, vs = [.ref a, .ref b] ∧ SqK k1 K a H1 xs ∧ SqK k2 K b H1 ys ∧ R (ItZ st (SqK k1 K a) (SqK k2 K b)) H1
section
variable {X : Cx}
theorem zz_made {pins : List (Addr × Obj)} {σ : L2.St} {H : Hp} {s : Shared} {E : Value → Shared → Prop} {st k1 k2 : Bool} {a b : Addr} {R : It → Hp → Prop} {g : Heap} {elts : List Expr} {kk : Nat} {tpos : Pos} (I : Inv X pins σ H s) (n : ZNew s st k1 k2 a b g) (la : a < s.heap.objs.size) (lb : b < s.heap.objs.size)
    (q : R (ItZ st (SqK k1 X.K a) (SqK k2 X.K b)) H) : wpAny (model X.prog X.w) X.A (pyIter (.ref (s.heap.objs.size + 4))) (PIE X pins σ (.Tuple elts kk tpos) R) E { s with heap := g } := by
  obtain ⟨hz, hTI, hTO, h1, h2, hk⟩ := n
  refine zz_self hz ?_
  have I2 : Inv X pins σ H { s with heap := g } := I.kept (t' := s.toks) hk
  refine ⟨s.heap.objs.size + 4, [s.heap.objs.size + 4, s.heap.objs.size + 2, s.heap.objs.size + 3, s.heap.objs.size, s.heap.objs.size + 1], _, _, H, rfl, I2, turn_zz (PySem.W.ktu_apart s.heap.objs.size a b la lb), ⟨hz, hTI, ⟨_, _, hTO⟩, h1, h2⟩, fun c hcm => ?_, q⟩
  have le : s.heap.objs.size ≤ c := by
    have w : c = s.heap.objs.size + 4 ∨ c = s.heap.objs.size + 2 ∨ c = s.heap.objs.size + 3 ∨ c = s.heap.objs.size ∨ c = s.heap.objs.size + 1 := by simpa using hcm
    rcases w with q | q | q | q | q <;> rw [q] <;> first
      | exact Nat.le_add_right _ _
      | exact Nat.le_refl _
  exact I.fpOk le (I.hok.fresh le)
theorem pi_zz0 {e e2 : Expr} {ta : TA} {p pos tpos : Pos} {elts : List Expr} {kk : Nat} (hg : Gl X "zip") (hm : X.mg "zip" = none) (ha : PA X [e, e2] ta) (hs : starEach [e, e2] X.env = (false, eval e X.env) :: starEach [e2] X.env) (hpl : (backTo pos (starEach [e2] X.env)).any (·.1) = false) :
    PI X (.Tuple elts kk tpos) (.Call (.Name "zip" p) [e, e2] [] pos) (iZZ X.K false ta) := by
  refine ⟨fun pins s σ H R I h => ?_⟩
  refine Call_ (ld_blt I hg hm PyProof.Rows.boot_zip (PyProof.Rows.callWith_type1 (thn (ha.run pos pins s σ H _ I h) fun us s1 h1 => ?_) hs hpl))
  obtain ⟨vs, H1, I1, r1, a, b, k1, k2, xs, ys, rfl, hqx, hqy, q⟩ := h1
  obtain ⟨u, u2, rfl, r, r'⟩ := Vals.two r1
  cases r
  cases r'
  obtain ⟨its, rv, p1, la⟩ := hqx.at' I1
  obtain ⟨its2, rv2, p2, lb⟩ := hqy.at' I1
  exact zz_call0 p1 p2 fun g n => zz_made I1 n la lb q
theorem callWith_tyKw {M : Model} {A : Around} {E : Value → Shared → Prop} {s : Shared} {pos : Pos} {Tn : String} {x : Sem Value} {rest : List (Bool × Sem Value)} {kws : List (Option Str × Sem Value)} {Q : Value → Shared → Prop} (h1 : rest.any (·.1) = false) (h2 : kws.any (·.1.isNone) = false) (h3 : kws.all (·.1.isSome) = true)
    (h : wpAny M A (spliced ((false, x) :: rest)) (fun vs s1 => wpAny M A (evalAll (kws.map (·.2))) (fun ks s2 => wpAny M A (call (.type Tn) vs ((kws.filterMap (·.1)).zip ks)) Q E s2) E s1) E s) : wpAny M A (callWith pos (.type Tn) [] ((false, x) :: rest) kws) Q E s := by
  unfold callWith
  have h0 : ((false, x) :: rest).any (·.1) = false := by
    show (false || rest.any _) = false
    rw [h1] <;> rfl
  refine wpAny_bind (wpAny_holding (wpAny_mono (evalArgs_kwB (Q := fun a s2 => wpAny M A (call (.type Tn) a.pos a.kw) Q E s2) h3 h) (fun a s1 q => wpAny_bind (wpAny_standAt ?_)) fun _ _ z => z))
  simp only [h0, h2, Bool.or_false]
  refine wpAny_bind (wpAny_pure ?_)
  exact wpAny_bind (wpAny_mono q (fun r s2 hr => wpAny_bind (wpAny_holding (wpAny_point (wpAny_pure hr)))) fun _ _ z => z)
theorem pi_zz1 {e e2 : Expr} {ta : TA} {p pos tpos kp cp : Pos} {elts : List Expr} {kk ck : Nat} (hg : Gl X "zip") (hm : X.mg "zip" = none) (ha : PA X [e, e2] ta) (hs : starEach [e, e2] X.env = (false, eval e X.env) :: starEach [e2] X.env) (hpl : (backTo pos (starEach [e2] X.env)).any (·.1) = false) :
    PI X (.Tuple elts kk tpos) (.Call (.Name "zip" p) [e, e2] [⟨some (Str.ofString "strict"), .Constant (.bool true) ck cp, kp⟩] pos) (iZZ X.K true ta) := by
  refine ⟨fun pins s σ H R I h => ?_⟩
  refine wpAny_Call_Name_kw (ld_blt I hg hm PyProof.Rows.boot_zip ?_)
  have hA := ha.run pos pins s σ H _ I h
  rw [hs] at hA ⊢
  refine callWith_tyKw hpl rfl rfl (thn hA fun us s1 h1 => ?_)
  obtain ⟨vs, H1, I1, r1, a, b, k1, k2, xs, ys, rfl, hqx, hqy, q⟩ := h1
  obtain ⟨u, u2, rfl, r, r'⟩ := Vals.two r1
  cases r
  cases r'
  refine PyProof.Rows.kws_cons (thn (pe_bl.run pins s1 σ H1 (fun v H2 => v = .bl true ∧ H2 = H1) I1 ⟨rfl, rfl⟩) fun v s2 h2 => PyProof.Rows.kws_nil ?_)
  obtain ⟨v', H2, I2, rv', rfl, rfl⟩ := h2
  obtain rfl : v = Value.bool true := rv'
  obtain ⟨its, rv, p1, la⟩ := hqx.at' I2
  obtain ⟨its2, rv2, p2, lb⟩ := hqy.at' I2
  exact zz_call1 p1 p2 fun g n => zz_made I2 n la lb q
end
end Rp
/-! # A small language of resolved trees, with a wish-transformer over a store of numbered objects -/
namespace Rp
open PySem

/-- the built-in classes of which things are asked -/
inductive BT where
  | non | int | bool | str | tuple | list | dict
  deriving DecidableEq
def BT.nm : BT → String
  | .non => "NoneType" | .int => "int" | .bool => "bool" | .str => "str" | .tuple => "tuple" | .list => "list" | .dict => "dict"

/-- values: tuples are trees, lists, dicts and instances stand in the store -/
inductive PV where
  | non
  | bl (b : Bool)
  | int (i : Int)
  | str (s : Str)
  | tup (xs : List PV)
  | scr (xs : List PV)
  | ref (i : Nat)
  | fn (i : Nat)
  | cls (i : Nat)
  | ty (n : BT)

instance : Inhabited PV := ⟨.non⟩

/-- what stands in the store -/
inductive SO where
  | lst (xs : List PV)
  | dic (kvs : List (PV × PV))
  | ins (c : Nat) (fs : List (String × PV))

abbrev Store := List SO
abbrev Sg := List (Option PV)

/-- a raised error: an own class, its fields -/
structure Ex where
  cls : Nat
  fs : List (String × PV)

/-- the built-in functions and classes that are called -/
inductive Blt where
  | len | sum | max | min | abs | int | str | repr | list | tuple | sorted | isinstance | all | any | bool
  deriving DecidableEq
def Blt.nm : Blt → String
  | .len => "len" | .sum => "sum" | .max => "max" | .min => "min" | .abs => "abs" | .int => "int" | .str => "str" | .repr => "repr" | .list => "list" | .tuple => "tuple"
  | .sorted => "sorted" | .isinstance => "isinstance" | .all => "all" | .any => "any" | .bool => "bool"
/-- the methods of the built-in classes -/
inductive BM where
  | append | pop
  deriving DecidableEq
def BM.nm : BM → String
  | .append => "append" | .pop => "pop"

abbrev QV := PV → Store → Prop
abbrev QX := Ex → Store → Prop

mutual
inductive RE where
  | loc (i : Nat)
  | const (c : PV)
  | glob (x : String) (c : PV)
  | bin (op : Operator) (a b : RE)
  | neg (a : RE)
  | cmp (op : CmpOp) (a b : RE)
  | chain (op op' : CmpOp) (a b c : RE)
  | and (es : REs)
  | or (es : REs)
  | not (a : RE)
  | ite (c a b : RE)
  | tup (es : REs)
  | lst (es : REs)
  | dic (ks vs : REs)
  /-- a def of the text: its number, the written positional arguments, the keywords' values, their names, how the parameters are filled -/
  | call (f : Nat) (x : String) (es : REs) (ks : List String) (kes : REs) (arr : List (Nat ⊕ PV))
  | make (c : Nat) (x : String) (es : REs) (ks : List String) (kes : REs) (arr : List (Nat ⊕ PV))
  | blt (b : Blt) (es : REs)
  | bltK (b : Blt) (es : REs) (ks : List String) (kes : REs)
  | meth (o : RE) (m : String) (b : Option BM) (es : REs) (ks : List String) (kes : REs) (arr : List (Nat ⊕ PV))
  | fld (o : RE) (f : String)
  | sub (o i : RE)
  | slice (o : RE) (lo hi : RO) (st : Option Int)
  /-- o[::st] -/
  | step (o : RE) (st : Int)
  /-- a == b, a != b by the text's own == -/
  | eqO (neg : Bool) (a b : RE)
  /-- len(a), str(a), repr(a) by the text's own -/
  | bltO (b : Blt) (a : RE)
  /-- len(range(a)) -/
  | lenR (a : RE)
  /-- a built-in class by its name, as a value -/
  | gty (n : BT)
  | lc (elt : RE) (tg : RT) (it : RI) (ifs : REs) (own : List Nat)
inductive REs where
  | nil
  | cons (e : RE) (es : REs)
inductive RO where
  | none
  | some (e : RE)
/-- what is walked -/
inductive RI where
  | val (e : RE)
  | range (es : REs)
  | enum (e : RE)
  | zip (a b : RE) (strict : Bool)
/-- targets -/
inductive RT where
  | name (i : Nat)
  | tup (ts : RTs)
  | sub (o i : RE)
  | fld (o : RE) (f : String)
inductive RTs where
  | nil
  | cons (t : RT) (ts : RTs)
  | star (i : Nat)
end

mutual
inductive RS where
  | asg (t : RT) (e : RE)
  | setlc (i : Nat) (elt : RE) (tg : RT) (it : RI) (ifs : REs) (own : List Nat)
  | asg2 (t u : RT) (e : RE)
  | par (is : List Nat) (es : REs)
  | aug (i : Nat) (op : Operator) (e : RE)
  | augF (o : RE) (f : String) (op : Operator) (e : RE)
  | expr (e : RE)
  | doc
  | ret (e : RE)
  | retN
  | ife (c : RE) (a b : RSs)
  | whl (c : RE) (a : RSs)
  | for_ (tg : RT) (it : RI) (a : RSs)
  | brk
  | cont
  | pass
inductive RSs where
  | nil
  | cons (s : RS) (ss : RSs)
end

/-! ### the table of a text -/
structure FDef where
  /-- names by place, parameters first -/
  N : List String
  /-- how many parameters -/
  np : Nat
  body : RSs
structure CDef where
  ini : Option Nat
  ms : List (String × Nat)
  /-- the class itself, and those above -/
  up : List Nat
structure Tab where
  fns : List FDef
  cls : List CDef

instance : Inhabited FDef := ⟨⟨[], 0, .nil⟩⟩
instance : Inhabited CDef := ⟨⟨.none, [], []⟩⟩

/-- what a call of the def f with these (bound) arguments brings -/
abbrev CS := Nat → List PV → Store → QV → QX → Prop

/-- the largest size of a list, a tuple, a text -/
abbrev lim : Nat := 16777216

/-! ### plain data: what ==, repr look through -/
mutual
inductive Dat : Store → PV → PyData → Prop where
  | non {S} : Dat S .non .none
  | bl {S} (b : Bool) : Dat S (.bl b) (.bool b)
  | int {S} (i : Int) : Dat S (.int i) (.int i)
  | str {S} (x : Str) : Dat S (.str x) (.str x)
  | tup {S xs ds} : Dats S xs ds → Dat S (.tup xs) (.tuple ds)
  | scr {S xs ds} : Dats S xs ds → Dat S (.scr xs) (.list ds)
  | lst {S : Store} {i xs ds} : S[i]? = some (SO.lst xs) → Dats S xs ds → Dat S (.ref i) (.list ds)
inductive Dats : Store → List PV → List PyData → Prop where
  | nil {S} : Dats S [] []
  | cons {S x xs d ds} : Dat S x d → Dats S xs ds → Dats S (x :: xs) (d :: ds)
end

/-- truth -/
def tru (S : Store) : PV → Option Bool
  | .non => some false
  | .bl b => some b
  | .int i => some (decide (i ≠ 0))
  | .str s => if s.length ≤ lim then some (decide (s.length ≠ 0)) else .none
  | .tup xs => some (!xs.isEmpty)
  | .scr xs => some (!xs.isEmpty)
  | .ref i => match S[i]? with
    | some (.lst xs) => some (!xs.isEmpty)
    | some (.dic kvs) => some (!kvs.isEmpty)
    | _ => .none
  | _ => .none

/-- a list's items -/
def lstOf (S : Store) : PV → Option (List PV)
  | .scr xs => some xs
  | .ref i => match S[i]? with
    | some (.lst xs) => some xs
    | _ => .none
  | _ => .none

/-- the items that stand in a value -/
def itemsOf (S : Store) : PV → Option (List PV)
  | .tup xs => some xs
  | .scr xs => some xs
  | .ref i => match S[i]? with
    | some (.lst xs) => some xs
    | _ => .none
  | _ => .none

/-! ### what the built-in operations bring -/
/-- x[k] of a row -/
def idx {α : Type} (xs : List α) (k : Int) : Option α :=
  if 0 ≤ k then xs[k.toNat]? else if 0 ≤ (xs.length : Int) + k then xs[((xs.length : Int) + k).toNat]? else .none
/-- the place that a bound tells -/
def bnd (n d : Nat) : Option Int → Nat
  | .none => d
  | .some v => if v < 0 then (v + (n : Int)).toNat else min v.toNat n
/-- xs[lo:hi] -/
def cutL {α : Type} (xs : List α) (lo hi : Option Int) : List α := (xs.drop (bnd xs.length 0 lo)).take (bnd xs.length xs.length hi - bnd xs.length 0 lo)

def fit (i : Int) : Prop := -(2 ^ 64) < i ∧ i < 2 ^ 64
/-- products: one side is small, or both together below a million bits -/
def mulOk (a b : Int) : Prop := fit a ∨ fit b ∨ a.natAbs.log2 + b.natAbs.log2 < 100000000
def divOk (b : Int) : Prop := 0 < b ∧ b < 1073741824

def wpBin (op : Operator) (x y : PV) (S : Store) (Q : QV) : Prop :=
  match op with
  | .Add => match x, y with
    | .int a, .int b => Q (.int (a + b)) S
    | .str a, .str b => a.length + b.length ≤ lim ∧ Q (.str (a ++ b)) S
    | .tup xs, .tup ys => xs.length + ys.length ≤ lim ∧ Q (.tup (xs ++ ys)) S
    | .ref i, .ref j => ∃ xs ys, S[i]? = some (.lst xs) ∧ S[j]? = some (.lst ys) ∧ xs.length + ys.length ≤ lim ∧ Q (.ref S.length) (S ++ [.lst (xs ++ ys)])
    | _, _ => False
  | .Sub => match x, y with
    | .int a, .int b => Q (.int (a - b)) S
    | _, _ => False
  | .Mult => match x, y with
    | .int a, .int b => mulOk a b ∧ Q (.int (a * b)) S
    | .tup xs, .int n => (xs ≠ [] ∧ 2 ≤ n ∧ n ≤ 1000 ∧ xs.length ≤ 1000) ∧ Q (.tup (List.replicate n.toNat xs).flatten) S
    | .ref i, .int n => ∃ xs, S[i]? = some (.lst xs) ∧ -1000000 ≤ n ∧ n ≤ 1000000 ∧ xs.length * n.toNat ≤ lim ∧ Q (.ref S.length) (S ++ [.lst (List.replicate n.toNat xs).flatten])
    | _, _ => False
  | .FloorDiv => match x, y with
    | .int a, .int b => divOk b ∧ Q (.int (a / b)) S
    | _, _ => False
  | .Mod => match x, y with
    | .int a, .int b => 0 < b ∧ Q (.int (a % b)) S
    | _, _ => False
  | .Pow => match x, y with
    | .int a, .int b => (0 ≤ b ∧ b ≤ 1000000 ∧ fit a) ∧ Q (.int (a ^ b.toNat)) S
    | _, _ => False
  | _ => False

/-- x op= y, of numbers -/
def wpAug (op : Operator) (x y : PV) (S : Store) (Q : QV) : Prop :=
  match op, x, y with
  | .Add, .int a, .int b => Q (.int (a + b)) S
  | .Sub, .int a, .int b => Q (.int (a - b)) S
  | _, _, _ => False

/-- == : the scalars at once, data by their trees -/
def wpEq (x y : PV) (S : Store) (Q : Bool → Prop) : Prop :=
  match x, y with
  | .int a, .int b => Q (decide (a = b))
  | .bl a, .bl b => Q (decide (a = b))
  | .str a, .str b => Q (decide (a = b))
  | x, y => ∃ d e, Dat S x d ∧ Dat S y e ∧ SeqAt.shaped d = true ∧ SeqAt.shaped e = true ∧ Q (PyData.eqv d e)

/-- x is y: None, truths -/
def wpIs (x y : PV) (Q : Bool → Prop) : Prop :=
  match x, y with
  | .non, .non => Q true
  | .non, .bl _ => Q false
  | .bl a, .bl b => Q (decide (a = b))
  | .int _, .non => Q false
  | .bl _, .non => Q false
  | .str _, .non => Q false
  | .tup _, .non => Q false
  | .scr _, .non => Q false
  | .ref _, .non => Q false
  | .fn _, .non => Q false
  | .cls _, .non => Q false
  | _, _ => False

def wpCmp (op : CmpOp) (x y : PV) (S : Store) (Q : Bool → Prop) : Prop :=
  match op with
  | .Eq => wpEq x y S Q
  | .NotEq => wpEq x y S fun b => Q (!b)
  | .Is => wpIs x y Q
  | .IsNot => wpIs x y fun b => Q (!b)
  | .Lt => match x, y with
    | .int a, .int b => Q (decide (a < b))
    | _, _ => False
  | .LtE => match x, y with
    | .int a, .int b => Q (decide (a ≤ b))
    | _, _ => False
  | .Gt => match x, y with
    | .int a, .int b => Q (decide (b < a))
    | _, _ => False
  | .GtE => match x, y with
    | .int a, .int b => Q (decide (b ≤ a))
    | _, _ => False
  | _ => False

/-- x[i] -/
def wpSub (x i : PV) (S : Store) (Q : QV) : Prop :=
  match i with
  | .int k => ∃ xs v, itemsOf S x = some xs ∧ idx xs k = some v ∧ Q v S
  | _ => False
/-- x[lo:hi] -/
def wpSlice (x : PV) (lo hi : Option Int) (S : Store) (Q : QV) : Prop :=
  match x with
  | .tup xs => Q (.tup (cutL xs lo hi)) S
  | x => ∃ xs, lstOf S x = some xs ∧ Q (.ref S.length) (S ++ [.lst (cutL xs lo hi)])
/-- x[::-1] -/
def wpRev (x : PV) (S : Store) (Q : QV) : Prop :=
  ∃ xs, lstOf S x = some xs ∧ Q (.ref S.length) (S ++ [.lst xs.reverse])
/-- every st-th item -/
def pickL {α : Type} (xs : List α) (st : Int) : List α := (sliceRange (sliceBounds none none (some st) xs.length).1 (sliceBounds none none (some st) xs.length).2.1 (sliceBounds none none (some st) xs.length).2.2).filterMap (xs[·]?)
/-- x[::st] -/
def wpStep (x : PV) (st : Int) (S : Store) (Q : QV) : Prop :=
  ∃ xs, lstOf S x = some xs ∧ st ≠ 0 ∧ Q (.ref S.length) (S ++ [.lst (pickL xs st)])
/-- x[i] = v -/
def wpSet (x i v : PV) (S : Store) (Q : Store → Prop) : Prop :=
  match x, i with
  | .ref a, .int k => ∃ xs, S[a]? = some (.lst xs) ∧ 0 ≤ k ∧ k < (xs.length : Int) ∧ Q (S.set a (.lst (xs.set k.toNat v)))
  | _, _ => False

/-- the greatest, the least of a row of numbers -/
def maxI : List Int → Int
  | [] => 0
  | [a] => a
  | a :: b :: r => if a < maxI (b :: r) then maxI (b :: r) else a
def minI : List Int → Int
  | [] => 0
  | [a] => a
  | a :: b :: r => if minI (b :: r) < a then minI (b :: r) else a

/-- one argument, two arguments -/
def one (vs : List PV) (P : PV → Prop) : Prop := match vs with
  | [x] => P x
  | _ => False
def two (vs : List PV) (P : PV → PV → Prop) : Prop := match vs with
  | [x, y] => P x y
  | _ => False
def isInt (x : PV) (P : Int → Prop) : Prop := match x with
  | .int i => P i
  | _ => False
def wpLen (x : PV) (S : Store) (Q : QV) : Prop := match x with
  | .str s => s.length ≤ lim ∧ Q (.int (s.length : Int)) S
  | x => ∃ xs, itemsOf S x = some xs ∧ Q (.int (xs.length : Int)) S
def wpInt (x : PV) (S : Store) (Q : QV) : Prop := match x with
  | .int i => Q (.int i) S
  | .bl k => Q (.int (if k = true then 1 else 0)) S
  | _ => False
def wpMax (vs : List PV) (S : Store) (Q : QV) : Prop := match vs with
  | [x] => ∃ ns : List Int, lstOf S x = some (ns.map .int) ∧ ns ≠ [] ∧ Q (.int (maxI ns)) S
  | [x, y] => isInt x fun i => isInt y fun j => Q (.int (if j > i then j else i)) S
  | _ => False
def wpMin (vs : List PV) (S : Store) (Q : QV) : Prop := match vs with
  | [x] => ∃ ns : List Int, lstOf S x = some (ns.map .int) ∧ ns ≠ [] ∧ Q (.int (minI ns)) S
  | [x, y] => isInt x fun i => isInt y fun j => Q (.int (if j < i then j else i)) S
  | _ => False
def wpRepr (x : PV) (S : Store) (Q : QV) : Prop := ∃ d, Dat S x d ∧ d.showable = true ∧ d.hasDict = false ∧ d.depth ≤ 64 ∧ d.shown.length ≤ lim ∧ Q (.str d.shown) S
/-- what kind of thing a value is -/
inductive Knd where
  | ty (n : BT)
  | ins (c : Nat)
def knd (S : Store) : PV → Option Knd
  | .non => some (.ty .non)
  | .bl _ => some (.ty .bool)
  | .int _ => some (.ty .int)
  | .str _ => some (.ty .str)
  | .tup _ => some (.ty .tuple)
  | .scr _ => some (.ty .list)
  | .ref i => match S[i]? with
    | some (.lst _) => some (.ty .list)
    | some (.dic _) => some (.ty .dict)
    | some (.ins c _) => some (.ins c)
    | .none => .none
  | _ => .none
def btSub (a b : BT) : Bool := decide (a = b) || match a, b with
  | .bool, .int => true
  | _, _ => false
def isOne (T : Tab) : Knd → PV → Option Bool
  | _, .ty .non => .none
  | .ty a, .ty b => some (btSub a b)
  | .ty _, .cls d => (T.cls[d]?).map fun _ => false
  | .ins c, .ty _ => (T.cls[c]?).map fun _ => false
  | .ins c, .cls d => (T.cls[c]?).bind fun cd => (T.cls[d]?).map fun _ => cd.up.contains d
  | _, _ => .none
def isAny (T : Tab) (k : Knd) : List PV → Option Bool
  | [] => some false
  | c :: r => match isOne T k c with
    | some true => some true
    | some false => isAny T k r
    | .none => .none
def isInst (T : Tab) (S : Store) (x t : PV) : Option Bool := (knd S x).bind fun k => match t with
  | .tup (c :: r) => isAny T k (c :: r)
  | t => isOne T k t
/-- the truths of a row -/
def blsOf : List PV → Option (List Bool)
  | [] => some []
  | .bl b :: r => (blsOf r).map (b :: ·)
  | _ => .none
/-- a built-in called without keywords -/
def wpBlt (T : Tab) (b : Blt) (vs : List PV) (S : Store) (Q : QV) : Prop :=
  match b with
  | .len => one vs fun x => wpLen x S Q
  | .sum => one vs fun x => ∃ ns : List Int, lstOf S x = some (ns.map .int) ∧ Q (.int ns.sum) S
  | .max => wpMax vs S Q
  | .min => wpMin vs S Q
  | .abs => one vs fun x => isInt x fun i => Q (.int (if i < 0 then -i else i)) S
  | .int => one vs fun x => wpInt x S Q
  | .list => one vs fun x => ∃ xs, itemsOf S x = some xs ∧ Q (.ref S.length) (S ++ [.lst xs])
  | .tuple => one vs fun x => ∃ xs, itemsOf S x = some xs ∧ Q (.tup xs) S
  | .repr => one vs fun x => wpRepr x S Q
  | .isinstance => two vs fun x t => ∃ b, isInst T S x t = some b ∧ Q (.bl b) S
  | _ => False
/-- .. with keywords -/
def wpBltK (b : Blt) (vs : List PV) (ks : List String) (kvs : List PV) (S : Store) (Q : QV) : Prop :=
  match b, ks with
  | .max, ["default"] => one vs fun x => one kvs fun z => ∃ ns : List Int, lstOf S x = some (ns.map .int) ∧ Q (if ns = [] then z else .int (maxI ns)) S
  | _, _ => False

def wpBM (m : BM) (x : PV) (vs : List PV) (S : Store) (Q : QV) : Prop :=
  match m with
  | .append => one vs fun v => match x with
    | .ref a => ∃ xs, S[a]? = some (.lst xs) ∧ xs.length < lim ∧ Q .non (S.set a (.lst (xs ++ [v])))
    | _ => False
  | .pop => match vs, x with
    | [], .ref a => ∃ xs y, S[a]? = some (.lst (xs ++ [y])) ∧ Q y (S.set a (.lst xs))
    | _, _ => False

/-! ### the wish of a tree -/
/-- how a def's parameters are filled from the written values -/
def fill (arr : List (Nat ⊕ PV)) (vs : List PV) : List PV := arr.map fun
  | .inl i => vs.getD i .non
  | .inr v => v
/-- the method m of the object v -/
def methOf (T : Tab) (S : Store) (v : PV) (m : String) : Option Nat :=
  match v with
  | .ref a => match S[a]? with
    | some (.ins c fs) => match fs.lookup m with
      | some _ => .none
      | .none => ((T.cls[c]?).map (·.ms)).bind (·.lookup m)
    | _ => .none
  | _ => .none
def isLst (S : Store) (v : PV) : Bool :=
  match v with
  | .ref a => match S[a]? with
    | some (.lst _) => true
    | _ => false
  | _ => false
/-- whose method it is, ahead of the arguments: a def, or a list's own -/
def recv (T : Tab) (S : Store) (x : PV) (m : String) (b : Option BM) : Option (Nat ⊕ BM) :=
  match methOf T S x m with
  | some f => some (.inl f)
  | .none => match b with
    | some b' => if isLst S x = true then some (.inr b') else .none
    | .none => .none
def fldOf (T : Tab) (S : Store) (v : PV) (f : String) : Option PV :=
  match v with
  | .ref a => match S[a]? with
    | some (.ins c fs) => (T.cls[c]?).bind fun _ => fs.lookup f
    | _ => .none
  | _ => .none
/-- by whose method it is -/
def onRecv (r : Option (Nat ⊕ BM)) (A : Nat → Prop) (B : BM → Prop) : Prop := match r with
  | some (.inl f) => A f
  | some (.inr b) => B b
  | .none => False
theorem onRecv_own {r : Option (Nat ⊕ BM)} {A : Nat → Prop} {B : BM → Prop} {f : Nat} (h : r = some (.inl f)) (q : A f) : onRecv r A B := by
  rw [h]
  exact q
theorem onRecv_blt {r : Option (Nat ⊕ BM)} {A : Nat → Prop} {B : BM → Prop} {b : BM} (h : r = some (.inr b)) (q : B b) : onRecv r A B := by
  rw [h]
  exact q
/-- a field stored -/
def putFl (f : String) (v : PV) : List (String × PV) → List (String × PV)
  | [] => [(f, v)]
  | (g, w) :: r => if g = f then (g, v) :: r else (g, w) :: putFl f v r

/-- the slots of a comprehension's own names, forgotten -/
def wipeG (σ : Sg) : List Nat → Sg
  | [] => σ
  | v :: vs => (wipeG σ vs).set v .none

/-- the numbers lo, lo + 1, .. -/
def rngL (lo : Int) : Nat → List PV
  | 0 => []
  | n + 1 => .int lo :: rngL (lo + 1) n

abbrev okR (i : Int) : Prop := -(2 ^ 62) ≤ i ∧ i < 2 ^ 62

/-- enumerate's pairs -/
def enumL (i : Int) : List PV → List PV
  | [] => []
  | x :: r => .tup [.int i, x] :: enumL (i + 1) r
def zipL : List PV → List PV → List PV
  | x :: r, y :: s => .tup [x, y] :: zipL r s
  | _, _ => []

/-- a source stands still -/
def still (S : Store) (v : PV) : Store → Prop :=
  match v with
  | .ref i => fun S' => S'[i]? = S[i]?
  | _ => fun _ => True

/-- the items of a comprehension, one by one -/
def lcRun (step : PV → Store → (Option PV → Store → Prop) → Prop) (st : Store → Prop) : List PV → List PV → Store → QV → Prop
  | [], acc, S, Q => Q (.ref S.length) (S ++ [.lst acc])
  | x :: r, acc, S, Q => step x S fun v S' => st S' ∧ lcRun step st r (match v with | .none => acc | some y => acc ++ [y]) S' Q
/-- the turns of a for -/
def forRun (turn : PV → Sg → Store → (Sg → Store → Prop) → Prop) (st : Store → Prop) : List PV → Sg → Store → (Sg → Store → Prop) → Prop
  | [], σ, S, Q => Q σ S
  | x :: r, σ, S, Q => turn x σ S fun σ' S' => st S' ∧ forRun turn st r σ' S' Q

/-- how many items are taken, of n -/
def RTs.cnt : RTs → Nat → Nat
  | .nil, _ => 0
  | .cons _ r, n => r.cnt (n - 1) + 1
  | .star _, n => n
def RTs.len : RTs → Nat
  | .nil => 0
  | .cons _ r => r.len + 1
  | .star _ => 0

/-- whose == is asked, against what -/
def eqKind (S : Store) (x y : PV) : Prop := match knd S x, knd S y with
  | some (.ins c), some (.ins d) => c = d
  | some (.ins _), some (.ty _) => True
  | _, _ => False
def wpEqO (T : Tab) (C : CS) (neg : Bool) (x y : PV) (S : Store) (Q : QV) : Prop :=
  ∃ f, methOf T S x "__eq__" = some f ∧ eqKind S x y ∧ C f [x, y] S (fun v S' => ∃ k, v = .bl k ∧ Q (.bl (if neg = true then !k else k)) S') (fun _ _ => False)
/-- the own name for a built-in -/
def Blt.own : Blt → Option String
  | .len => some "__len__"
  | .str => some "__str__"
  | .repr => some "__repr__"
  | _ => .none
def wpBltO (T : Tab) (C : CS) (b : Blt) (x : PV) (S : Store) (Q : QV) : Prop :=
  ∃ m f, b.own = some m ∧ methOf T S x m = some f ∧ C f [x] S (fun v S' => match b with
    | .len => ∃ n : Nat, v = .int n ∧ n ≤ 1000000 ∧ Q v S'
    | _ => ∃ s, v = .str s ∧ Q v S') (fun _ _ => False)
mutual
def wpE (T : Tab) (C : CS) : RE → Sg → Store → QV → QX → Prop
  | .loc i, σ, S, Q, _ => ∃ v, σ[i]? = some (some v) ∧ Q v S
  | .const c, _, S, Q, _ => Q c S
  | .glob _ c, _, S, Q, _ => Q c S
  | .bin op a b, σ, S, Q, R => wpE T C a σ S (fun x S1 => wpE T C b σ S1 (fun y S2 => wpBin op x y S2 Q) R) R
  | .neg a, σ, S, Q, R => wpE T C a σ S (fun x S1 => ∃ i, x = .int i ∧ Q (.int (-i)) S1) R
  | .cmp op a b, σ, S, Q, R => wpE T C a σ S (fun x S1 => wpE T C b σ S1 (fun y S2 => wpCmp op x y S2 fun k => Q (.bl k) S2) R) R
  | .chain op op' a b c, σ, S, Q, R => wpE T C a σ S (fun x S1 => wpE T C b σ S1 (fun y S2 => wpCmp op x y S2 fun k =>
      if k = true then wpE T C c σ S2 (fun z S3 => wpCmp op' y z S3 fun k' => Q (.bl k') S3) R else Q (.bl false) S2) R) R
  | .and es, σ, S, Q, R => wpAndV T C es σ S Q R
  | .or es, σ, S, Q, R => wpOrV T C es σ S Q R
  | .not a, σ, S, Q, R => wpE T C a σ S (fun x S1 => ∃ k, tru S1 x = some k ∧ Q (.bl (!k)) S1) R
  | .ite c a b, σ, S, Q, R => wpT T C c σ S (fun k S1 => if k = true then wpE T C a σ S1 Q R else wpE T C b σ S1 Q R) R
  | .tup es, σ, S, Q, R => wpEs T C es σ S (fun vs S1 => Q (.tup vs) S1) R
  | .lst es, σ, S, Q, R => wpEs T C es σ S (fun vs S1 => Q (.ref S1.length) (S1 ++ [.lst vs])) R
  | .dic ks vs, σ, S, Q, R => False
  | .call f _ es _ kes arr, σ, S, Q, R => wpEs T C es σ S (fun vs S1 => wpEs T C kes σ S1 (fun ws S2 => C f (fill arr (vs ++ ws)) S2 Q R) R) R
  | .make c _ es _ kes arr, σ, S, Q, R => wpEs T C es σ S (fun vs S1 => wpEs T C kes σ S1 (fun ws S2 =>
      ∃ f, ((T.cls[c]?).bind (·.ini)) = some f ∧ C f (.ref S2.length :: fill arr (vs ++ ws)) (S2 ++ [.ins c []]) (fun v S3 => v = .non ∧ Q (.ref S2.length) S3) R) R) R
  | .blt b es, σ, S, Q, R => wpEs T C es σ S (fun vs S1 => wpBlt T b vs S1 Q) R
  | .bltK b es ks kes, σ, S, Q, R => wpEs T C es σ S (fun vs S1 => wpEs T C kes σ S1 (fun ws S2 => wpBltK b vs ks ws S2 Q) R) R
  | .meth o m b es _ kes arr, σ, S, Q, R => wpE T C o σ S (fun x S1 => onRecv (recv T S1 x m b)
    (fun f => wpEs T C es σ S1 (fun vs S2 => wpEs T C kes σ S2 (fun ws S3 => C f (x :: fill arr (vs ++ ws)) S3 Q R) R) R)
    (fun b' => wpEs T C es σ S1 (fun vs S2 => wpBM b' x vs S2 Q) R)) R
  | .fld o f, σ, S, Q, R => wpE T C o σ S (fun x S1 => ∃ v, fldOf T S1 x f = some v ∧ Q v S1) R
  | .sub o i, σ, S, Q, R => wpE T C o σ S (fun x S1 => wpE T C i σ S1 (fun k S2 => wpSub x k S2 Q) R) R
  | .slice o lo hi .none, σ, S, Q, R => wpE T C o σ S (fun x S1 => wpO T C lo σ S1 (fun l S2 => wpO T C hi σ S2 (fun h S3 => wpSlice x l h S3 Q) R) R) R
  | .slice o lo hi (some st), σ, S, Q, R => wpE T C o σ S (fun x S1 => st = -1 ∧ wpRev x S1 Q) R
  | .step o st, σ, S, Q, R => wpE T C o σ S (fun x S1 => wpStep x st S1 Q) R
  | .gty n, _, S, Q, _ => Q (.ty n) S
  | .eqO neg a b, σ, S, Q, R => wpE T C a σ S (fun x S1 => wpE T C b σ S1 (fun y S2 => wpEqO T C neg x y S2 Q) R) R
  | .lenR a, σ, S, Q, R => wpE T C a σ S (fun x S1 => ∃ i, x = .int i ∧ 0 ≤ i ∧ i < 2 ^ 62 ∧ Q (.int i) S1) R
  | .bltO b a, σ, S, Q, R => wpE T C a σ S (fun x S1 => wpBltO T C b x S1 Q) R
  | .lc elt tg it ifs own, σ, S, Q, R => wpI T C it σ S (fun xs st S1 => xs.length ≤ lim ∧
      lcRun (fun x S2 Q2 => wpTg T C tg x (wipeG σ own) S2 (fun σ3 S3 => wpTs T C ifs σ3 S3 (fun k S4 =>
        if k = true then wpE T C elt σ3 S4 (fun v S5 => Q2 (some v) S5) (fun _ _ => False) else Q2 .none S4) (fun _ _ => False)) (fun _ _ => False)) st xs [] S1 Q) R
def wpEs (T : Tab) (C : CS) : REs → Sg → Store → (List PV → Store → Prop) → QX → Prop
  | .nil, _, S, Q, _ => Q [] S
  | .cons e es, σ, S, Q, R => wpE T C e σ S (fun v S1 => wpEs T C es σ S1 (fun vs S2 => Q (v :: vs) S2) R) R
def wpO (T : Tab) (C : CS) : RO → Sg → Store → (Option Int → Store → Prop) → QX → Prop
  | .none, _, S, Q, _ => Q .none S
  | .some e, σ, S, Q, R => wpE T C e σ S (fun v S1 => ∃ i, v = .int i ∧ Q (some i) S1) R
/-- a test -/
def wpT (T : Tab) (C : CS) : RE → Sg → Store → (Bool → Store → Prop) → QX → Prop
  | .and es, σ, S, Q, R => wpAnd T C es σ S Q R
  | .or es, σ, S, Q, R => wpOr T C es σ S Q R
  | .not a, σ, S, Q, R => wpT T C a σ S (fun k S1 => Q (!k) S1) R
  | .ite c a b, σ, S, Q, R => wpT T C c σ S (fun k S1 => if k = true then wpT T C a σ S1 Q R else wpT T C b σ S1 Q R) R
  | .loc i, σ, S, Q, _ => ∃ v, σ[i]? = some (some v) ∧ ∃ k, tru S v = some k ∧ Q k S
  | .const c, _, S, Q, _ => ∃ k, tru S c = some k ∧ Q k S
  | .cmp op a b, σ, S, Q, R => wpE T C a σ S (fun x S1 => wpE T C b σ S1 (fun y S2 => wpCmp op x y S2 fun k => Q k S2) R) R
  | .chain op op' a b c, σ, S, Q, R => wpE T C a σ S (fun x S1 => wpE T C b σ S1 (fun y S2 => wpCmp op x y S2 fun k =>
      if k = true then wpE T C c σ S2 (fun z S3 => wpCmp op' y z S3 fun k' => Q k' S3) R else Q false S2) R) R
  | .call f _ es _ kes arr, σ, S, Q, R => wpEs T C es σ S (fun vs S1 => wpEs T C kes σ S1 (fun ws S2 => C f (fill arr (vs ++ ws)) S2 (fun v S3 => ∃ k, tru S3 v = some k ∧ Q k S3) R) R) R
  | .blt b es, σ, S, Q, R => wpEs T C es σ S (fun vs S1 => wpBlt T b vs S1 (fun v S3 => ∃ k, tru S3 v = some k ∧ Q k S3)) R
  | .meth o m b es _ kes arr, σ, S, Q, R => wpE T C o σ S (fun x S1 => onRecv (recv T S1 x m b)
    (fun f => wpEs T C es σ S1 (fun vs S2 => wpEs T C kes σ S2 (fun ws S3 => C f (x :: fill arr (vs ++ ws)) S3 (fun v S4 => ∃ k, tru S4 v = some k ∧ Q k S4) R) R) R)
    (fun b' => wpEs T C es σ S1 (fun vs S2 => wpBM b' x vs S2 (fun v S4 => ∃ k, tru S4 v = some k ∧ Q k S4)) R)) R
  | .fld o f, σ, S, Q, R => wpE T C o σ S (fun x S1 => ∃ v, fldOf T S1 x f = some v ∧ ∃ k, tru S1 v = some k ∧ Q k S1) R
  | .eqO neg a b, σ, S, Q, R => wpE T C a σ S (fun x S1 => wpE T C b σ S1 (fun y S2 => wpEqO T C neg x y S2 (fun v S3 => ∃ k, v = .bl k ∧ Q k S3)) R) R
  | .sub o i, σ, S, Q, R => wpE T C o σ S (fun x S1 => wpE T C i σ S1 (fun k S2 => wpSub x k S2 (fun v S3 => ∃ k, tru S3 v = some k ∧ Q k S3)) R) R
  | _, _, _, _, _ => False
def wpAnd (T : Tab) (C : CS) : REs → Sg → Store → (Bool → Store → Prop) → QX → Prop
  | .nil, _, S, Q, _ => Q true S
  | .cons e es, σ, S, Q, R => wpT T C e σ S (fun k S1 => if k = true then wpAnd T C es σ S1 Q R else Q false S1) R
def wpOr (T : Tab) (C : CS) : REs → Sg → Store → (Bool → Store → Prop) → QX → Prop
  | .nil, _, S, Q, _ => Q false S
  | .cons e es, σ, S, Q, R => wpT T C e σ S (fun k S1 => if k = true then Q true S1 else wpOr T C es σ S1 Q R) R
def wpAndV (T : Tab) (C : CS) : REs → Sg → Store → QV → QX → Prop
  | .nil, _, _, _, _ => False
  | .cons e .nil, σ, S, Q, R => wpE T C e σ S Q R
  | .cons e es, σ, S, Q, R => wpE T C e σ S (fun v S1 => ∃ k, tru S1 v = some k ∧ if k = true then wpAndV T C es σ S1 Q R else Q v S1) R
def wpOrV (T : Tab) (C : CS) : REs → Sg → Store → QV → QX → Prop
  | .nil, _, _, _, _ => False
  | .cons e .nil, σ, S, Q, R => wpE T C e σ S Q R
  | .cons e es, σ, S, Q, R => wpE T C e σ S (fun v S1 => ∃ k, tru S1 v = some k ∧ if k = true then Q v S1 else wpOrV T C es σ S1 Q R) R
/-- a comprehension's tests: at most one -/
def wpTs (T : Tab) (C : CS) : REs → Sg → Store → (Bool → Store → Prop) → QX → Prop
  | .nil, _, S, Q, _ => Q true S
  | .cons e .nil, σ, S, Q, R => wpT T C e σ S Q R
  | _, _, _, _, _ => False
def wpI (T : Tab) (C : CS) : RI → Sg → Store → (List PV → (Store → Prop) → Store → Prop) → QX → Prop
  | .val e, σ, S, Q, R => wpE T C e σ S (fun v S1 => ∃ xs, itemsOf S1 v = some xs ∧ Q xs (still S1 v) S1) R
  | .range es, σ, S, Q, R => wpEs T C es σ S (fun vs S1 => (∃ j, vs = [.int j] ∧ okR j ∧ Q (rngL 0 j.toNat) (fun _ => True) S1) ∨
      ∃ i j, vs = [.int i, .int j] ∧ okR i ∧ okR j ∧ Q (rngL i (j - i).toNat) (fun _ => True) S1) R
  | .enum e, σ, S, Q, R => wpE T C e σ S (fun v S1 => ∃ xs, lstOf S1 v = some xs ∧ Q (enumL 0 xs) (still S1 v) S1) R
  | .zip a b s, σ, S, Q, R => wpE T C a σ S (fun v S1 => wpE T C b σ S1 (fun w S2 => ∃ xs ys, itemsOf S2 v = some xs ∧ itemsOf S2 w = some ys ∧ (s = true → xs.length = ys.length) ∧
      Q (zipL xs ys) (fun S' => still S2 v S' ∧ still S2 w S') S2) R) R
def wpTg (T : Tab) (C : CS) : RT → PV → Sg → Store → (Sg → Store → Prop) → QX → Prop
  | .name i, v, σ, S, Q, _ => Q (σ.set i (some v)) S
  | .tup ts, v, σ, S, Q, R => ∃ xs, itemsOf S v = some xs ∧ xs.length = ts.cnt xs.length ∧ wpTgs T C ts xs σ S Q R
  | .sub o i, v, σ, S, Q, R => wpE T C o σ S (fun x S1 => wpE T C i σ S1 (fun k S2 => wpSet x k v S2 (fun S3 => Q σ S3)) R) R
  | .fld o f, v, σ, S, Q, R => wpE T C o σ S (fun x S1 => ∃ a c fs, x = .ref a ∧ S1[a]? = some (.ins c fs) ∧ (T.cls[c]?).isSome = true ∧ fs.length < 900 ∧ Q σ (S1.set a (.ins c (putFl f v fs)))) R
def wpTgs (T : Tab) (C : CS) : RTs → List PV → Sg → Store → (Sg → Store → Prop) → QX → Prop
  | .nil, vs, σ, S, Q, _ => vs = [] ∧ Q σ S
  | .cons t ts, vs, σ, S, Q, R => ∃ v r, vs = v :: r ∧ wpTg T C t v σ S (fun σ1 S1 => wpTgs T C ts r σ1 S1 Q R) R
  | .star i, vs, σ, S, Q, _ => vs.length ≤ 16000 ∧ Q (σ.set i (some (.ref S.length))) (S ++ [.lst vs])
end

/-- what is wanted behind a statement -/
structure En where
  nx : Sg → Store → Prop
  rt : PV → Store → Prop
  bk : Sg → Store → Prop := fun _ _ => False
  ct : Sg → Store → Prop := fun _ _ => False
  ex : Ex → Sg → Store → Prop := fun _ _ _ => False

mutual
def wpS (T : Tab) (C : CS) : RS → Sg → Store → En → Prop
  | .asg t e, σ, S, D => wpE T C e σ S (fun v S1 => wpTg T C t v σ S1 D.nx (fun _ _ => False)) (fun x S1 => D.ex x σ S1)
  | .setlc i elt tg it ifs own, σ, S, D => wpE T C (.lc elt tg it ifs own) σ S (fun v S1 => D.nx (σ.set i (some v)) S1) (fun x S1 => D.ex x σ S1)
  | .asg2 t u e, σ, S, D => wpE T C e σ S (fun v S1 => wpTg T C t v σ S1 (fun σ2 S2 => wpTg T C u v σ2 S2 D.nx (fun _ _ => False)) (fun _ _ => False)) (fun x S1 => D.ex x σ S1)
  | .par is es, σ, S, D => wpEs T C es σ S (fun vs S1 => match is, vs with
      | [i, j], [v, w] => D.nx ((σ.set i (some v)).set j (some w)) S1
      | _, _ => False) (fun x S1 => D.ex x σ S1)
  | .aug i op e, σ, S, D => ∃ x, σ[i]? = some (some x) ∧ wpE T C e σ S (fun y S1 => wpAug op x y S1 (fun z S2 => D.nx (σ.set i (some z)) S2)) (fun x S1 => D.ex x σ S1)
  | .augF o f op e, σ, S, D => wpE T C o σ S (fun x S1 => ∃ a c fs v, x = .ref a ∧ S1[a]? = some (.ins c fs) ∧ (T.cls[c]?).isSome = true ∧ fs.lookup f = some v ∧ wpE T C e σ S1 (fun y S2 =>
      wpAug op v y S2 fun z S3 => ∃ fs', S3[a]? = some (.ins c fs') ∧ fs'.length < 900 ∧ D.nx σ (S3.set a (.ins c (putFl f z fs')))) (fun x S2 => D.ex x σ S2)) (fun x S1 => D.ex x σ S1)
  | .expr e, σ, S, D => wpE T C e σ S (fun _ S1 => D.nx σ S1) (fun x S1 => D.ex x σ S1)
  | .doc, σ, S, D => D.nx σ S
  | .ret e, σ, S, D => wpE T C e σ S D.rt (fun x S1 => D.ex x σ S1)
  | .retN, _, S, D => D.rt .non S
  | .ife c a b, σ, S, D => wpT T C c σ S (fun k S1 => if k = true then wpSs T C a σ S1 D else wpSs T C b σ S1 D) (fun x S1 => D.ex x σ S1)
  | .whl c a, σ, S, D => ∃ W : Nat → Sg → Store → Prop, (∃ m, W m σ S) ∧ ∀ m σ S, W m σ S → wpT T C c σ S (fun k S1 => if k = true then
      wpSs T C a σ S1 { D with nx := fun σ' S' => ∃ m', m' < m ∧ W m' σ' S', ct := fun σ' S' => ∃ m', m' < m ∧ W m' σ' S', bk := D.nx } else D.nx σ S1) (fun x S1 => D.ex x σ S1)
  | .for_ tg it a, σ, S, D => wpI T C it σ S (fun xs st S1 => forRun (fun x σ2 S2 Q2 => wpTg T C tg x σ2 S2 (fun σ3 S3 => wpSs T C a σ3 S3 { D with nx := Q2, ct := Q2, bk := D.nx }) (fun _ _ => False)) st xs σ S1 D.nx) (fun x S1 => D.ex x σ S1)
  | .brk, σ, S, D => D.bk σ S
  | .cont, σ, S, D => D.ct σ S
  | .pass, σ, S, D => D.nx σ S
def wpSs (T : Tab) (C : CS) : RSs → Sg → Store → En → Prop
  | .nil, σ, S, D => D.nx σ S
  | .cons s ss, σ, S, D => wpS T C s σ S { D with nx := fun σ' S' => wpSs T C ss σ' S' D }
end

/-- the names at a def's entry -/
def startG (n : Nat) (vs : List PV) : Sg := vs.map some ++ List.replicate (n - vs.length) .none
/-- a call, some calls deep -/
def wpCall (T : Tab) : Nat → CS
  | 0, _, _, _, _, _ => False
  | k + 1, f, vs, S, Q, R => ∃ d, T.fns[f]? = some d ∧ vs.length = d.np ∧ wpSs T (wpCall T k) d.body (startG d.N.length vs) S { nx := fun _ S' => Q .non S', rt := Q, ex := fun x _ S' => R x S' }
end Rp
/-! # How the store lies in the hand layer's heap -/
namespace Rp
open PySem PySem.Spec PyProof.Rows L2

/-- the written part, where the defs and the classes of the table stand -/
structure Ad where
  K : PySem.W.Frag
  fa : Nat → Addr
  ca : Nat → Addr

/-- a list that never changes: locked, or of the written part -/
def SqF (K : PySem.W.Frag) (H : Hp) (a : Addr) (vs : List V) : Prop := (∃ o, H a = some (.frz o (.lst vs))) ∨ SqL K (fun _ => none) a vs
theorem SqF.list {K : PySem.W.Frag} {H : Hp} {a : Addr} {vs : List V} (h : SqF K H a vs) : SqL K H a vs := by
  rcases h with ⟨o, h⟩ | h | h
  · exact .inl (.inr ⟨o, h⟩)
  · rcases h with h | ⟨o, h⟩ <;> cases h
  · exact .inr h

mutual
def RV (D : Ad) (ι : List Addr) (H : Hp) : PV → V → Prop
  | .non, v => v = .non
  | .bl b, v => v = .bl b
  | .int i, v => v = .int i
  | .str s, v => v = .str s
  | .tup xs, v => ∃ a vs, v = .ref a ∧ SqT D.K H a vs ∧ RVs D ι H xs vs
  | .scr xs, v => ∃ a vs, v = .ref a ∧ SqF D.K H a vs ∧ RVs D ι H xs vs
  | .ref i, v => ∃ a, ι[i]? = some a ∧ v = .ref a
  | .fn i, v => v = .ref (D.fa i)
  | .cls i, v => v = .ref (D.ca i)
  | .ty n, v => v = .ty n.nm
def RVs (D : Ad) (ι : List Addr) (H : Hp) : List PV → List V → Prop
  | [], vs => vs = []
  | x :: xs, vs => ∃ v r, vs = v :: r ∧ RV D ι H x v ∧ RVs D ι H xs r
end

/-- what never changes in an abstract heap -/
def Imm : HO → Prop
  | .tup _ => True
  | .frz _ _ => True
  | _ => False

/-- from one heap to a later one: the store's objects may change, all else that is tracked stays -/
structure Ext (ι : List Addr) (H : Hp) (ι' : List Addr) (H' : Hp) : Prop where
  pre : ∃ l, ι' = ι ++ l ∧ ∀ a ∈ l, H a = none
  out : ∀ b o, b ∉ ι → H b = some o → H' b = some o
  imm : ∀ b o, H b = some o → Imm o → H' b = some o
  trk : ∀ b o, H b = some o → ∃ o', H' b = some o'
theorem Ext.refl {ι : List Addr} {H : Hp} : Ext ι H ι H := ⟨⟨[], by simp, fun a h => absurd h (by simp)⟩, fun _ _ _ h => h, fun _ _ h _ => h, fun _ o h => ⟨o, h⟩⟩
theorem Ext.trans {ι ι1 ι2 : List Addr} {H H1 H2 : Hp} (a : Ext ι H ι1 H1) (b : Ext ι1 H1 ι2 H2) : Ext ι H ι2 H2 := by
  obtain ⟨l1, e1, n1⟩ := a.pre
  obtain ⟨l2, e2, n2⟩ := b.pre
  refine ⟨⟨l1 ++ l2, by rw [e2, e1, List.append_assoc], fun c hc => ?_⟩, fun c o hc h => ?_, fun c o h i => b.imm c o (a.imm c o h i) i, fun c o h => ?_⟩
  · rcases List.mem_append.mp hc with hc | hc
    · exact n1 c hc
    · cases q : H c with
      | none => rfl
      | some o =>
        obtain ⟨o', e⟩ := a.trk c o q
        rw [n2 c hc] at e
        cases e
  · refine b.out c o (fun z => ?_) (a.out c o hc h)
    rw [e1] at z
    rcases List.mem_append.mp z with z | z
    · exact hc z
    · rw [n1 c z] at h
      cases h
  · obtain ⟨o', e⟩ := a.trk c o h
    exact b.trk c o' e
theorem Ext.get {ι ι' : List Addr} {H H' : Hp} (e : Ext ι H ι' H') {i : Nat} {a : Addr} (h : ι[i]? = some a) : ι'[i]? = some a := by
  obtain ⟨l, rfl, _⟩ := e.pre
  have hi : i < ι.length := (List.getElem?_eq_some_iff.mp h).1
  rw [List.getElem?_append_left hi]
  exact h

/-- what a value's relation needs -/
structure Exi (ι : List Addr) (H : Hp) (ι' : List Addr) (H' : Hp) : Prop where
  get : ∀ (i : Nat) (a : Addr), ι[i]? = some a → ι'[i]? = some a
  imm : ∀ b o, H b = some o → Imm o → H' b = some o
theorem Ext.exi {ι ι' : List Addr} {H H' : Hp} (e : Ext ι H ι' H') : Exi ι H ι' H' := ⟨fun _ _ h => e.get h, e.imm⟩
theorem rd_ext {ι ι' : List Addr} {H H' : Hp} (e : Exi ι H ι' H') {a : Addr} {vs : List V} {K : PySem.W.Frag} (h : SqT K H a vs) : SqT K H' a vs := by
  rcases h with (h | ⟨o, h⟩) | h
  · exact .inl (.inl (e.imm a _ h trivial))
  · exact .inl (.inr ⟨o, e.imm a _ h trivial⟩)
  · exact .inr h
theorem rf_ext {ι ι' : List Addr} {H H' : Hp} (e : Exi ι H ι' H') {a : Addr} {vs : List V} {K : PySem.W.Frag} (h : SqF K H a vs) : SqF K H' a vs := by
  rcases h with ⟨o, h⟩ | h
  · exact .inl ⟨o, e.imm a _ h trivial⟩
  · exact .inr h

mutual
theorem RV.exi {D : Ad} {ι ι' : List Addr} {H H' : Hp} (e : Exi ι H ι' H') : ∀ {x : PV} {v : V}, RV D ι H x v → RV D ι' H' x v
  | .non, _, h => h
  | .bl _, _, h => h
  | .int _, _, h => h
  | .str _, _, h => h
  | .tup xs, v, h => by
    obtain ⟨a, vs, e1, h1, h2⟩ := h
    exact ⟨a, vs, e1, rd_ext e h1, RVs.exi e h2⟩
  | .scr xs, v, h => by
    obtain ⟨a, vs, e1, h1, h2⟩ := h
    exact ⟨a, vs, e1, rf_ext e h1, RVs.exi e h2⟩
  | .ref i, v, h => by
    obtain ⟨a, h1, h2⟩ := h
    exact ⟨a, e.get _ _ h1, h2⟩
  | .fn _, _, h => h
  | .cls _, _, h => h
  | .ty _, _, h => h
theorem RVs.exi {D : Ad} {ι ι' : List Addr} {H H' : Hp} (e : Exi ι H ι' H') : ∀ {xs : List PV} {vs : List V}, RVs D ι H xs vs → RVs D ι' H' xs vs
  | [], _, h => h
  | x :: xs, vs, h => by
    obtain ⟨v, r, e1, h1, h2⟩ := h
    exact ⟨v, r, e1, RV.exi e h1, RVs.exi e h2⟩
end
theorem RV.ext {D : Ad} {ι ι' : List Addr} {H H' : Hp} (e : Ext ι H ι' H') {x : PV} {v : V} (h : RV D ι H x v) : RV D ι' H' x v := h.exi e.exi
theorem RVs.ext {D : Ad} {ι ι' : List Addr} {H H' : Hp} (e : Ext ι H ι' H') {xs : List PV} {vs : List V} (h : RVs D ι H xs vs) : RVs D ι' H' xs vs := h.exi e.exi

section
variable {D : Ad} {ι : List Addr} {H : Hp}
theorem RVs.nil : RVs D ι H [] [] := by show ([] : List V) = []; rfl
theorem RVs.cons {x : PV} {v : V} {xs : List PV} {vs : List V} (h : RV D ι H x v) (t : RVs D ι H xs vs) : RVs D ι H (x :: xs) (v :: vs) := ⟨v, vs, rfl, h, t⟩
theorem RVs.len : ∀ {xs : List PV} {vs : List V}, RVs D ι H xs vs → vs.length = xs.length
  | [], _, h => by rw [show _ = [] from h]; rfl
  | _ :: xs, _, h => by
    obtain ⟨v, r, rfl, _, t⟩ := h
    rw [List.length_cons, List.length_cons, t.len]
theorem RVs.get : ∀ {xs : List PV} {vs : List V} {i : Nat} {x : PV}, RVs D ι H xs vs → xs[i]? = some x → ∃ v, vs[i]? = some v ∧ RV D ι H x v
  | [], _, _, _, _, h => by simp at h
  | _ :: xs, _, 0, x, h, e => by
    obtain ⟨v, r, rfl, a, t⟩ := h
    rw [List.getElem?_cons_zero] at e
    cases e
    exact ⟨v, by simp, a⟩
  | _ :: xs, _, i + 1, x, h, e => by
    obtain ⟨v, r, rfl, a, t⟩ := h
    rw [List.getElem?_cons_succ] at e
    obtain ⟨v', q, b⟩ := RVs.get t e
    exact ⟨v', by rw [List.getElem?_cons_succ]; exact q, b⟩
theorem RVs.app : ∀ {xs ys : List PV} {vs ws : List V}, RVs D ι H xs vs → RVs D ι H ys ws → RVs D ι H (xs ++ ys) (vs ++ ws)
  | [], _, _, _, h, t => by rw [show _ = [] from h]; exact t
  | _ :: xs, _, _, _, h, t => by
    obtain ⟨v, r, rfl, a, b⟩ := h
    exact .cons a (RVs.app b t)
theorem RVs.take : ∀ {xs : List PV} {vs : List V} (n : Nat), RVs D ι H xs vs → RVs D ι H (xs.take n) (vs.take n)
  | _, _, 0, _ => by rw [List.take_zero, List.take_zero]; exact .nil
  | [], _, n + 1, h => by rw [show _ = [] from h]; exact .nil
  | _ :: xs, _, n + 1, h => by
    obtain ⟨v, r, rfl, a, b⟩ := h
    exact .cons a (b.take n)
theorem RVs.drop : ∀ {xs : List PV} {vs : List V} (n : Nat), RVs D ι H xs vs → RVs D ι H (xs.drop n) (vs.drop n)
  | _, _, 0, h => h
  | [], _, n + 1, h => by rw [show _ = [] from h]; exact .nil
  | _ :: xs, _, n + 1, h => by
    obtain ⟨v, r, rfl, a, b⟩ := h
    exact b.drop n
theorem RVs.rev {xs : List PV} {vs : List V} (h : RVs D ι H xs vs) : RVs D ι H xs.reverse vs.reverse := by
  induction xs generalizing vs with
  | nil => rw [show vs = [] from h]; exact .nil
  | cons x xs ih =>
    obtain ⟨v, r, rfl, a, b⟩ := h
    rw [List.reverse_cons, List.reverse_cons]
    exact (ih b).app (.cons a .nil)
theorem RVs.set : ∀ {xs : List PV} {vs : List V} (i : Nat) {x : PV} {v : V}, RVs D ι H xs vs → RV D ι H x v → RVs D ι H (xs.set i x) (vs.set i v)
  | [], _, _, _, _, h, _ => by rw [show _ = [] from h]; exact .nil
  | _ :: xs, _, 0, _, _, h, t => by
    obtain ⟨v, r, rfl, a, b⟩ := h
    exact .cons t b
  | _ :: xs, _, i + 1, _, _, h, t => by
    obtain ⟨v, r, rfl, a, b⟩ := h
    exact .cons a (b.set i t)
theorem RVs.rep {xs : List PV} {vs : List V} (n : Nat) (h : RVs D ι H xs vs) : RVs D ι H (List.replicate n xs).flatten (List.replicate n vs).flatten := by
  induction n with
  | zero => exact .nil
  | succ n ih =>
    rw [List.replicate_succ, List.replicate_succ, List.flatten_cons, List.flatten_cons]
    exact h.app ih
theorem RVs.ints : ∀ {ns : List Int} {vs : List V}, RVs D ι H (ns.map .int) vs → vs = ns.map V.int
  | [], _, h => h
  | n :: ns, _, h => by
    obtain ⟨v, r, rfl, a, b⟩ := h
    have a' : v = .int n := a
    rw [a', RVs.ints b]
    rfl
theorem RVs.of_ints : ∀ (ns : List Int), RVs D ι H (ns.map .int) (ns.map V.int)
  | [] => .nil
  | n :: ns => .cons (show V.int n = .int n from rfl) (RVs.of_ints ns)
theorem RVs.snoc {xs : List PV} {y : PV} {vs : List V} (h : RVs D ι H (xs ++ [y]) vs) : ∃ ws w, vs = ws ++ [w] ∧ RVs D ι H xs ws ∧ RV D ι H y w := by
  induction xs generalizing vs with
  | nil =>
    obtain ⟨v, r, rfl, a, b⟩ := h
    rw [show r = [] from b]
    exact ⟨[], v, rfl, .nil, a⟩
  | cons x xs ih =>
    obtain ⟨v, r, rfl, a, b⟩ := h
    obtain ⟨ws, w, rfl, c, d⟩ := ih b
    exact ⟨v :: ws, w, rfl, .cons a c, d⟩
end

/-! ### objects of the store -/
/-- a name's signs -/
abbrev sN (x : String) : Str := Str.ofString x
def RO' (D : Ad) (ι : List Addr) (H : Hp) : SO → HO → Prop
  | .lst xs, o => ∃ vs, o = .lst vs ∧ RVs D ι H xs vs
  | .dic _, _ => False
  | .ins c fs, o => ∃ dx fs', o = .ins (D.ca c) dx fs' ∧ fs'.map (·.1) = fs.map (fun p => sN p.1) ∧ RVs D ι H (fs.map (·.2)) (fs'.map (·.2))
theorem RO'.exi {D : Ad} {ι ι' : List Addr} {H H' : Hp} (e : Exi ι H ι' H') {o : SO} {h : HO} (r : RO' D ι H o h) : RO' D ι' H' o h := by
  cases o with
  | lst xs =>
    obtain ⟨vs, e1, q⟩ := r
    exact ⟨vs, e1, q.exi e⟩
  | dic kvs => exact (show False from r).elim
  | ins c fs =>
    obtain ⟨dx, fs', e1, e2, q⟩ := r
    exact ⟨dx, fs', e1, e2, q.exi e⟩
theorem RO'.ext {D : Ad} {ι ι' : List Addr} {H H' : Hp} (e : Ext ι H ι' H') {o : SO} {h : HO} (r : RO' D ι H o h) : RO' D ι' H' o h := r.exi e.exi
theorem RO'.not_imm {D : Ad} {ι : List Addr} {H : Hp} {o : SO} {h : HO} (r : RO' D ι H o h) : ¬ Imm h := by
  cases o with
  | lst xs =>
    obtain ⟨vs, rfl, q⟩ := r
    exact fun z => z
  | dic kvs => exact (show False from r).elim
  | ins c fs =>
    obtain ⟨dx, fs', rfl, e2, q⟩ := r
    exact fun z => z

/-- the store S lies in the heap H, its objects at ι -/
structure Ly (D : Ad) (ι : List Addr) (H : Hp) (S : Store) : Prop where
  len : ι.length = S.length
  nd : ι.Nodup
  at_ : ∀ (i : Nat) (o : SO), S[i]? = some o → ∃ a h, ι[i]? = some a ∧ H a = some h ∧ RO' D ι H o h
section
variable {D : Ad} {ι : List Addr} {H : Hp} {S : Store}
theorem Ly.trk (L : Ly D ι H S) {a : Addr} (h : a ∈ ι) : ∃ o, H a = some o := by
  obtain ⟨i, hi, e⟩ := List.mem_iff_getElem.mp h
  have hs : i < S.length := by rw [← L.len]; exact hi
  obtain ⟨b, ho, e1, e2, _⟩ := L.at_ i S[i] (by simp [hs])
  rw [List.getElem?_eq_getElem hi, e] at e1
  cases e1
  exact ⟨ho, e2⟩
/-- a new object of its own at p, no object of the store -/
theorem ext_new {p : Addr} {o : HO} (L : Ly D ι H S) (hp : H p = none) : Ext ι H ι (upd H p o) := by
  refine ⟨⟨[], by simp, fun a h => absurd h (by simp)⟩, fun b u _ h => ?_, fun b u h _ => ?_, fun b u h => ?_⟩
  · rw [upd_ne (ne_of_none h hp)]; exact h
  · rw [upd_ne (ne_of_none h hp)]; exact h
  · exact ⟨u, by rw [upd_ne (ne_of_none h hp)]; exact h⟩
theorem ly_new {p : Addr} {o : HO} (L : Ly D ι H S) (hp : H p = none) : Ly D ι (upd H p o) S := by
  refine ⟨L.len, L.nd, fun i u e => ?_⟩
  obtain ⟨a, h, e1, e2, e3⟩ := L.at_ i u e
  exact ⟨a, h, e1, by rw [upd_ne (ne_of_none e2 hp)]; exact e2, e3.ext (ext_new L hp)⟩
theorem not_mem_of_none {p : Addr} (L : Ly D ι H S) (hp : H p = none) : p ∉ ι := fun z => by
  obtain ⟨o, e⟩ := L.trk z
  rw [hp] at e
  cases e
/-- a new object of the store: its heap object stands at p in a heap that else grew only -/
theorem ext_push {p : Addr} {H' : Hp} (L : Ly D ι H S) (hp : H p = none) (k : ∀ b u, H b = some u → H' b = some u) : Ext ι H (ι ++ [p]) H' :=
  ⟨⟨[p], rfl, fun a h => by rw [List.mem_singleton.mp h]; exact hp⟩, fun b u _ h => k b u h, fun b u h _ => k b u h, fun b u h => ⟨u, k b u h⟩⟩
theorem ly_push {p : Addr} {H' : Hp} {o : SO} {ho : HO} (L : Ly D ι H S) (hp : H p = none) (k : ∀ b u, H b = some u → H' b = some u) (e : H' p = some ho) (r : RO' D (ι ++ [p]) H' o ho) : Ly D (ι ++ [p]) H' (S ++ [o]) := by
  refine ⟨by rw [List.length_append, List.length_append, L.len]; rfl, ?_, fun i u hu => ?_⟩
  · refine List.nodup_append.mpr ⟨L.nd, by simp, fun a ha b hb => ?_⟩
    rw [List.mem_singleton.mp hb]
    rintro rfl
    exact not_mem_of_none L hp ha
  · by_cases hi : i < S.length
    · rw [List.getElem?_append_left hi] at hu
      obtain ⟨a, h, e1, e2, e3⟩ := L.at_ i u hu
      exact ⟨a, h, (ext_push L hp k).get e1, k a h e2, e3.ext (ext_push L hp k)⟩
    · have hi' : i = S.length := by
        have := (List.getElem?_eq_some_iff.mp hu).1
        rw [List.length_append, List.length_singleton] at this
        omega
      subst hi'
      rw [List.getElem?_append_right (Nat.le_refl _), Nat.sub_self] at hu
      cases hu
      refine ⟨p, ho, ?_, e, r⟩
      rw [← L.len, List.getElem?_append_right (Nat.le_refl _), Nat.sub_self]
      rfl
/-- an object of the store is changed -/
theorem ext_write {a : Addr} {i : Nat} {o : SO} {ho : HO} (L : Ly D ι H S) (hi : ι[i]? = some a) (hs : S[i]? = some o) : Ext ι H ι (upd H a ho) := by
  obtain ⟨a', h, e1, e2, e3⟩ := L.at_ i o hs
  rw [hi] at e1
  cases e1
  refine ⟨⟨[], by simp, fun a h => absurd h (by simp)⟩, fun b u hb h => ?_, fun b u h im => ?_, fun b u h => ?_⟩
  · rw [upd_ne (fun (z : b = a) => hb (by rw [z]; exact List.mem_of_getElem? hi))]; exact h
  · rw [upd_ne]
    · exact h
    · rintro rfl
      rw [e2] at h
      cases h
      exact e3.not_imm im
  · by_cases z : b = a
    · subst z; exact ⟨ho, upd_same⟩
    · exact ⟨u, by rw [upd_ne z]; exact h⟩
theorem ly_write {a : Addr} {i : Nat} {o o' : SO} {ho : HO} (L : Ly D ι H S) (hi : ι[i]? = some a) (hs : S[i]? = some o) (r : RO' D ι (upd H a ho) o' ho) : Ly D ι (upd H a ho) (S.set i o') := by
  refine ⟨by rw [List.length_set]; exact L.len, L.nd, fun j u hu => ?_⟩
  by_cases hj : i = j
  · subst hj
    have hl : i < S.length := (List.getElem?_eq_some_iff.mp hs).1
    rw [List.getElem?_set_self hl] at hu
    cases hu
    exact ⟨a, ho, hi, upd_same, r⟩
  · rw [List.getElem?_set_ne hj] at hu
    obtain ⟨b, h, e1, e2, e3⟩ := L.at_ j u hu
    refine ⟨b, h, e1, ?_, e3.ext (ext_write L hi hs)⟩
    rw [upd_ne]
    · exact e2
    · rintro rfl
      exact hj (by
        have h1 := (List.getElem?_eq_some_iff.mp hi)
        have h2 := (List.getElem?_eq_some_iff.mp e1)
        obtain ⟨l1, q1⟩ := h1
        obtain ⟨l2, q2⟩ := h2
        exact (List.getElem_inj L.nd).mp (q1.trans q2.symm))
/-- a list that is no object of the store (one that a comprehension fills) is changed -/
theorem exi_out {p : Addr} {vs ws : List V} (hp : H p = some (.lst vs)) : Exi ι H ι (upd H p (.lst ws)) := ⟨fun _ _ h => h, fun b o h im => by
  rw [upd_ne]
  · exact h
  · rintro rfl
    rw [hp] at h
    cases h
    exact im⟩
theorem ly_out {p : Addr} {vs ws : List V} (L : Ly D ι H S) (np : p ∉ ι) (hp : H p = some (.lst vs)) : Ly D ι (upd H p (.lst ws)) S := by
  refine ⟨L.len, L.nd, fun i u e => ?_⟩
  obtain ⟨a, h, e1, e2, e3⟩ := L.at_ i u e
  exact ⟨a, h, e1, by rw [upd_ne (fun z => np (by rw [← z]; exact List.mem_of_getElem? e1))]; exact e2, e3.exi (exi_out hp)⟩
theorem ext_out {p : Addr} {o : HO} {ι0 : List Addr} {H0 : Hp} (e : Ext ι0 H0 ι H) (hp : H0 p = none) (nf : ∀ u, H p = some u → ¬ Imm u) : Ext ι0 H0 ι (upd H p o) := by
  have ne : ∀ b u, H0 b = some u → b ≠ p := fun b u h z => by
    subst z
    rw [hp] at h
    cases h
  refine ⟨e.pre, fun b u hb h => ?_, fun b u h im => ?_, fun b u h => ?_⟩
  · rw [upd_ne (ne b u h)]; exact e.out b u hb h
  · rw [upd_ne (ne b u h)]; exact e.imm b u h im
  · obtain ⟨u', h'⟩ := e.trk b u h
    exact ⟨u', by rw [upd_ne (ne b u h)]; exact h'⟩
/-- it becomes one -/
theorem ly_adopt {p : Addr} {o : SO} {ho : HO} (L : Ly D ι H S) (np : p ∉ ι) (e : H p = some ho) (r : RO' D (ι ++ [p]) H o ho) : Ly D (ι ++ [p]) H (S ++ [o]) := by
  have xi : Exi ι H (ι ++ [p]) H := ⟨fun i a h => by rw [List.getElem?_append_left (List.getElem?_eq_some_iff.mp h).1]; exact h, fun _ _ h _ => h⟩
  refine ⟨by rw [List.length_append, List.length_append, L.len]; rfl, ?_, fun i u hu => ?_⟩
  · refine List.nodup_append.mpr ⟨L.nd, by simp, fun a ha b hb => ?_⟩
    rw [List.mem_singleton.mp hb]
    rintro rfl
    exact np ha
  · by_cases hi : i < S.length
    · rw [List.getElem?_append_left hi] at hu
      obtain ⟨a, h, e1, e2, e3⟩ := L.at_ i u hu
      exact ⟨a, h, xi.get _ _ e1, e2, e3.exi xi⟩
    · have hi' : i = S.length := by
        have := (List.getElem?_eq_some_iff.mp hu).1
        rw [List.length_append, List.length_singleton] at this
        omega
      subst hi'
      rw [List.getElem?_append_right (Nat.le_refl _), Nat.sub_self] at hu
      cases hu
      refine ⟨p, ho, ?_, e, r⟩
      rw [← L.len, List.getElem?_append_right (Nat.le_refl _), Nat.sub_self]
      rfl
theorem ext_adopt {p : Addr} {ι0 : List Addr} {H0 : Hp} (e : Ext ι0 H0 ι H) (hp : H0 p = none) : Ext ι0 H0 (ι ++ [p]) H := by
  obtain ⟨l, e1, n1⟩ := e.pre
  refine ⟨⟨l ++ [p], by rw [e1, List.append_assoc], fun a ha => ?_⟩, e.out, e.imm, e.trk⟩
  rcases List.mem_append.mp ha with ha | ha
  · exact n1 a ha
  · rw [List.mem_singleton.mp ha]; exact hp
/-- a list of the store -/
theorem Ly.lst (L : Ly D ι H S) {i : Nat} {xs : List PV} (h : S[i]? = some (.lst xs)) : ∃ a vs, ι[i]? = some a ∧ H a = some (.lst vs) ∧ RVs D ι H xs vs := by
  obtain ⟨a, ho, e1, e2, vs, rfl, q⟩ := L.at_ i _ h
  exact ⟨a, vs, e1, e2, q⟩
theorem Ly.ins (L : Ly D ι H S) {i c : Nat} {fs : List (String × PV)} (h : S[i]? = some (.ins c fs)) :
    ∃ a dx fs', ι[i]? = some a ∧ H a = some (.ins (D.ca c) dx fs') ∧ fs'.map (·.1) = fs.map (fun p => sN p.1) ∧ RVs D ι H (fs.map (·.2)) (fs'.map (·.2)) := by
  obtain ⟨a, ho, e1, e2, dx, fs', rfl, q, r⟩ := L.at_ i _ h
  exact ⟨a, dx, fs', e1, e2, q, r⟩
end

/-! ### readings -/
/-- the wish behind a value -/
def Cnt (D : Ad) (ι : List Addr) (H : Hp) (Qa : QV) (Q : VK) : Prop := ∀ ι' S' H' v x, Ext ι H ι' H' → Ly D ι' H' S' → RV D ι' H' v x → Qa v S' → Q x H'
theorem Cnt.ext {D : Ad} {ι ι' : List Addr} {H H' : Hp} {Qa : QV} {Q : VK} (c : Cnt D ι H Qa Q) (e : Ext ι H ι' H') : Cnt D ι' H' Qa Q := fun ι2 S2 H2 v x e2 l r q => c ι2 S2 H2 v x (e.trans e2) l r q
/-- an error as it lies in the heap -/
def RX (D : Ad) (ι : List Addr) (H : Hp) (x : Ex) (cls : Value) (d : Option Addr) : Prop := cls = .ref (D.ca x.cls) ∧
  ((x.fs = [] ∧ d = none) ∨ ∃ dd fs', d = some dd ∧ H dd = some (.xd fs') ∧ fs'.map (·.1) = x.fs.map (fun p => sN p.1) ∧ RVs D ι H (x.fs.map (·.2)) (fs'.map (·.2)))
def CnX (D : Ad) (ι : List Addr) (H : Hp) (Ra : QX) (σc : L2.St) (W : WX) : Prop := ∀ ι' S' H' x cls d, Ext ι H ι' H' → Ly D ι' H' S' → RX D ι' H' x cls d → Ra x S' → W cls d σc H'
theorem CnX.ext {D : Ad} {ι ι' : List Addr} {H H' : Hp} {Ra : QX} {σc : L2.St} {W : WX} (c : CnX D ι H Ra σc W) (e : Ext ι H ι' H') : CnX D ι' H' Ra σc W := fun ι2 S2 H2 x cls d e2 l r q => c ι2 S2 H2 x cls d (e.trans e2) l r q
/-- the slots -/
structure RG (D : Ad) (ι : List Addr) (H : Hp) (σ : Sg) (σc : L2.St) : Prop where
  len : σ.length = σc.length
  at_ : ∀ (i : Nat) (v : PV), σ[i]? = some (some v) → ∃ x, σc[i]? = some (some x) ∧ RV D ι H v x
theorem RG.ext {D : Ad} {ι ι' : List Addr} {H H' : Hp} {σ : Sg} {σc : L2.St} (g : RG D ι H σ σc) (e : Ext ι H ι' H') : RG D ι' H' σ σc :=
  ⟨g.len, fun i v h => by obtain ⟨x, a, b⟩ := g.at_ i v h; exact ⟨x, a, b.ext e⟩⟩
theorem RG.set {D : Ad} {ι : List Addr} {H : Hp} {σ : Sg} {σc : L2.St} (g : RG D ι H σ σc) (i : Nat) {v : PV} {x : V} (r : RV D ι H v x) : RG D ι H (σ.set i (some v)) (σc.set i (some x)) := by
  refine ⟨by rw [List.length_set, List.length_set]; exact g.len, fun j u h => ?_⟩
  by_cases hj : i = j
  · subst hj
    by_cases hi : i < σ.length
    · rw [List.getElem?_set_self hi] at h
      cases h
      exact ⟨x, by rw [List.getElem?_set_self (by rw [← g.len]; exact hi)], r⟩
    · rw [List.getElem?_eq_none (by rw [List.length_set]; omega)] at h
      cases h
  · rw [List.getElem?_set_ne hj] at h
    obtain ⟨y, a, b⟩ := g.at_ j u h
    exact ⟨y, by rw [List.getElem?_set_ne hj]; exact a, b⟩
theorem RG.wipe {D : Ad} {ι : List Addr} {H : Hp} {σ : Sg} {σc : L2.St} (g : RG D ι H σ σc) : ∀ l : List Nat, RG D ι H (wipeG σ l) (L2.wipe σc l)
  | [] => g
  | v :: vs => by
    have ih := g.wipe vs
    refine ⟨?_, fun j u h => ?_⟩
    · show ((wipeG σ vs).set v none).length = ((L2.wipe σc vs).set v none).length
      rw [List.length_set, List.length_set]
      exact ih.len
    · have h : ((wipeG σ vs).set v none)[j]? = some (some u) := h
      show ∃ x, ((L2.wipe σc vs).set v none)[j]? = some (some x) ∧ _
      by_cases hj : v = j
      · subst hj
        by_cases hi : v < (wipeG σ vs).length
        · rw [List.getElem?_set_self hi] at h
          cases h
        · rw [List.getElem?_eq_none (by rw [List.length_set]; omega)] at h
          cases h
      · rw [List.getElem?_set_ne hj] at h ⊢
        exact ih.at_ j u h

/-- a reading implied by another -/
theorem PE.imp {X : Cx} {e : Expr} {t t' : TE} (h : PE X e t) (i : ∀ σ H Q, t' σ H Q → t σ H Q) : PE X e t' := ⟨fun pins s σ H Q I hw => h.run pins s σ H Q I (i σ H Q hw)⟩
theorem PT.imp {X : Cx} {e : Expr} {t t' : TT} (h : PT X e t) (i : ∀ σ H Q, t' σ H Q → t σ H Q) : PT X e t' := ⟨fun pins s σ H Q I hw => h.run pins s σ H Q I (i σ H Q hw)⟩
theorem PA.imp {X : Cx} {es : List Expr} {t t' : TA} (h : PA X es t) (i : ∀ σ H Q, t' σ H Q → t σ H Q) : PA X es t' := ⟨fun pos pins s σ H Q I hw => h.run pos pins s σ H Q I (i σ H Q hw)⟩
theorem PS.imp {X : Cx} {st : Stmt} {t t' : TS} (h : PS X st t) (i : ∀ D σ H, t' D σ H → t D σ H) : PS X st t' := ⟨fun pins s σ H D I hw => h.run pins s σ H D I (i D σ H hw)⟩
theorem PSs.imp {X : Cx} {st : List Stmt} {t t' : TS} (h : PSs X st t) (i : ∀ D σ H, t' D σ H → t D σ H) : PSs X st t' := ⟨fun pins s σ H D I hw => h.run pins s σ H D I (i D σ H hw)⟩
theorem PG.imp {X : Cx} {e : Expr} {t t' : TG} (h : PG X e t) (i : ∀ v σ H Q, t' v σ H Q → t v σ H Q) : PG X e t' := ⟨fun pins s σ H v u Q I r hw => h.run pins s σ H v u Q I r (i v σ H Q hw)⟩

/-- an operation of values: what it brings in the store -/
def rdV1 (D : Ad) (P : PV → Store → QV → Prop) : V → Hp → VK → Prop := fun x H Q => ∃ ι S v Qa, Ly D ι H S ∧ RV D ι H v x ∧ P v S Qa ∧ Cnt D ι H Qa Q
def rdV2 (D : Ad) (P : PV → PV → Store → QV → Prop) : R2 := fun x y H Q => ∃ ι S v w Qa, Ly D ι H S ∧ RV D ι H v x ∧ RV D ι H w y ∧ P v w S Qa ∧ Cnt D ι H Qa Q
def rdVs (D : Ad) (P : List PV → Store → QV → Prop) : List V → Hp → VK → Prop := fun xs H Q => ∃ ι S vs Qa, Ly D ι H S ∧ RVs D ι H vs xs ∧ P vs S Qa ∧ Cnt D ι H Qa Q
section
variable {D : Ad} {ι : List Addr} {H : Hp} {S : Store} {Qa : QV} {Q : VK}
theorem Cnt.here (c : Cnt D ι H Qa Q) (L : Ly D ι H S) {v : PV} {x : V} (r : RV D ι H v x) (q : Qa v S) : Q x H := c ι S H v x Ext.refl L r q
/-- a new tuple -/
theorem Cnt.tup (c : Cnt D ι H Qa Q) (L : Ly D ι H S) {p : Addr} (hp : H p = none) {xs : List PV} {vs : List V} (r : RVs D ι H xs vs) (q : Qa (.tup xs) S) : Q (.ref p) (upd H p (.tup vs)) :=
  c ι S _ (.tup xs) (.ref p) (ext_new L hp) (ly_new L hp) ⟨p, vs, rfl, .inl (.inl upd_same), r.ext (ext_new L hp)⟩ q
/-- a new list -/
theorem upd_keep {p : Addr} {o : HO} (hp : H p = none) : ∀ b u, H b = some u → upd H p o b = some u := fun b u h => by rw [upd_ne (ne_of_none h hp)]; exact h
theorem Cnt.lst (c : Cnt D ι H Qa Q) (L : Ly D ι H S) {p : Addr} (hp : H p = none) {xs : List PV} {vs : List V} (r : RVs D ι H xs vs) (q : Qa (.ref S.length) (S ++ [.lst xs])) : Q (.ref p) (upd H p (.lst vs)) := by
  have e := ext_push (H' := upd H p (.lst vs)) L hp (upd_keep hp)
  refine c (ι ++ [p]) (S ++ [.lst xs]) _ (.ref S.length) (.ref p) e (ly_push (o := .lst xs) (ho := .lst vs) L hp (upd_keep hp) upd_same ⟨vs, rfl, r.ext e⟩) ⟨p, ?_, rfl⟩ q
  rw [← L.len, List.getElem?_append_right (Nat.le_refl _), Nat.sub_self]
  rfl
/-- a list of the store changed -/
theorem Ly.setLst (L : Ly D ι H S) {i : Nat} {a : Addr} {o : SO} (hi : ι[i]? = some a) (hs : S[i]? = some o) {xs : List PV} {vs : List V} (r : RVs D ι H xs vs) : Ext ι H ι (upd H a (.lst vs)) ∧ Ly D ι (upd H a (.lst vs)) (S.set i (.lst xs)) :=
  ⟨ext_write L hi hs, ly_write (o' := .lst xs) (ho := .lst vs) L hi hs ⟨vs, rfl, r.ext (ext_write L hi hs)⟩⟩
theorem lstOf_cases {v : PV} {xs : List PV} (h : lstOf S v = some xs) : v = .scr xs ∨ ∃ i, v = .ref i ∧ S[i]? = some (.lst xs) := by
  cases v with
  | scr ys => cases h; exact .inl rfl
  | ref i =>
    refine .inr ⟨i, rfl, ?_⟩
    simp only [lstOf] at h
    cases e : S[i]? with
    | none => rw [e] at h; cases h
    | some o =>
      rw [e] at h
      cases o with
      | lst ys => cases h; rfl
      | _ => cases h
  | _ => cases h
theorem itemsOf_cases {v : PV} {xs : List PV} (h : itemsOf S v = some xs) : v = .tup xs ∨ v = .scr xs ∨ ∃ i, v = .ref i ∧ S[i]? = some (.lst xs) := by
  cases v with
  | tup ys => cases h; exact .inl rfl
  | scr ys => cases h; exact .inr (.inl rfl)
  | ref i =>
    refine .inr (.inr ⟨i, rfl, ?_⟩)
    simp only [itemsOf] at h
    cases e : S[i]? with
    | none => rw [e] at h; cases h
    | some o =>
      rw [e] at h
      cases o with
      | lst ys => cases h; rfl
      | _ => cases h
  | _ => cases h
/-- a list as it lies -/
theorem lst_at (L : Ly D ι H S) {v : PV} {xs : List PV} {x : V} (h : lstOf S v = some xs) (r : RV D ι H v x) : ∃ a vs, x = .ref a ∧ SqL D.K H a vs ∧ RVs D ι H xs vs := by
  rcases lstOf_cases h with rfl | ⟨i, rfl, hs⟩
  · obtain ⟨a, vs, e, q, t⟩ := r
    exact ⟨a, vs, e, q.list, t⟩
  · obtain ⟨a, hi, e⟩ := r
    obtain ⟨b, vs, hi', hb, t⟩ := L.lst hs
    rw [hi] at hi'
    cases hi'
    exact ⟨a, vs, e, SqL.of hb, t⟩
theorem seq_at (L : Ly D ι H S) {v : PV} {xs : List PV} {x : V} (h : itemsOf S v = some xs) (r : RV D ι H v x) : ∃ a vs, x = .ref a ∧ (SqL D.K H a vs ∨ SqT D.K H a vs) ∧ RVs D ι H xs vs := by
  rcases itemsOf_cases h with rfl | h | ⟨i, rfl, hs⟩
  · obtain ⟨a, vs, e, q, t⟩ := r
    exact ⟨a, vs, e, .inr q, t⟩
  · obtain ⟨a, vs, e, q, t⟩ := lst_at L (v := v) (xs := xs) (by rw [h]; rfl) r
    exact ⟨a, vs, e, .inl q, t⟩
  · obtain ⟨a, vs, e, q, t⟩ := lst_at L (v := .ref i) (xs := xs) (by simp only [lstOf]; rw [hs]) r
    exact ⟨a, vs, e, .inl q, t⟩
end
end Rp
/-! # The operations on values, over the store -/
namespace Rp
open PySem PySem.Spec PyProof.Rows L2
section
variable {X : Cx} {D : Ad}

theorem lim_eq : (sizeLine : Nat) = lim := sizeLine_eq

/-- where no product is too large -/
theorem mul_fits {a b : Int} (h : mulOk a b) : IntMulOk a b := by
  rcases h with h | h | h
  · exact (CMul.ok (.inl h))
  · exact (CMul.ok (.inr h))
  · have b1 : ∀ x : Int, Builtin.Int.intBits x ≤ x.natAbs.log2 + 1 := fun x => by
      unfold Builtin.Int.intBits
      split <;> omega
    have h1 := b1 a
    have h2 := b1 b
    have e : bitsLine = 134217728 := by decide
    unfold IntMulOk
    intro z
    have z2 := (Bool.and_eq_true_iff.mp z).2
    unfold Builtin.Int.intTooBig at z2
    have z3 := of_decide_eq_true z2
    rw [e] at z3
    omega

theorem rv_int {ι : List Addr} {H : Hp} {i : Int} {x : V} (r : RV D ι H (.int i) x) : x = .int i := r
theorem rv_bl {ι : List Addr} {H : Hp} {i : Bool} {x : V} (r : RV D ι H (.bl i) x) : x = .bl i := r
theorem rv_str {ι : List Addr} {H : Hp} {i : Str} {x : V} (r : RV D ι H (.str i) x) : x = .str i := r
theorem rv_non {ι : List Addr} {H : Hp} {x : V} (r : RV D ι H .non x) : x = .non := r
theorem rv_tup {ι : List Addr} {H : Hp} {xs : List PV} {x : V} (r : RV D ι H (.tup xs) x) : ∃ a vs, x = .ref a ∧ SqT D.K H a vs ∧ RVs D ι H xs vs := r
theorem rv_scr {ι : List Addr} {H : Hp} {xs : List PV} {x : V} (r : RV D ι H (.scr xs) x) : ∃ a vs, x = .ref a ∧ SqF D.K H a vs ∧ RVs D ι H xs vs := r
theorem rv_ref {ι : List Addr} {H : Hp} {i : Nat} {x : V} (r : RV D ι H (.ref i) x) : ∃ a, ι[i]? = some a ∧ x = .ref a := r
theorem RVs.isNil {ι : List Addr} {H : Hp} {xs : List PV} {vs : List V} (h : RVs D ι H xs vs) : vs = [] ↔ xs = [] := by
  have := h.len
  constructor
  · rintro rfl
    exact List.eq_nil_of_length_eq_zero this.symm
  · rintro rfl
    exact List.eq_nil_of_length_eq_zero this

theorem op_binG (hK : X.K = D.K) {op : Operator} : OpR X (binaryOp op) (rdV2 D (wpBin op)) := by
  intro pins s σ H x y v u Q I rx ry h
  obtain ⟨ι, S, a, b, Qa, L, ra, rb, hw, c⟩ := h
  cases op with
  | Add =>
    cases a with
    | int i =>
      cases b with
      | int j =>
        have hw : Qa (.int (i + j)) S := hw
        cases rv_int ra; cases rv_int rb
        exact op_add pins s σ H _ _ v u Q I rx ry ⟨i, j, rfl, rfl, c.here L (show RV D ι H (.int (i + j)) (.int (i + j)) from rfl) hw⟩
      | _ => exact (show False from hw).elim
    | str i =>
      cases b with
      | str j =>
        have hw : i.length + j.length ≤ lim ∧ Qa (.str (i ++ j)) S := hw
        cases rv_str ra; cases rv_str rb
        exact op_add_str pins s σ H _ _ v u Q I rx ry ⟨i, j, rfl, rfl, by rw [lim_eq]; exact hw.1, c.here L (show RV D ι H (.str (i ++ j)) (.str (i ++ j)) from rfl) hw.2⟩
      | _ => exact (show False from hw).elim
    | tup xs =>
      cases b with
      | tup ys =>
        have hw : xs.length + ys.length ≤ lim ∧ Qa (.tup (xs ++ ys)) S := hw
        obtain ⟨a1, vs, rfl, h1, t1⟩ := rv_tup ra
        obtain ⟨b1, ws, rfl, h2, t2⟩ := rv_tup rb
        refine op_catA pins s σ H _ _ v u Q I rx ry ⟨a1, b1, vs, ws, rfl, rfl, by rw [hK]; exact h1, by rw [hK]; exact h2, by rw [lim_eq, t1.len, t2.len]; exact hw.1, fun e => ?_, fun e e' => ?_, fun e e' p hp => ?_⟩
        · have ex := t1.isNil.mp e
          subst ex
          exact c.here L (v := .tup ys) rb (by simpa using hw.2)
        · have ex := t2.isNil.mp e'
          subst ex
          exact c.here L (v := .tup xs) ra (by simpa using hw.2)
        · exact c.tup L hp (t1.app t2) hw.2
      | _ => exact (show False from hw).elim
    | ref i =>
      cases b with
      | ref j =>
        obtain ⟨xs, ys, e1, e2, hz, hw⟩ : ∃ xs ys, S[i]? = some (SO.lst xs) ∧ S[j]? = some (SO.lst ys) ∧ xs.length + ys.length ≤ lim ∧ Qa (.ref S.length) (S ++ [SO.lst (xs ++ ys)]) := hw
        obtain ⟨a1, hi, rfl⟩ := rv_ref ra
        obtain ⟨b1, hj, rfl⟩ := rv_ref rb
        obtain ⟨a2, vs, hi', h1, t1⟩ := L.lst e1
        obtain ⟨b2, ws, hj', h2, t2⟩ := L.lst e2
        rw [hi] at hi'; cases hi'
        rw [hj] at hj'; cases hj'
        exact op_cat pins s σ H _ _ v u Q I rx ry ⟨a1, b1, vs, ws, rfl, rfl, h1, h2, by rw [lim_eq, t1.len, t2.len]; exact hz, fun p hp => c.lst L hp (t1.app t2) hw⟩
      | _ => exact (show False from hw).elim
    | _ => exact (show False from hw).elim
  | Sub =>
    cases a with
    | int i =>
      cases b with
      | int j =>
        have hw : Qa (.int (i - j)) S := hw
        cases rv_int ra; cases rv_int rb
        exact op_sub pins s σ H _ _ v u Q I rx ry ⟨i, j, rfl, rfl, c.here L (show RV D ι H (.int (i - j)) (.int (i - j)) from rfl) hw⟩
      | _ => exact (show False from hw).elim
    | _ => exact (show False from hw).elim
  | Mult =>
    cases a with
    | int i =>
      cases b with
      | int j =>
        have hw : mulOk i j ∧ Qa (.int (i * j)) S := hw
        cases rv_int ra; cases rv_int rb
        obtain ⟨t, rfl⟩ := rx
        obtain ⟨t', rfl⟩ := ry
        exact mul_int ⟨.int (i * j), H, I.tok _, ⟨_, rfl⟩, c.here L (show RV D ι H (.int (i * j)) (.int (i * j)) from rfl) hw.2⟩ (mul_fits hw.1)
      | _ => exact (show False from hw).elim
    | tup xs =>
      cases b with
      | int n =>
        obtain ⟨⟨h0, h1, h2, h3⟩, hw⟩ : (xs ≠ [] ∧ 2 ≤ n ∧ n ≤ 1000 ∧ xs.length ≤ 1000) ∧ Qa (.tup (List.replicate n.toNat xs).flatten) S := hw
        cases rv_int rb
        obtain ⟨a1, vs, rfl, q1, t1⟩ := rv_tup ra
        exact op_repT pins s σ H _ _ v u Q I rx ry ⟨a1, n, vs, rfl, rfl, by rw [hK]; exact q1, fun z => h0 (t1.isNil.mp z), h1, h2, by rw [t1.len]; exact h3, fun p hp => c.tup L hp (t1.rep n.toNat) hw⟩
      | _ => exact (show False from hw).elim
    | ref i =>
      cases b with
      | int n =>
        obtain ⟨xs, e1, h1, h2, hz, hw⟩ : ∃ xs, S[i]? = some (SO.lst xs) ∧ -1000000 ≤ n ∧ n ≤ 1000000 ∧ xs.length * n.toNat ≤ lim ∧ Qa (.ref S.length) (S ++ [SO.lst (List.replicate n.toNat xs).flatten]) := hw
        cases rv_int rb
        obtain ⟨a1, hi, rfl⟩ := rv_ref ra
        obtain ⟨a2, vs, hi', q1, t1⟩ := L.lst e1
        rw [hi] at hi'; cases hi'
        exact op_rep pins s σ H _ _ v u Q I rx ry ⟨a1, n, vs, rfl, rfl, q1, by omega, by omega, by rw [lim_eq, t1.len]; exact hz, fun p hp => c.lst L hp (t1.rep n.toNat) hw⟩
      | _ => exact (show False from hw).elim
    | _ => cases b <;> exact (show False from hw).elim
  | FloorDiv =>
    cases a with
    | int i =>
      cases b with
      | int j =>
        have hw : divOk j ∧ Qa (.int (i / j)) S := hw
        cases rv_int ra; cases rv_int rb
        exact op_fdiv pins s σ H _ _ v u Q I rx ry ⟨i, j, rfl, rfl, hw.1, c.here L (show RV D ι H (.int (i / j)) (.int (i / j)) from rfl) hw.2⟩
      | _ => exact (show False from hw).elim
    | _ => exact (show False from hw).elim
  | Mod =>
    cases a with
    | int i =>
      cases b with
      | int j =>
        have hw : 0 < j ∧ Qa (.int (i % j)) S := hw
        cases rv_int ra; cases rv_int rb
        exact op_mod pins s σ H _ _ v u Q I rx ry ⟨i, j, rfl, rfl, hw.1, c.here L (show RV D ι H (.int (i % j)) (.int (i % j)) from rfl) hw.2⟩
      | _ => exact (show False from hw).elim
    | _ => exact (show False from hw).elim
  | Pow =>
    cases a with
    | int i =>
      cases b with
      | int j =>
        obtain ⟨⟨h0, h1, h2, h3⟩, hw⟩ : (0 ≤ j ∧ j ≤ 1000000 ∧ fit i) ∧ Qa (.int (i ^ j.toNat)) S := hw
        cases rv_int ra; cases rv_int rb
        exact op_pow pins s σ H _ _ v u Q I rx ry ⟨i, j, rfl, rfl, ⟨h0, h1, by omega⟩, c.here L (show RV D ι H (.int (i ^ j.toNat)) (.int (i ^ j.toNat)) from rfl) hw⟩
      | _ => exact (show False from hw).elim
    | _ => exact (show False from hw).elim
  | _ => exact (show False from hw).elim

/-! ### plain data -/
mutual
theorem dat_dp {ι : List Addr} {H : Hp} {S : Store} (L : Ly D ι H S) : ∀ {v : PV} {d : PyData} {x : V}, Dat S v d → RV D ι H v x → Dp D.K H x d
  | _, _, _, .non, r => by cases rv_non r; exact .non
  | _, _, _, .bl b, r => by cases rv_bl r; exact .bl b
  | _, _, _, .int i, r => by cases rv_int r; exact .int i
  | _, _, _, .str z, r => by cases rv_str r; exact .str z
  | _, _, _, .tup h, r => by
    obtain ⟨a, vs, rfl, q, t⟩ := rv_tup r
    exact .tup q (dats_dp L h t)
  | _, _, _, .scr h, r => by
    obtain ⟨a, vs, rfl, q, t⟩ := rv_scr r
    exact .lst q.list (dats_dp L h t)
  | _, _, _, .lst e h, r => by
    obtain ⟨a, hi, rfl⟩ := rv_ref r
    obtain ⟨a', vs, hi', q, t⟩ := L.lst e
    rw [hi] at hi'; cases hi'
    exact .lst (SqL.of q) (dats_dp L h t)
theorem dats_dp {ι : List Addr} {H : Hp} {S : Store} (L : Ly D ι H S) : ∀ {vs : List PV} {ds : List PyData} {xs : List V}, Dats S vs ds → RVs D ι H vs xs → DpAll D.K H xs ds
  | _, _, _, .nil, r => by rw [show _ = [] from r]; exact .nil
  | _, _, _, .cons h t, r => by
    obtain ⟨v, r', rfl, a, b⟩ := r
    exact .cons (dat_dp L h a) (dats_dp L t b)
end

/-- a comparison's wish, as a value's -/
def cmpV (op : CmpOp) : PV → PV → Store → QV → Prop := fun x y S Q => wpCmp op x y S fun k => Q (.bl k) S

theorem eq_dat (hK : X.K = D.K) (hu : X.A.units + 64 < cLine) {ι : List Addr} {H : Hp} {S : Store} {a b : PV} {x y : V} {Q : VK} {R : Bool → Prop} (L : Ly D ι H S) (ra : RV D ι H a x) (rb : RV D ι H b y)
    (h : ∃ d e, Dat S a d ∧ Dat S b e ∧ SeqAt.shaped d = true ∧ SeqAt.shaped e = true ∧ R (PyData.eqv d e)) (hq : ∀ k, R k → Q (.bl k) H) : rEqD X.K x y H Q := by
  obtain ⟨d, e, h1, h2, s1, s2, q⟩ := h
  exact ⟨d, e, by rw [hK]; exact dat_dp L h1 ra, by rw [hK]; exact dat_dp L h2 rb, s1, s2, hq _ q⟩
theorem ne_dat (hK : X.K = D.K) (hu : X.A.units + 64 < cLine) {ι : List Addr} {H : Hp} {S : Store} {a b : PV} {x y : V} {Q : VK} {R : Bool → Prop} (L : Ly D ι H S) (ra : RV D ι H a x) (rb : RV D ι H b y)
    (h : ∃ d e, Dat S a d ∧ Dat S b e ∧ SeqAt.shaped d = true ∧ SeqAt.shaped e = true ∧ R (PyData.eqv d e)) (hq : ∀ k, R k → Q (.bl (!k)) H) : rNeD X.K x y H Q := by
  obtain ⟨d, e, h1, h2, s1, s2, q⟩ := h
  exact ⟨d, e, by rw [hK]; exact dat_dp L h1 ra, by rw [hK]; exact dat_dp L h2 rb, s1, s2, hq _ q⟩
/-- two values of one scalar kind, or two that are looked at as data -/
theorem eq_cases {S : Store} {a b : PV} {R : Bool → Prop} (h : wpEq a b S R) : (∃ i j, a = .int i ∧ b = .int j ∧ R (decide (i = j))) ∨ (∃ i j, a = .bl i ∧ b = .bl j ∧ R (decide (i = j))) ∨ (∃ i j, a = .str i ∧ b = .str j ∧ R (decide (i = j))) ∨
    ∃ d e, Dat S a d ∧ Dat S b e ∧ SeqAt.shaped d = true ∧ SeqAt.shaped e = true ∧ R (PyData.eqv d e) := by
  cases a with
  | int i =>
    cases b with
    | int j => exact .inl ⟨i, j, rfl, rfl, h⟩
    | _ => exact .inr (.inr (.inr h))
  | bl i =>
    cases b with
    | bl j => exact .inr (.inl ⟨i, j, rfl, rfl, h⟩)
    | _ => exact .inr (.inr (.inr h))
  | str i =>
    cases b with
    | str j => exact .inr (.inr (.inl ⟨i, j, rfl, rfl, h⟩))
    | _ => exact .inr (.inr (.inr h))
  | _ => exact .inr (.inr (.inr h))

theorem dec_int' {i j : Int} : decide (V.int i = V.int j) = decide (i = j) := by
  by_cases h : i = j
  · subst h; simp
  · rw [decide_eq_false h, decide_eq_false (fun z => h (V.int.inj z))]
theorem dec_bl' {i j : Bool} : decide (V.bl i = V.bl j) = decide (i = j) := by
  by_cases h : i = j
  · subst h; simp
  · rw [decide_eq_false h, decide_eq_false (fun z => h (V.bl.inj z))]
theorem dec_str' {i j : Str} : decide (V.str i = V.str j) = decide (i = j) := by
  by_cases h : i = j
  · subst h; simp
  · rw [decide_eq_false h, decide_eq_false (fun z => h (V.str.inj z))]

/-- x is None, told at once -/
theorem is_cases {a b : PV} {R : Bool → Prop} (h : wpIs a b R) : (b = .non ∧ ((a = .non ∧ R true) ∨ (a ≠ .non ∧ (∀ n, a ≠ .ty n) ∧ R false))) ∨ (∃ i j, a = .bl i ∧ b = .bl j ∧ R (decide (i = j))) ∨ (∃ j, a = .non ∧ b = .bl j ∧ R false) := by
  cases a <;> cases b <;> first
    | exact (show False from h).elim
    | exact .inl ⟨rfl, .inl ⟨rfl, h⟩⟩
    | exact .inl ⟨rfl, .inr ⟨(by intro z; cases z), (by intro n z; cases z), h⟩⟩
    | exact .inr (.inl ⟨_, _, rfl, rfl, h⟩)
    | exact .inr (.inr ⟨_, rfl, rfl, h⟩)

theorem rv_not_non {ι : List Addr} {H : Hp} {a : PV} {x : V} (r : RV D ι H a x) (h : a ≠ .non) (h2 : ∀ n, a ≠ .ty n) : x ≠ .non := by
  cases a with
  | non => exact absurd rfl h
  | bl b => cases rv_bl r; intro z; cases z
  | int b => cases rv_int r; intro z; cases z
  | str b => cases rv_str r; intro z; cases z
  | tup b => obtain ⟨a, vs, rfl, _⟩ := rv_tup r; intro z; cases z
  | scr b => obtain ⟨a, vs, rfl, _⟩ := rv_scr r; intro z; cases z
  | ref b => obtain ⟨a, _, rfl⟩ := rv_ref r; intro z; cases z
  | fn b => have e : x = .ref (D.fa b) := r; subst e; intro z; cases z
  | cls b => have e : x = .ref (D.ca b) := r; subst e; intro z; cases z
  | ty n => exact absurd rfl (h2 n)

theorem op_cmpG (hK : X.K = D.K) (hu : X.A.units + 64 < cLine) {op : CmpOp} : OpR X (compareOp op) (rdV2 D (cmpV op)) := by
  intro pins s σ H x y v u Q I rx ry h
  obtain ⟨ι, S, a, b, Qa, L, ra, rb, hw, c⟩ := h
  have fin : ∀ k, Qa (.bl k) S → Q (.bl k) H := fun k q => c.here L (show RV D ι H (.bl k) (.bl k) from rfl) q
  cases op with
  | Eq =>
    rcases eq_cases (show wpEq a b S fun k => Qa (.bl k) S from hw) with ⟨i, j, rfl, rfl, q⟩ | ⟨i, j, rfl, rfl, q⟩ | ⟨i, j, rfl, rfl, q⟩ | q
    · cases rv_int ra; cases rv_int rb
      exact op_eq pins s σ H _ _ v u Q I rx ry ⟨rfl, by rw [dec_int']; exact fin _ q⟩
    · cases rv_bl ra; cases rv_bl rb
      exact op_eq pins s σ H _ _ v u Q I rx ry ⟨rfl, by rw [dec_bl']; exact fin _ q⟩
    · cases rv_str ra; cases rv_str rb
      exact op_eq pins s σ H _ _ v u Q I rx ry ⟨rfl, by rw [dec_str']; exact fin _ q⟩
    · exact op_eqD hu pins s σ H x y v u Q I rx ry (eq_dat hK hu L ra rb q fin)
  | NotEq =>
    rcases eq_cases (show wpEq a b S fun k => Qa (.bl (!k)) S from hw) with ⟨i, j, rfl, rfl, q⟩ | ⟨i, j, rfl, rfl, q⟩ | ⟨i, j, rfl, rfl, q⟩ | q
    · cases rv_int ra; cases rv_int rb
      exact op_ne pins s σ H _ _ v u Q I rx ry ⟨rfl, by rw [dec_int']; exact fin _ q⟩
    · cases rv_bl ra; cases rv_bl rb
      exact op_ne pins s σ H _ _ v u Q I rx ry ⟨rfl, by rw [dec_bl']; exact fin _ q⟩
    · cases rv_str ra; cases rv_str rb
      exact op_ne pins s σ H _ _ v u Q I rx ry ⟨rfl, by rw [dec_str']; exact fin _ q⟩
    · exact op_neD hu pins s σ H x y v u Q I rx ry (ne_dat hK hu L ra rb q fun k z => fin _ z)
  | Lt =>
    cases a with
    | int i =>
      cases b with
      | int j =>
        cases rv_int ra; cases rv_int rb
        exact op_lt pins s σ H _ _ v u Q I rx ry ⟨i, j, rfl, rfl, fin _ hw⟩
      | _ => exact (show False from hw).elim
    | _ => exact (show False from hw).elim
  | LtE =>
    cases a with
    | int i =>
      cases b with
      | int j =>
        cases rv_int ra; cases rv_int rb
        exact op_le pins s σ H _ _ v u Q I rx ry ⟨i, j, rfl, rfl, fin _ hw⟩
      | _ => exact (show False from hw).elim
    | _ => exact (show False from hw).elim
  | Gt =>
    cases a with
    | int i =>
      cases b with
      | int j =>
        cases rv_int ra; cases rv_int rb
        exact op_gt pins s σ H _ _ v u Q I rx ry ⟨i, j, rfl, rfl, fin _ hw⟩
      | _ => exact (show False from hw).elim
    | _ => exact (show False from hw).elim
  | GtE =>
    cases a with
    | int i =>
      cases b with
      | int j =>
        cases rv_int ra; cases rv_int rb
        exact op_ge pins s σ H _ _ v u Q I rx ry ⟨i, j, rfl, rfl, fin _ hw⟩
      | _ => exact (show False from hw).elim
    | _ => exact (show False from hw).elim
  | Is =>
    rcases is_cases (show wpIs a b fun k => Qa (.bl k) S from hw) with ⟨rfl, ⟨rfl, q⟩ | ⟨n1, n2, q⟩⟩ | ⟨i, j, rfl, rfl, q⟩ | ⟨j, rfl, rfl, q⟩
    · cases rv_non ra; cases rv_non rb
      exact op_isN pins s σ H _ _ v u Q I rx ry ⟨rfl, fin _ q⟩
    · cases rv_non rb
      exact op_isN pins s σ H _ _ v u Q I rx ry ⟨rfl, by rw [decide_eq_false (rv_not_non ra n1 n2)]; exact fin _ q⟩
    · cases rv_bl ra; cases rv_bl rb
      exact op_isBl pins s σ H _ _ v u Q I rx ry ⟨i, j, rfl, rfl, fin _ q⟩
    · cases rv_non ra; cases rv_bl rb
      cases (show v = Value.none from rx)
      cases (show u = Value.bool j from ry)
      exact wpAny_is_other rfl (fun z => by cases z) ⟨.bl false, H, I, rfl, fin _ q⟩
  | IsNot =>
    rcases is_cases (show wpIs a b fun k => Qa (.bl (!k)) S from hw) with ⟨rfl, ⟨rfl, q⟩ | ⟨n1, n2, q⟩⟩ | ⟨i, j, rfl, rfl, q⟩ | ⟨j, rfl, rfl, q⟩
    · cases rv_non ra; cases rv_non rb
      exact op_notN pins s σ H _ _ v u Q I rx ry ⟨rfl, fin _ q⟩
    · cases rv_non rb
      exact op_notN pins s σ H _ _ v u Q I rx ry ⟨rfl, by rw [decide_eq_false (rv_not_non ra n1 n2)]; exact fin _ q⟩
    · cases rv_bl ra; cases rv_bl rb
      exact op_notBl pins s σ H _ _ v u Q I rx ry ⟨i, j, rfl, rfl, fin _ q⟩
    · cases rv_non ra; cases rv_bl rb
      cases (show v = Value.none from rx)
      cases (show u = Value.bool j from ry)
      exact wpAny_isNot_other rfl (fun z => by cases z) ⟨.bl true, H, I, rfl, fin _ q⟩
  | _ => exact (show False from hw).elim

/-! ### truth -/
theorem lenInt_ne {n : Nat} : (((n : Nat) : Int) != 0) = decide (n ≠ 0) := by
  by_cases h : n = 0
  · subst h; rfl
  · rw [decide_eq_true h]
    exact bne_iff_ne.mpr (by omega)
theorem isEmpty_rvs {ι : List Addr} {H : Hp} {xs : List PV} {vs : List V} (h : RVs D ι H xs vs) : vs.isEmpty = xs.isEmpty := by
  have := h.len
  cases xs with
  | nil => rw [show vs = [] from h]; rfl
  | cons x r => obtain ⟨v, s, rfl, _⟩ := h; rfl
/-- the truth of a value; texts may not be too long -/
theorem tru_at {ι : List Addr} {H : Hp} {S : Store} (L : Ly D ι H S) {a : PV} {x : V} {k : Bool} (r : RV D ι H a x) (h : tru S a = some k) : TruV D.K x H k := by
  cases a with
  | non => cases rv_non r; cases h; rfl
  | bl b => cases rv_bl r; cases h; rfl
  | int i =>
    cases rv_int r; cases h
    show decide (i ≠ 0) = (i != 0)
    by_cases z : i = 0
    · subst z; rfl
    · rw [decide_eq_true z]; exact (bne_iff_ne.mpr z).symm
  | str z =>
    cases rv_str r
    simp only [tru] at h
    by_cases hz : z.length ≤ lim
    · rw [if_pos hz] at h
      cases h
      exact ⟨by rw [lim_eq]; exact hz, lenInt_ne.symm⟩
    · rw [if_neg hz] at h
      cases h
  | tup xs =>
    obtain ⟨a, vs, rfl, q, t⟩ := rv_tup r
    cases h
    exact .inr (.inl ⟨vs, q, by rw [isEmpty_rvs t]⟩)
  | scr xs =>
    obtain ⟨a, vs, rfl, q, t⟩ := rv_scr r
    cases h
    exact .inl ⟨vs, q.list, by rw [isEmpty_rvs t]⟩
  | ref i =>
    simp only [tru] at h
    cases e : S[i]? with
    | none => rw [e] at h; cases h
    | some o =>
      rw [e] at h
      obtain ⟨a, hi, rfl⟩ := rv_ref r
      cases o with
      | lst xs =>
        cases h
        obtain ⟨b, vs, hi', q, t⟩ := L.lst e
        rw [hi] at hi'; cases hi'
        exact .inl ⟨vs, SqL.of q, by rw [isEmpty_rvs t]⟩
      | dic kvs =>
        obtain ⟨b, ho, _, _, z⟩ := L.at_ i _ e
        exact (show False from z).elim
      | ins c fs => cases h
  | _ => cases h
end
end Rp
/-! # Subscripts, slices, built-in calls, over the store -/
namespace Rp
open PySem PySem.Spec PyProof.Rows L2

theorem bnd_eq (n d : Nat) (o : Option Int) : bnd n d o = HT.sIx n d o := by
  cases o <;> rfl
theorem idx_ix {α : Type} {xs : List α} {k : Int} {v : α} (h : idx xs k = some v) : ∃ j, ixN xs.length k = some j ∧ xs[j]? = some v := by
  unfold idx at h
  by_cases h0 : 0 ≤ k
  · rw [if_pos h0] at h
    have hl := (List.getElem?_eq_some_iff.mp h).1
    exact ⟨k.toNat, by unfold ixN; rw [if_pos h0, if_pos (by omega)], h⟩
  · rw [if_neg h0] at h
    by_cases h1 : 0 ≤ (xs.length : Int) + k
    · rw [if_pos h1] at h
      refine ⟨((xs.length : Int) + k).toNat, ?_, h⟩
      unfold ixN
      rw [if_neg h0, if_pos (by omega)]
      congr 1
      omega
    · rw [if_neg h1] at h
      cases h
/-- what isinstance asks of the classes -/
structure IsF (D : Ad) (T : Tab) : Prop where
  cl : ∀ c cd, T.cls[c]? = some cd → Cls D.K (D.ca c)
  ha : ∀ c cd, T.cls[c]? = some cd → PySem.W.findIn D.K (.ref (D.ca c)) "__class__" = some (some (.builtin "object.__class__")) ∧ PySem.W.mroIn D.K (D.ca c) (.type "object") = some true
  hn : T.cls = [] ∨ (PySem.W.specialIn D.K (.builtin "object.__class__") "__get__" = some (some (.builtin "getset_descriptor.__get__")) ∧ PySem.W.takesIn D.K (.builtin "object.__class__") = some true)
  bi : ∀ c cd b, T.cls[c]? = some cd → b ≠ BT.non → PySem.W.kitOne D.K (.ref (D.ca c)) (.type b.nm) = some false
  ib : ∀ c b, (T.cls[c]?).isSome = true → PySem.W.kitOne D.K (.type (BT.nm b)) (.ref (D.ca c)) = some false
  ne : ∀ c cd, T.cls[c]? = some cd → (cd.ms.lookup "__eq__").isSome = true → PySem.W.findIn D.K (.ref (D.ca c)) "__ne__" = some (some (.builtin "object.__ne__"))
  ii : ∀ c d cd, T.cls[c]? = some cd → (T.cls[d]?).isSome = true → PySem.W.kitOne D.K (.ref (D.ca c)) (.ref (D.ca d)) = some (cd.up.contains d)
section
variable {X : Cx} {D : Ad} {T : Tab}
theorem idx_at {ι : List Addr} {H : Hp} {xs : List PV} {vs : List V} {k : Int} {v : PV} (t : RVs D ι H xs vs) (h : idx xs k = some v) : ∃ w, atI vs k = some w ∧ RV D ι H v w := by
  obtain ⟨j, e1, e2⟩ := idx_ix h
  obtain ⟨w, e3, r⟩ := t.get e2
  exact ⟨w, by unfold atI; rw [t.len, e1]; exact e3, r⟩

theorem ix_G (hK : X.K = D.K) : IxR X (rdV2 D wpSub) := by
  intro value slice pins s σ H x y v u Q I rx ry h hs
  obtain ⟨ι, S, a, b, Qa, L, ra, rb, hw, c⟩ := h
  cases b with
  | int k =>
    obtain ⟨xs, z, e1, e2, q⟩ : ∃ xs z, itemsOf S a = some xs ∧ idx xs k = some z ∧ Qa z S := hw
    cases rv_int rb
    obtain ⟨p, vs, rfl, hq, t⟩ := seq_at L e1 ra
    obtain ⟨w, e3, rw'⟩ := idx_at t e2
    rcases hq with hq | hq
    · exact ix_list value slice pins s σ H _ _ v u Q I rx ry ⟨p, vs, k, w, rfl, rfl, by rw [hK]; exact hq, e3, c.here L rw' q⟩ hs
    · exact ix_tup value slice pins s σ H _ _ v u Q I rx ry ⟨p, vs, k, w, rfl, rfl, by rw [hK]; exact hq, e3, c.here L rw' q⟩ hs
  | _ => exact (show False from hw).elim

/-- a slice's reading -/
def rdSl (D : Ad) : V → Option Int → Option Int → Hp → VK → Prop := fun x lo hi H Q => ∃ ι S v Qa, Ly D ι H S ∧ RV D ι H v x ∧ wpSlice v lo hi S Qa ∧ Cnt D ι H Qa Q
theorem cut_rvs {ι : List Addr} {H : Hp} {xs : List PV} {vs : List V} (t : RVs D ι H xs vs) (lo hi : Option Int) : RVs D ι H (cutL xs lo hi) (cutV vs lo hi) := by
  unfold cutL cutV
  rw [t.len, bnd_eq, bnd_eq]
  exact (t.drop _).take _
theorem sl_G (hK : X.K = D.K) : SlR X (rdSl D) := by
  intro pins s σ H x v vl vu lo hi sl Q I rx hs pl pu h
  obtain ⟨ι, S, a, Qa, L, ra, hw, c⟩ := h
  have lists : ∀ xs, lstOf S a = some xs → Qa (.ref S.length) (S ++ [.lst (cutL xs lo hi)]) → ∃ T id, typeLookup (.type T) "__getitem__" = pure (some (.builtin id)) ∧ s.TypeIs v T ∧ wpAny (model X.prog X.w) X.A (getItem v (.ref sl)) (EP X pins σ Q) X.xe s := by
    intro xs e q
    obtain ⟨p, vs, rfl, hq, t⟩ := lst_at L e ra
    exact sl_list pins s σ H _ v vl vu lo hi sl Q I rx hs pl pu ⟨p, vs, rfl, by rw [hK]; exact hq, fun p' hp => c.lst L hp (cut_rvs t lo hi) q⟩
  cases a with
  | tup xs =>
    have q : Qa (.tup (cutL xs lo hi)) S := hw
    obtain ⟨p, vs, rfl, hq, t⟩ := rv_tup ra
    refine sl_tupA pins s σ H _ v vl vu lo hi sl Q I rx hs pl pu ⟨p, vs, rfl, by rw [hK]; exact hq, fun e => ?_, fun _ p' hp => c.tup L hp (cut_rvs t lo hi) q⟩
    have ew : cutL xs lo hi = xs := by
      unfold cutL
      rw [bnd_eq, bnd_eq, ← t.len, e.1, e.2, List.drop_zero, t.len]
      exact List.take_length
    rw [ew] at q
    exact c.here L ra q
  | scr xs =>
    obtain ⟨ys, e, q⟩ : ∃ ys, lstOf S (PV.scr xs) = some ys ∧ Qa (.ref S.length) (S ++ [SO.lst (cutL ys lo hi)]) := hw
    exact lists ys e q
  | ref i =>
    obtain ⟨ys, e, q⟩ : ∃ ys, lstOf S (PV.ref i) = some ys ∧ Qa (.ref S.length) (S ++ [SO.lst (cutL ys lo hi)]) := hw
    exact lists ys e q
  | _ =>
    obtain ⟨ys, e, q⟩ := hw
    cases e

/-- x[i] = v -/
def rdSet (D : Ad) : TSet := fun o i v H Q => ∃ ι S a b c Qs, Ly D ι H S ∧ RV D ι H a o ∧ RV D ι H b i ∧ RV D ι H c v ∧ wpSet a b c S Qs ∧ ∀ ι' S' H', Ext ι H ι' H' → Ly D ι' H' S' → Qs S' → Q H'
theorem set_G : PSet X (rdSet D) := by
  intro pins s σ H o i v ov iv u Q I ro ri rv h
  obtain ⟨ι, S, a, b, d, Qs, L, ra, rb, rd, hw, c⟩ := h
  cases a with
  | ref n =>
    cases b with
    | int k =>
      obtain ⟨xs, e, h0, h1, q⟩ : ∃ xs, S[n]? = some (SO.lst xs) ∧ 0 ≤ k ∧ k < (xs.length : Int) ∧ Qs (S.set n (.lst (xs.set k.toNat d))) := hw
      obtain ⟨p, hi, rfl⟩ := rv_ref ra
      cases rv_int rb
      obtain ⟨p', vs, hi', hp, t⟩ := L.lst e
      rw [hi] at hi'; cases hi'
      refine set_list pins s σ H _ _ v ov iv u Q I ro ri rv ⟨p, vs, k, k.toNat, rfl, rfl, hp, ?_, ?_⟩
      · unfold ixN
        rw [t.len, if_pos h0, if_pos h1]
      · obtain ⟨x1, l1⟩ := L.setLst hi e (t.set k.toNat rd)
        exact c ι _ _ x1 l1 q
    | _ => exact (show False from hw).elim
  | _ => exact (show False from hw).elim

/-! ### the built-in functions -/
theorem maxI_spec : ∀ (ns : List Int), ns ≠ [] → maxI ns ∈ ns ∧ ∀ y ∈ ns, y ≤ maxI ns
  | [], h => absurd rfl h
  | [a], _ => ⟨by simp [maxI], fun y hy => by simp at hy; subst hy; exact Int.le_refl _⟩
  | a :: b :: r, _ => by
    obtain ⟨h1, h2⟩ := maxI_spec (b :: r) (by simp)
    show (if a < maxI (b :: r) then maxI (b :: r) else a) ∈ _ ∧ ∀ y ∈ _, y ≤ (if a < maxI (b :: r) then maxI (b :: r) else a)
    by_cases h : a < maxI (b :: r)
    · rw [if_pos h]
      refine ⟨List.mem_cons_of_mem _ h1, fun y hy => ?_⟩
      rcases List.mem_cons.mp hy with rfl | hy
      · omega
      · exact h2 y hy
    · rw [if_neg h]
      refine ⟨List.mem_cons_self, fun y hy => ?_⟩
      rcases List.mem_cons.mp hy with rfl | hy
      · omega
      · have := h2 y hy
        omega
theorem minI_spec : ∀ (ns : List Int), ns ≠ [] → minI ns ∈ ns ∧ ∀ y ∈ ns, minI ns ≤ y
  | [], h => absurd rfl h
  | [a], _ => ⟨by simp [minI], fun y hy => by simp at hy; subst hy; exact Int.le_refl _⟩
  | a :: b :: r, _ => by
    obtain ⟨h1, h2⟩ := minI_spec (b :: r) (by simp)
    show (if minI (b :: r) < a then minI (b :: r) else a) ∈ _ ∧ ∀ y ∈ _, (if minI (b :: r) < a then minI (b :: r) else a) ≤ y
    by_cases h : minI (b :: r) < a
    · rw [if_pos h]
      refine ⟨List.mem_cons_of_mem _ h1, fun y hy => ?_⟩
      rcases List.mem_cons.mp hy with rfl | hy
      · omega
      · exact h2 y hy
    · rw [if_neg h]
      refine ⟨List.mem_cons_self, fun y hy => ?_⟩
      rcases List.mem_cons.mp hy with rfl | hy
      · omega
      · have := h2 y hy
        omega
theorem maxI_uniq {ns : List Int} {m : Int} (h : m ∈ ns) (hm : ∀ y ∈ ns, y ≤ m) : m = maxI ns := by
  have hne : ns ≠ [] := fun z => by subst z; cases h
  obtain ⟨a, b⟩ := maxI_spec ns hne
  have := hm _ a
  have := b _ h
  omega
theorem minI_uniq {ns : List Int} {m : Int} (h : m ∈ ns) (hm : ∀ y ∈ ns, m ≤ y) : m = minI ns := by
  have hne : ns ≠ [] := fun z => by subst z; cases h
  obtain ⟨a, b⟩ := minI_spec ns hne
  have := hm _ a
  have := b _ h
  omega

/-- the value under a built-in's name -/
def Blt.val : Blt → Value
  | .len => .builtin "len" | .sum => .builtin "sum" | .max => .builtin "max" | .min => .builtin "min" | .abs => .builtin "abs" | .int => .type "int" | .str => .type "str" | .repr => .builtin "repr" | .list => .type "list" | .tuple => .type "tuple"
  | .sorted => .builtin "sorted" | .isinstance => .builtin "isinstance" | .all => .builtin "all" | .any => .builtin "any" | .bool => .type "bool"

theorem rvs1 {ι : List Addr} {H : Hp} {a : PV} {xs : List V} (r : RVs D ι H [a] xs) : ∃ x, xs = [x] ∧ RV D ι H a x := by
  obtain ⟨x, r', rfl, h, t⟩ := r
  rw [show r' = [] from t]
  exact ⟨x, rfl, h⟩
theorem rvs2 {ι : List Addr} {H : Hp} {a b : PV} {xs : List V} (r : RVs D ι H [a, b] xs) : ∃ x y, xs = [x, y] ∧ RV D ι H a x ∧ RV D ι H b y := by
  obtain ⟨x, r', rfl, h, t⟩ := r
  obtain ⟨y, rfl, h'⟩ := rvs1 t
  exact ⟨x, y, rfl, h, h'⟩
/-- a row of numbers as it lies -/
theorem ints_at {ι : List Addr} {H : Hp} {S : Store} (L : Ly D ι H S) {v : PV} {ns : List Int} {x : V} (h : lstOf S v = some (ns.map .int)) (r : RV D ι H v x) : ∃ a, x = .ref a ∧ SqL D.K H a (ns.map V.int) := by
  obtain ⟨a, vs, e, q, t⟩ := lst_at L h r
  rw [t.ints] at q
  exact ⟨a, e, q⟩

/-- what a value is, of data -/
theorem depth_units {A : Around} {d : PyData} (h : d.depth ≤ 64) (hu : A.units + 80 < cLine) : A.units + (d.depth + 1) < cLine := by omega

/-- a value's data as it lies in the model's heap -/
theorem dat_reads {pins : List (Addr × Obj)} {σ : L2.St} {s : Shared} {ι : List Addr} {H : Hp} {S : Store} (hK : X.K = D.K) (I : Inv X pins σ H s) (L : Ly D ι H S) {v : PV} {d : PyData} {x : V} {u : Value} (h : Dat S v d) (r : RV D ι H v x) (ru : RelV x u) :
    ∃ as, Reads s.heap u d as := Dp.reads I d x u (by rw [hK]; exact dat_dp L h r) ru

theorem blt_repr (hK : X.K = D.K) (hg : X.A.guards = some []) (hu : X.A.units + 80 < cLine) : CallR X (.builtin "repr") (rdVs D fun vs S Q => wpBlt T .repr vs S Q) := by
  intro pins s σ H xs us Q I r h
  obtain ⟨ι, S, vs, Qa, L, rv, hw, c⟩ := h
  match vs, rv, hw with
  | [a], rv, hw =>
    obtain ⟨d, h1, h2, h3, h4, h5, q⟩ : ∃ d, Dat S a d ∧ d.showable = true ∧ d.hasDict = false ∧ d.depth ≤ 64 ∧ d.shown.length ≤ lim ∧ Qa (.str d.shown) S := hw
    obtain ⟨x, rfl, ra⟩ := rvs1 rv
    obtain ⟨u, rfl, ru⟩ := vals1 r
    obtain ⟨as, hr⟩ := dat_reads hK I L h1 ra ru
    have fin : ∀ (h' : Heap) (t : Tok) (tk : Nat), (∀ b o, s.heap.get? b = some o → h'.get? b = some o) → EP X pins σ Q (.str d.shown t) { s with heap := h', toks := tk } := fun h' t tk hk =>
      ⟨.str d.shown, H, I.kept hk, ⟨t, rfl⟩, c.here L (show RV D ι H (.str d.shown) (.str d.shown) from rfl) q⟩
    have hz : d.shown.length ≤ sizeLine := by rw [lim_eq]; exact h5
    cases hr with
    | none => exact P.repr_of_none (fin s.heap _ _ fun _ _ e => e)
    | bool b => exact P.repr_of_bool (fin s.heap _ _ fun _ _ e => e)
    | int i t => exact P.repr_of_int (by simpa [PyData.showable] using h2) (fin s.heap _ _ fun _ _ e => e)
    | str z t => exact P.repr_of_str (fin s.heap _ _ fun _ _ e => e) hz
    | list a1 a2 a3 a4 => exact repr_of_reads' (.list a1 a2 a3 a4) h2 (PyData.noDict_hsm h3) hg (depth_units h4 hu) (fun _ _ e => e) (fun h' u tk hk => fin h' u tk hk) hz
    | tuple a1 a2 a3 a4 => exact repr_of_reads' (.tuple a1 a2 a3 a4) h2 (PyData.noDict_hsm h3) hg (depth_units h4 hu) (fun _ _ e => e) (fun h' u tk hk => fin h' u tk hk) hz
    | dict a1 a2 a3 a4 a5 => exact repr_of_reads' (.dict a1 a2 a3 a4 a5) h2 (PyData.noDict_hsm h3) hg (depth_units h4 hu) (fun _ _ e => e) (fun h' u tk hk => fin h' u tk hk) hz
  | [], rv, hw => exact (show False from hw).elim
  | _ :: _ :: _, rv, hw => exact (show False from hw).elim

theorem blt_seq_len (hK : X.K = D.K) : CallR X (.builtin "len") (rdVs D fun vs S Q => wpBlt T .len vs S Q) := by
  intro pins s σ H xs us Q I r h
  obtain ⟨ι, S, vs, Qa, L, rv, hw, c⟩ := h
  have seq : ∀ (a : PV) (x : V) ys, xs = [x] → RV D ι H a x → itemsOf S a = some ys → Qa (.int (ys.length : Int)) S → wpAny (model X.prog X.w) X.A (call (.builtin "len") us) (EP X pins σ Q) X.xe s := by
    intro a x ys ex ra e q
    subst ex
    obtain ⟨p, ws, rfl, hq, t⟩ := seq_at L e ra
    refine call_len pins s σ H _ us Q I r ⟨.ref p, ys.length, rfl, ?_, c.here L (show RV D ι H (.int _) (.int _) from rfl) q⟩
    rcases hq with hq | hq
    · exact .inl ⟨ws, by rw [hK]; exact hq, t.len.symm⟩
    · exact .inr ⟨ws, by rw [hK]; exact hq, t.len.symm⟩
  match vs, rv, hw with
  | [], rv, hw => exact (show False from hw).elim
  | [a], rv, hw =>
    obtain ⟨x, rfl, ra⟩ := rvs1 rv
    cases a with
    | str z =>
      obtain ⟨hz, q⟩ : z.length ≤ lim ∧ Qa (.int (z.length : Int)) S := hw
      cases rv_str ra
      exact call_len pins s σ H _ us Q I r ⟨.str z, z.length, rfl, ⟨by rw [lim_eq]; exact hz, rfl⟩, c.here L (show RV D ι H (.int _) (.int _) from rfl) q⟩
    | tup ys => obtain ⟨zs, e, q⟩ := hw; exact seq _ x zs rfl ra e q
    | scr ys => obtain ⟨zs, e, q⟩ := hw; exact seq _ x zs rfl ra e q
    | ref i => obtain ⟨zs, e, q⟩ := hw; exact seq _ x zs rfl ra e q
    | _ => obtain ⟨zs, e, q⟩ := hw; cases e
  | _ :: _ :: _, rv, hw => exact (show False from hw).elim

theorem blt_sum (hK : X.K = D.K) (hc : X.calm = true) : CallR X (.builtin "sum") (rdVs D fun vs S Q => wpBlt T .sum vs S Q) := by
  intro pins s σ H xs us Q I r h
  obtain ⟨ι, S, vs, Qa, L, rv, hw, c⟩ := h
  match vs, rv, hw with
  | [], rv, hw => exact (show False from hw).elim
  | [a], rv, hw =>
    obtain ⟨ns, e, q⟩ : ∃ ns : List Int, lstOf S a = some (ns.map .int) ∧ Qa (.int ns.sum) S := hw
    obtain ⟨x, rfl, ra⟩ := rvs1 rv
    obtain ⟨p, rfl, hq⟩ := ints_at L e ra
    exact cr_sum hc pins s σ H _ us Q I r ⟨p, ns, rfl, by rw [hK]; exact hq, c.here L (show RV D ι H (.int _) (.int _) from rfl) q⟩
  | _ :: _ :: _, rv, hw => exact (show False from hw).elim

theorem blt_max (hK : X.K = D.K) (hc : X.calm = true) : CallR X (.builtin "max") (rdVs D fun vs S Q => wpBlt T .max vs S Q) := by
  intro pins s σ H xs us Q I r h
  obtain ⟨ι, S, vs, Qa, L, rv, hw, c⟩ := h
  match vs, rv, hw with
  | [], rv, hw => exact (show False from hw).elim
  | [a], rv, hw =>
    obtain ⟨ns, e, hne, q⟩ : ∃ ns : List Int, lstOf S a = some (ns.map .int) ∧ ns ≠ [] ∧ Qa (.int (maxI ns)) S := hw
    obtain ⟨x, rfl, ra⟩ := rvs1 rv
    obtain ⟨p, rfl, hq⟩ := ints_at L e ra
    refine cr_max hc pins s σ H _ us Q I r ⟨p, ns, rfl, by rw [hK]; exact hq, List.length_pos_iff.mpr hne, fun m h1 h2 => ?_⟩
    rw [maxI_uniq h1 h2]
    exact c.here L (show RV D ι H (.int _) (.int _) from rfl) q
  | [a, b], rv, hw =>
    obtain ⟨x, y, rfl, ra, rb⟩ := rvs2 rv
    cases a with
    | int i =>
      cases b with
      | int j =>
        have hw : Qa (.int (if j > i then j else i)) S := hw
        cases rv_int ra; cases rv_int rb
        exact call_max2 hc pins s σ H _ us Q I r ⟨i, j, rfl, c.here L (show RV D ι H (.int _) (.int _) from rfl) hw⟩
      | _ => exact (show False from hw).elim
    | _ => exact (show False from hw).elim
  | _ :: _ :: _ :: _, rv, hw => exact (show False from hw).elim
theorem blt_min (hK : X.K = D.K) (hc : X.calm = true) : CallR X (.builtin "min") (rdVs D fun vs S Q => wpBlt T .min vs S Q) := by
  intro pins s σ H xs us Q I r h
  obtain ⟨ι, S, vs, Qa, L, rv, hw, c⟩ := h
  match vs, rv, hw with
  | [], rv, hw => exact (show False from hw).elim
  | [a], rv, hw =>
    obtain ⟨ns, e, hne, q⟩ : ∃ ns : List Int, lstOf S a = some (ns.map .int) ∧ ns ≠ [] ∧ Qa (.int (minI ns)) S := hw
    obtain ⟨x, rfl, ra⟩ := rvs1 rv
    obtain ⟨p, rfl, hq⟩ := ints_at L e ra
    refine cr_min hc pins s σ H _ us Q I r ⟨p, ns, rfl, by rw [hK]; exact hq, List.length_pos_iff.mpr hne, fun m h1 h2 => ?_⟩
    rw [minI_uniq h1 h2]
    exact c.here L (show RV D ι H (.int _) (.int _) from rfl) q
  | [a, b], rv, hw =>
    obtain ⟨x, y, rfl, ra, rb⟩ := rvs2 rv
    cases a with
    | int i =>
      cases b with
      | int j =>
        have hw : Qa (.int (if j < i then j else i)) S := hw
        cases rv_int ra; cases rv_int rb
        exact call_min2 hc pins s σ H _ us Q I r ⟨i, j, rfl, c.here L (show RV D ι H (.int _) (.int _) from rfl) hw⟩
      | _ => exact (show False from hw).elim
    | _ => exact (show False from hw).elim
  | _ :: _ :: _ :: _, rv, hw => exact (show False from hw).elim
theorem blt_abs : CallR X (.builtin "abs") (rdVs D fun vs S Q => wpBlt T .abs vs S Q) := by
  intro pins s σ H xs us Q I r h
  obtain ⟨ι, S, vs, Qa, L, rv, hw, c⟩ := h
  match vs, rv, hw with
  | [], rv, hw => exact (show False from hw).elim
  | [a], rv, hw =>
    obtain ⟨x, rfl, ra⟩ := rvs1 rv
    cases a with
    | int i =>
      cases rv_int ra
      exact call_abs pins s σ H _ us Q I r ⟨i, rfl, c.here L (show RV D ι H (.int _) (.int _) from rfl) hw⟩
    | _ => exact (show False from hw).elim
  | _ :: _ :: _, rv, hw => exact (show False from hw).elim
theorem blt_int : CallR X (.type "int") (rdVs D fun vs S Q => wpBlt T .int vs S Q) := by
  intro pins s σ H xs us Q I r h
  obtain ⟨ι, S, vs, Qa, L, rv, hw, c⟩ := h
  match vs, rv, hw with
  | [], rv, hw => exact (show False from hw).elim
  | [a], rv, hw =>
    obtain ⟨x, rfl, ra⟩ := rvs1 rv
    cases a with
    | int i =>
      cases rv_int ra
      exact call_int1 pins s σ H _ us Q I r (.inl ⟨i, rfl, c.here L (show RV D ι H (.int _) (.int _) from rfl) hw⟩)
    | bl k =>
      cases rv_bl ra
      exact call_int1 pins s σ H _ us Q I r (.inr ⟨k, rfl, c.here L (show RV D ι H (.int _) (.int _) from rfl) hw⟩)
    | _ => exact (show False from hw).elim
  | _ :: _ :: _, rv, hw => exact (show False from hw).elim
theorem blt_list (hK : X.K = D.K) : CallR X (.type "list") (rdVs D fun vs S Q => wpBlt T .list vs S Q) := by
  intro pins s σ H xs us Q I r h
  obtain ⟨ι, S, vs, Qa, L, rv, hw, c⟩ := h
  match vs, rv, hw with
  | [], rv, hw => exact (show False from hw).elim
  | [a], rv, hw =>
    obtain ⟨ys, e, q⟩ : ∃ ys, itemsOf S a = some ys ∧ Qa (.ref S.length) (S ++ [SO.lst ys]) := hw
    obtain ⟨x, rfl, ra⟩ := rvs1 rv
    obtain ⟨p, ws, rfl, hq, t⟩ := seq_at L e ra
    exact call_list_of pins s σ H _ us Q I r ⟨p, ws, rfl, by rw [hK]; exact hq, fun l hl => c.lst L hl t q⟩
  | _ :: _ :: _, rv, hw => exact (show False from hw).elim
theorem blt_tuple (hK : X.K = D.K) : CallR X (.type "tuple") (rdVs D fun vs S Q => wpBlt T .tuple vs S Q) := by
  intro pins s σ H xs us Q I r h
  obtain ⟨ι, S, vs, Qa, L, rv, hw, c⟩ := h
  match vs, rv, hw with
  | [], rv, hw => exact (show False from hw).elim
  | [a], rv, hw =>
    obtain ⟨ys, e, q⟩ : ∃ ys, itemsOf S a = some ys ∧ Qa (.tup ys) S := hw
    obtain ⟨x, rfl, ra⟩ := rvs1 rv
    obtain ⟨p, ws, rfl, hq, t⟩ := seq_at L e ra
    rcases hq with hq | hq
    · exact call_tuple_of pins s σ H _ us Q I r ⟨p, ws, rfl, .inl ⟨by rw [hK]; exact hq, fun l hl => c.tup L hl t q⟩⟩
    · exact call_tuple_of pins s σ H _ us Q I r ⟨p, ws, rfl, .inr ⟨by rw [hK]; exact hq, c.here L (v := .tup ys) ⟨p, ws, rfl, hq, t⟩ q⟩⟩
  | _ :: _ :: _, rv, hw => exact (show False from hw).elim

/-- a kind's type -/
def Knd.val (D : Ad) : Knd → Value
  | .ty b => .type b.nm
  | .ins c => .ref (D.ca c)
/-- a value's kind, as its type -/
theorem tyx_of (hK : X.K = D.K) {ι : List Addr} {H : Hp} {S : Store} (L : Ly D ι H S) (F : IsF D T) {v : PV} {x : V} {k : Knd} (h : knd S v = some k) (hi : ∀ c, k = .ins c → ∃ cd, T.cls[c]? = some cd) (r : RV D ι H v x) : TyX X.K H x (k.val D) := by
  have sq : ∀ {a : Addr} {vs : List V}, SqL D.K H a vs → TyX X.K H (.ref a) (.type "list") := fun {a vs} q => by
    rw [hK]
    rcases q with (q | ⟨o, q⟩) | ⟨o, its, n, q, e, _⟩
    · exact .base (.lst q)
    · exact .base (.frz q)
    · exact .kList q e
  have st : ∀ {a : Addr} {vs : List V}, SqT D.K H a vs → TyX X.K H (.ref a) (.type "tuple") := fun {a vs} q => by
    rw [hK]
    rcases q with (q | ⟨o, q⟩) | ⟨o, its, n, q, e, _⟩
    · exact .base (.tup q)
    · exact .fTuple q
    · exact .kTuple q e
  cases v with
  | non => cases h; rw [rv_non r]; exact .base .non
  | bl b => cases h; rw [rv_bl r]; exact .base (.bl b)
  | int b => cases h; rw [rv_int r]; exact .base (.int b)
  | str b => cases h; rw [rv_str r]; exact .base (.str b)
  | tup xs =>
    cases h
    obtain ⟨a, vs, rfl, q, _⟩ := rv_tup r
    exact st q
  | scr xs =>
    cases h
    obtain ⟨a, vs, rfl, q, _⟩ := rv_scr r
    exact sq q.list
  | ref i =>
    obtain ⟨a, ha, rfl⟩ := rv_ref r
    cases e : S[i]? with
    | none => simp [knd, e] at h
    | some o =>
      cases o with
      | lst xs =>
        simp only [knd, e] at h
        cases h
        obtain ⟨a', vs, ha', hp, _⟩ := L.lst e
        rw [ha] at ha'; cases ha'
        exact .base (.lst hp)
      | dic kvs =>
        obtain ⟨a', ho, _, _, z⟩ := L.at_ i _ e
        exact (show False from z).elim
      | ins c fs =>
        simp only [knd, e] at h
        cases h
        obtain ⟨a', dx, fs', ha', hp, _⟩ := L.ins e
        rw [ha] at ha'; cases ha'
        obtain ⟨cd, hcd⟩ := hi c rfl
        rw [hK]
        rcases F.hn with hn | hn
        · rw [hn] at hcd; simp at hcd
        · exact .base (.ins hp (F.cl c cd hcd) (F.ha c cd hcd).1 hn.1 hn.2 (F.ha c cd hcd).2)
  | _ => cases h
theorem btSub_kit (K : PySem.W.Frag) : ∀ a b : BT, b ≠ .non → PySem.W.kitOne K (.type a.nm) (.type b.nm) = some (btSub a b) := by
  have h : ∀ a b : BT, b ≠ .non → kitB a.nm b.nm = some (btSub a b) := by
    intro a b
    cases a <;> cases b <;> first
      | (intro h; exact absurd rfl h)
      | (intro _; decide +kernel)
  intro a b hb
  exact kit_ty (h a b hb)
/-- what a class is, as a value -/
def clsVal (D : Ad) : PV → Option Value
  | .ty b => some (.type b.nm)
  | .cls c => some (.ref (D.ca c))
  | _ => .none
theorem isOne_kit (F : IsF D T) {k : Knd} {t : PV} {b : Bool} (h : isOne T k t = some b) : ∃ u, clsVal D t = some u ∧ PySem.W.kitOne D.K (k.val D) u = some b := by
  cases t with
  | ty n =>
    by_cases hn : n = .non
    · subst hn
      cases k <;> cases h
    · cases k with
      | ty a =>
        have h : some (btSub a n) = some b := by cases n <;> first | exact absurd rfl hn | exact h
        cases h
        exact ⟨_, rfl, btSub_kit _ a n hn⟩
      | ins c =>
        have h : ((T.cls[c]?).map fun _ => false) = some b := by cases n <;> first | exact absurd rfl hn | exact h
        cases e : T.cls[c]? with
        | none => rw [e] at h; cases h
        | some cd =>
          rw [e] at h
          cases h
          exact ⟨_, rfl, F.bi c cd n e hn⟩
  | cls d =>
    cases k with
    | ty a =>
      have h : ((T.cls[d]?).map fun _ => false) = some b := h
      cases e : T.cls[d]? with
      | none => rw [e] at h; cases h
      | some cd =>
        rw [e] at h
        cases h
        exact ⟨_, rfl, F.ib d a (by rw [e]; rfl)⟩
    | ins c =>
      have h : ((T.cls[c]?).bind fun cd => (T.cls[d]?).map fun _ => cd.up.contains d) = some b := h
      cases e : T.cls[c]? with
      | none => rw [e] at h; cases h
      | some cd =>
        cases e2 : T.cls[d]? with
        | none => rw [e, e2] at h; cases h
        | some cd2 =>
          rw [e, e2] at h
          cases h
          exact ⟨_, rfl, F.ii c d cd e (by rw [e2]; rfl)⟩
  | _ => cases k <;> cases h
theorem clsVal_rel {ι : List Addr} {H : Hp} {t : PV} {x : V} {u u2 : Value} (e : clsVal D t = some u) (r : RV D ι H t x) (ru : RelV x u2) : u2 = u := by
  cases t with
  | ty n =>
    cases e
    obtain rfl : x = .ty n.nm := r
    exact ru
  | cls c =>
    cases e
    obtain rfl : x = .ref (D.ca c) := r
    exact ru
  | _ => cases e
theorem isAny_kit (F : IsF D T) {k : Knd} {ι : List Addr} {H : Hp} : ∀ {ts : List PV} {xs : List V} {us : List Value} {b : Bool}, isAny T k ts = some b → RVs D ι H ts xs → Vals xs us → PySem.W.kitAny D.K (k.val D) us = some b
  | [], xs, us, b, h, r, ru => by
    rw [show xs = [] from r] at ru
    cases ru
    exact h
  | t :: ts, xs, us, b, h, r, ru => by
    obtain ⟨x, xs', rfl, r1, r2⟩ := r
    cases ru with
    | cons ru1 ru2 =>
      cases e : isOne T k t with
      | none => simp [isAny, e] at h
      | some b1 =>
        obtain ⟨u, e1, e2⟩ := isOne_kit F e
        obtain rfl := clsVal_rel e1 r1 ru1
        refine kitAny_cons e2 (fun z => ?_) fun z => ?_
        · subst z
          simp only [isAny, e] at h
          exact isAny_kit F h r2 ru2
        · subst z
          simp only [isAny, e] at h
          cases h
          rfl
theorem knd_cls {S : Store} {v : PV} {k : Knd} {t : PV} {b : Bool} (h : isOne T k t = some b) : ∀ c, k = .ins c → ∃ cd, T.cls[c]? = some cd := by
  rintro c rfl
  cases e : T.cls[c]? with
  | some cd => exact ⟨cd, rfl⟩
  | none =>
    cases t with
    | ty n => cases n <;> simp [isOne, e] at h
    | cls d => simp [isOne, e] at h
    | _ => cases h
theorem blt_isinst (hK : X.K = D.K) (F : IsF D T) : CallR X (.builtin "isinstance") (rdVs D fun vs S Q => wpBlt T .isinstance vs S Q) := by
  intro pins s σ H xs us Q I r h
  obtain ⟨ι, S, vs, Qa, L, rv, hw, c⟩ := h
  match vs, rv, hw with
  | [], rv, hw => exact (show False from hw).elim
  | [a], rv, hw => exact (show False from hw).elim
  | [a, t], rv, hw =>
    obtain ⟨b, e, q⟩ : ∃ b, isInst T S a t = some b ∧ Qa (.bl b) S := hw
    obtain ⟨x, y, rfl, ra, rt⟩ := rvs2 rv
    obtain ⟨u1, u2, rfl, ru1, ru2⟩ := vals2 r
    have fin : ∀ tk, EP X pins σ Q (.bool b) { s with toks := tk } := fun tk => ⟨.bl b, H, I.tok tk, rfl, c.here L (show RV D ι H (.bl b) (.bl b) from rfl) q⟩
    cases ek : knd S a with
    | none => simp [isInst, ek] at e
    | some k =>
      by_cases ht : ∃ t1 tr, t = .tup (t1 :: tr)
      · obtain ⟨t1, tr, rfl⟩ := ht
        have e : isAny T k (t1 :: tr) = some b := by simpa [isInst, ek] using e
        obtain ⟨p, ws, rfl, hq, tt⟩ := rv_tup rt
        cases (show u2 = Value.ref p from ru2)
        obtain ⟨its, rits, ht, _⟩ := I.tuple (by rw [hK]; exact hq)
        obtain ⟨⟨oc, od, dt, sl⟩, h1, h2, n, h3⟩ := ht
        simp only at h2 h3
        subst h2 h3
        have hi : ∀ c, k = .ins c → ∃ cd, T.cls[c]? = some cd := by
          cases e1 : isOne T k t1 with
          | none => simp [isAny, e1] at e
          | some b1 => exact knd_cls (S := S) (v := a) e1
        obtain ⟨P, Z, pz, hx⟩ := kit_of I ru1 (tyx_of hK L F ek hi ra)
        exact PySem.W.kia_tup Z I.kIn pz h1 (by rw [hK]; exact isAny_kit F e tt rits) hx fin
      · have e : isOne T k t = some b := by
          cases t with
          | tup ts =>
            cases ts with
            | nil => simpa [isInst, ek] using e
            | cons t1 tr => exact absurd ⟨t1, tr, rfl⟩ ht
          | _ => simpa [isInst, ek] using e
        obtain ⟨P, Z, pz, hx⟩ := kit_of I ru1 (tyx_of hK L F ek (knd_cls (S := S) (v := a) e) ra)
        obtain ⟨w, e1, e2⟩ := isOne_kit F e
        obtain rfl := clsVal_rel e1 rt ru2
        exact PySem.W.kia_one Z I.kIn pz (by rw [hK]; exact e2) hx fin
  | _ :: _ :: _ :: _, rv, hw => exact (show False from hw).elim
/-- every built-in that is called without keywords -/
theorem blt_G (hK : X.K = D.K) (hc : X.calm = true) (hg : X.A.guards = some []) (hu : X.A.units + 80 < cLine) (F : IsF D T) (b : Blt) : CallR X b.val (rdVs D fun vs S Q => wpBlt T b vs S Q) := by
  cases b with
  | len => exact blt_seq_len hK
  | sum => exact blt_sum hK hc
  | max => exact blt_max hK hc
  | min => exact blt_min hK hc
  | abs => exact blt_abs
  | int => exact blt_int
  | repr => exact blt_repr hK hg hu
  | list => exact blt_list hK
  | tuple => exact blt_tuple hK
  | isinstance => exact blt_isinst hK F
  | _ =>
    intro pins s σ H xs us Q I r h
    obtain ⟨ι, S, vs, Qa, L, rv, hw, c⟩ := h
    exact (show False from hw).elim
end
end Rp
/-! # The look that holds a text's tree against a resolved one -/
namespace Rp
open PySem PySem.Spec PyProof.Rows L2

mutual
def PV.eqb : PV → PV → Bool
  | .non, .non => true
  | .bl a, .bl b => a == b
  | .int a, .int b => a == b
  | .str a, .str b => a == b
  | .tup a, .tup b => PV.eqbs a b
  | .scr a, .scr b => PV.eqbs a b
  | .ref a, .ref b => a == b
  | .fn a, .fn b => a == b
  | .cls a, .cls b => a == b
  | .ty a, .ty b => a == b
  | _, _ => false
def PV.eqbs : List PV → List PV → Bool
  | [], [] => true
  | x :: xs, y :: ys => PV.eqb x y && PV.eqbs xs ys
  | _, _ => false
end
mutual
theorem PV.eqb_eq : ∀ {a b : PV}, PV.eqb a b = true → a = b
  | .non, b, h => by cases b <;> first | rfl | cases h
  | .bl a, b, h => by cases b <;> first | (rw [eq_of_beq (show (a == _) = true from h)]) | cases h
  | .int a, b, h => by cases b <;> first | (rw [eq_of_beq (show (a == _) = true from h)]) | cases h
  | .str a, b, h => by cases b <;> first | (rw [eq_of_beq (show (a == _) = true from h)]) | cases h
  | .tup a, b, h => by cases b <;> first | (rw [PV.eqbs_eq (show PV.eqbs a _ = true from h)]) | cases h
  | .scr a, b, h => by cases b <;> first | (rw [PV.eqbs_eq (show PV.eqbs a _ = true from h)]) | cases h
  | .ref a, b, h => by cases b <;> first | (rw [eq_of_beq (show (a == _) = true from h)]) | cases h
  | .fn a, b, h => by cases b <;> first | (rw [eq_of_beq (show (a == _) = true from h)]) | cases h
  | .cls a, b, h => by cases b <;> first | (rw [eq_of_beq (show (a == _) = true from h)]) | cases h
  | .ty a, b, h => by cases b <;> first | (rw [eq_of_beq (show (a == _) = true from h)]) | cases h
theorem PV.eqbs_eq : ∀ {a b : List PV}, PV.eqbs a b = true → a = b
  | [], b, h => by cases b <;> first | rfl | cases h
  | x :: xs, b, h => by
    cases b with
    | nil => cases h
    | cons y ys =>
      have h' : (PV.eqb x y && PV.eqbs xs ys) = true := h
      rw [Bool.and_eq_true] at h'
      rw [PV.eqb_eq h'.1, PV.eqbs_eq h'.2]
end
def arrB : List (Nat ⊕ PV) → List (Nat ⊕ PV) → Bool
  | [], [] => true
  | .inl i :: r, .inl j :: s => i == j && arrB r s
  | .inr v :: r, .inr w :: s => PV.eqb v w && arrB r s
  | _, _ => false
theorem arrB_eq : ∀ {a b : List (Nat ⊕ PV)}, arrB a b = true → a = b
  | [], [], _ => rfl
  | [], _ :: _, h => by cases h
  | .inl i :: r, [], h => by cases h
  | .inr i :: r, [], h => by cases h
  | .inl i :: r, .inl j :: s, h => by
    have h' : (i == j && arrB r s) = true := h
    rw [Bool.and_eq_true] at h'
    rw [eq_of_beq h'.1, arrB_eq h'.2]
  | .inr v :: r, .inr w :: s, h => by
    have h' : (PV.eqb v w && arrB r s) = true := h
    rw [Bool.and_eq_true] at h'
    rw [PV.eqb_eq h'.1, arrB_eq h'.2]
  | .inl i :: r, .inr j :: s, h => by cases h
  | .inr i :: r, .inl j :: s, h => by cases h

/-- one way in which a def is called: how many are written by place, the names of the others, how the parameters (but a method's own first one) are filled -/
structure Shape where
  f : Nat
  m : Bool
  np : Nat
  ks : List String
  arr : List (Nat ⊕ PV)
/-- the names of a text's top -/
structure Nm where
  gf : List (String × Nat)
  gc : List (String × Nat)
  gv : List (String × PV)
  nb : List String
  fl : List String
  shapes : List Shape
def Shape.is (s : Shape) (f : Nat) (m : Bool) (np : Nat) (ks : List String) (arr : List (Nat ⊕ PV)) : Bool := s.f == f && s.m == m && s.np == np && s.ks == ks && arrB s.arr arr
def Nm.has (M : Nm) (f : Nat) (m : Bool) (np : Nat) (ks : List String) (arr : List (Nat ⊕ PV)) : Bool := M.shapes.any fun s => s.is f m np ks arr
theorem Nm.has_mem {M : Nm} {f : Nat} {m : Bool} {np : Nat} {ks : List String} {arr : List (Nat ⊕ PV)} (h : M.has f m np ks arr = true) : (⟨f, m, np, ks, arr⟩ : Shape) ∈ M.shapes := by
  obtain ⟨s, hs, e⟩ := List.any_eq_true.mp h
  unfold Shape.is at e
  simp only [Bool.and_eq_true, beq_iff_eq] at e
  obtain ⟨⟨⟨⟨e1, e2⟩, e3⟩, e4⟩, e5⟩ := e
  have e5 := arrB_eq e5
  obtain ⟨f', m', np', ks', arr'⟩ := s
  simp only at e1 e2 e3 e4 e5
  subst e1 e2 e3 e4 e5
  exact hs

/-- where a tree stands: the places of the names, the scope, whether every cell is the def's own -/
structure Sc where
  N : List Str
  sc : Scope
  all : Bool
def Sc.vis (c : Sc) (x : Str) : Bool := match c.sc.names.lookup x with
  | some .local => true
  | some .cell => true
  | some .free => true
  | _ => false
def Sc.gl (c : Sc) (x : Str) : Bool := match c.sc.names.lookup x with
  | some .globalImplicit => true
  | _ => false
def Sc.lcl (c : Sc) (x : Str) : Bool := match c.sc.names.lookup x with
  | some .local => true
  | _ => false
/-- a name that may be stored -/
def Sc.put (c : Sc) (x : Str) : Bool := match c.sc.names.lookup x with
  | some .local => true
  | some .cell => c.all
  | _ => false
def strB (a b : Str) : Bool := decide (a = b)
def okName (c : Sc) (i : Nat) (x : Str) : Bool := decide (c.N[i]? = some x) && c.vis x && !(x == ("__debug__" : Str)) && !(x == ("__classdict__" : Str))
def okPut (c : Sc) (i : Nat) (x : Str) : Bool := decide (c.N[i]? = some x) && c.put x
def okGl (c : Sc) (s : String) (x : Str) : Bool := strB (sN s) x && c.gl x && !(x == ("__debug__" : Str)) && !(x == ("__name__" : Str))
def okConst : PV → Const → Bool
  | .non, .none => true
  | .bl a, .bool b => a == b
  | .int a, .int b => a == b
  | .str a, .str b => strB a b
  | _, _ => false
def noStar : List Expr → Bool
  | [] => true
  | .Starred .. :: _ => false
  | _ :: r => noStar r
def notSuper : Expr → Bool
  | .Call (.Name x _) [] [] _ => !(x == ("super" : Str))
  | _ => true
def isSlice : Expr → Bool
  | .Slice .. => true
  | _ => false
/-- a walk over a set display would be folded -/
def noSet : Expr → Bool
  | .Set .. => false
  | _ => true
def namesOf : List Keyword → List (Option Str)
  | [] => []
  | ⟨n, _, _⟩ :: r => n :: namesOf r

def REs.len : REs → Nat
  | .nil => 0
  | .cons _ r => r.len + 1

def relSc (c : Sc) (scope : Scope) : Sc := ⟨c.N, relS scope c.sc, false⟩
/-- a comprehension's own names, by their places -/
def ownOf (N : List Str) : List Nat → List (Str × Nat)
  | [] => []
  | i :: r => (N.getD i default, i) :: ownOf N r

mutual
/-- all the names of a target are among these places -/
def tgIn : RT → List Nat → Bool
  | .name i, vs => vs.contains i
  | .tup ts, vs => tgsIn ts vs
  | .sub .., _ => true
  | .fld .., _ => true
def tgsIn : RTs → List Nat → Bool
  | .nil, _ => true
  | .cons t ts, vs => tgIn t vs && tgsIn ts vs
  | .star i, vs => vs.contains i
end
def noStarT : List Expr → Bool
  | [] => true
  | .Starred .. :: _ => false
  | _ :: r => noStarT r
/-- no comprehension -/
def noComp : Expr → Bool
  | .ListComp .. => false
  | .SetComp .. => false
  | .DictComp .. => false
  | _ => true
def isNm : Expr → Bool
  | .Name .. => true
  | _ => false
/-- the value is not stored within its making -/
def noSwap (t e : Expr) : Bool := noComp e || !isNm t
/-- the stores are not exchanged -/
def swapNames (sc : Scope) (ts : List Expr) : List Str := ts.filterMap fun
  | .Name id pos => if sc.names.lookup id == some .local && pos.line == (ts.head?.map (·.pos.line)).getD 0 then some id else none
  | _ => none
def noExch (sc : Scope) (t e : Expr) : Bool := match t, e with
  | .Tuple ts _ _, .Tuple vs _ _ => !(ts.length == 2 || ts.length == 3) || vs.all (foldedForSure 8) || (swapNames sc ts).length != ts.length
  | .List _ _, .Tuple _ _ _ => false
  | _, _ => true
def parB (c : Sc) (x y : Str) (px py : Pos) (vs : List Expr) : Bool :=
  c.lcl x && c.lcl y && (py.line == px.line) && !(x == y) && noStar vs && !(vs.all (foldedForSure 8)) && !(vs.all (constantsAlone 8))
def isTup : Expr → Bool
  | .Tuple .. => true
  | _ => false
/-- pairs are handed to a tuple of targets -/
def tupIt : RI → Expr → Bool
  | .enum _, t => isTup t
  | .zip .., t => isTup t
  | _, _ => true

def isYes : Expr → Bool
  | .Constant (.bool true) _ _ => true
  | _ => false
def zipKw : Bool → List Keyword → Bool
  | false, ks => ks.isEmpty
  | true, [⟨k, v, _⟩] => decide (k = some (sN "strict")) && isYes v
  | true, _ => false
def stepOk (st : Int) : Expr → Bool
  | .Constant (.int k) _ _ => decide (k = st) && decide (k ≠ 0)
  | .UnaryOp .USub (.Constant (.int k) _ _) _ => decide (-k = st) && decide (k ≠ 0)
  | _ => false
/-- range's one argument -/
def rngArg : Expr → Option (Str × Expr)
  | .Call (.Name y _) [e] [] _ => some (y, e)
  | _ => .none
mutual
def okE (M : Nm) (T : Tab) : Sc → RE → Expr → Bool
  | c, .loc i, .Name x _ => okName c i x
  | c, .const v, .Constant k _ _ => okConst v k
  | c, .glob s v, .Name x _ => okGl c s x && M.gv.any fun p => p.1 == s && PV.eqb p.2 v
  | c, .bin op a b, .BinOp l o r _ => decide (o = op) && okE M T c a l && okE M T c b r
  | c, .neg a, .UnaryOp .USub e _ => okE M T c a e
  | c, .cmp op a b, .Compare l [o] [r] _ => decide (o = op) && !behindInMarks op r && okE M T c a l && okE M T c b r
  | c, .chain op op' a b d, .Compare l [o, o'] [r, t] _ => decide (o = op) && decide (o' = op') && !lastMarks [op, op'] [r, t] && okE M T c a l && okE M T c b r && okE M T c d t
  | c, .and es, .BoolOp .And vs _ => okEs M T c es vs
  | c, .or es, .BoolOp .Or vs _ => okEs M T c es vs
  | c, .not a, .UnaryOp .Not e _ => okE M T c a e
  | c, .ite d a b, .IfExp t x y _ => okE M T c d t && okE M T c a x && okE M T c b y
  | c, .tup es, .Tuple vs _ _ => okEs M T c es vs && noStar vs && decide (vs.length ≤ 1000)
  | c, .lst es, .List vs _ => okEs M T c es vs && noStar vs && decide (vs.length ≤ 1000)
  | c, .call f s es ks kes arr, .Call (.Name x _) as kws _ => okGl c s x && M.gf.any (fun p => p.1 == s && p.2 == f) && okEs M T c es as && noStar as && okKs M T c kes kws && decide (namesOf kws = ks.map fun k => some (sN k)) && (kws.isEmpty || !as.isEmpty) && M.has f false as.length ks arr
  | c, .make d s es ks kes arr, .Call (.Name x _) as kws _ => okGl c s x && M.gc.any (fun p => p.1 == s && p.2 == d) && okEs M T c es as && noStar as && okKs M T c kes kws && decide (namesOf kws = ks.map fun k => some (sN k)) && (kws.isEmpty || !as.isEmpty) &&
      (match (T.cls[d]?).bind (·.ini) with
        | some f => M.has f true as.length ks arr
        | .none => false)
  | c, .blt b es, .Call (.Name x _) as [] _ => okGl c b.nm x && M.nb.any (· == b.nm) && okEs M T c es as && noStar as && !as.isEmpty
  | c, .bltK b es ks kes, .Call (.Name x _) as kws _ => decide (b = .max) && okGl c b.nm x && M.nb.any (· == b.nm) && okEs M T c es as && noStar as && !as.isEmpty && okKs M T c kes kws && decide (namesOf kws = ks.map fun k => some (sN k))
  | c, .meth o m b es ks kes arr, .Call (.Attribute e x apos) as kws pos => strB (sN m) x && notSuper e && (apos.endLine == pos.line) && okE M T c o e && okEs M T c es as && noStar as && okKs M T c kes kws && decide (namesOf kws = ks.map fun k => some (sN k)) && (kws.isEmpty || !as.isEmpty) &&
      decide (as.length + kws.length < 20) && (T.cls.all fun d => match d.ms.lookup m with
        | some f => M.has f true as.length ks arr
        | .none => true) && (match b with
        | some b' => b'.nm == m && kws.isEmpty
        | .none => true)
  | c, .fld o f, .Attribute e x _ => strB (sN f) x && notSuper e && M.fl.contains f && okE M T c o e
  | c, .sub o i, .Subscript e k _ => !isSlice k && okE M T c o e && okE M T c i k
  | c, .slice o lo hi .none, .Subscript e (.Slice l h .none _) _ => okE M T c o e && okO M T c lo l && okO M T c hi h
  | c, .slice o .none .none (some _), .Subscript e (.Slice .none .none (some (.UnaryOp .USub (.Constant (.int k) _ _) _)) _) _ => k == 1 && okE M T c o e
  | c, .step o st, .Subscript e (.Slice .none .none (some k) _) _ => stepOk st k && okE M T c o e
  | c, .eqO neg a b, .Compare l [o] [r] _ => decide (o = if neg = true then .NotEq else .Eq) && !behindInMarks o r && okE M T c a l && okE M T c b r && T.cls.all fun d => match d.ms.lookup "__eq__" with
    | some f => M.has f true 1 [] [.inl 0]
    | .none => true
  | c, .lenR a, .Call (.Name x _) [r] [] _ => okGl c "len" x && M.nb.any (· == "len") && M.nb.any (· == "range") && (match rngArg r with
    | some (y, e) => okGl c "range" y && okE M T c a e && noStar [e]
    | .none => false)
  | c, .bltO b a, .Call (.Name x _) [e] [] _ => decide (b = .len) && okGl c b.nm x && M.nb.any (· == b.nm) && okE M T c a e && noStar [e] && T.cls.all fun d => match d.ms.lookup "__len__" with
    | some f => M.has f true 0 [] []
    | .none => true
  | c, .gty n, .Name x _ => okGl c n.nm x && decide (n ≠ .non) && M.nb.any (· == n.nm)
  | c, .lc elt tg it ifs own, .ListComp e [⟨t, i, fs, z⟩] scope _ => z == 0 && blkC c.N c.sc scope (ownOf c.N own) && tgIn tg own && tupIt it t && noSet i && okI M T c it i && okT M T (relSc c scope) tg t && okEs M T (relSc c scope) ifs fs && okE M T (relSc c scope) elt e
  | _, _, _ => false
def okEs (M : Nm) (T : Tab) : Sc → REs → List Expr → Bool
  | _, .nil, [] => true
  | c, .cons r rs, e :: es => okE M T c r e && okEs M T c rs es
  | _, _, _ => false
def okKs (M : Nm) (T : Tab) : Sc → REs → List Keyword → Bool
  | _, .nil, [] => true
  | c, .cons r rs, ⟨_, e, _⟩ :: es => okE M T c r e && okKs M T c rs es
  | _, _, _ => false
def okO (M : Nm) (T : Tab) : Sc → RO → Option Expr → Bool
  | _, .none, .none => true
  | c, .some r, .some e => okE M T c r e
  | _, _, _ => false
def okI (M : Nm) (T : Tab) : Sc → RI → Expr → Bool
  | c, .val r, e => okE M T c r e
  | c, .range es, .Call (.Name x _) as [] _ => okGl c "range" x && M.nb.any (· == "range") && okEs M T c es as && noStar as && (as.length == 1 || as.length == 2)
  | c, .enum r, .Call (.Name x _) [a] [] _ => okGl c "enumerate" x && M.nb.any (· == "enumerate") && okE M T c r a && noStar [a]
  | c, .zip r r' st, .Call (.Name x _) [a, b] kws _ => okGl c "zip" x && M.nb.any (· == "zip") && okE M T c r a && okE M T c r' b && noStar [a, b] && zipKw st kws
  | _, _, _ => false
def okT (M : Nm) (T : Tab) : Sc → RT → Expr → Bool
  | c, .name i, .Name x _ => okPut c i x
  | c, .tup (.cons (.name i) (.star j)), .Tuple [.Name x _, .Starred (.Name y _) _] _ _ => okPut c i x && okPut c j y
  | c, .tup ts, .Tuple es _ _ => okTs M T c ts es && noStarT es
  | c, .sub o i, .Subscript e k _ => !isSlice k && okE M T c o e && okE M T c i k
  | _, _, _ => false
def okTs (M : Nm) (T : Tab) : Sc → RTs → List Expr → Bool
  | _, .nil, [] => true
  | c, .cons t ts, e :: es => okT M T c t e && okTs M T c ts es
  | _, _, _ => false
end

def parS (c : Sc) (is : List Nat) (t v : Expr) : Bool := match is, t, v with
  | [i, j], .Tuple [.Name x px, .Name y py] _ _, .Tuple [a, b] _ _ => decide (c.N[i]? = some x) && decide (c.N[j]? = some y) && !(i == j) && parB c x y px py [a, b]
  | _, _, _ => false
def tupOf : Expr → List Expr
  | .Tuple vs _ _ => vs
  | _ => []

mutual
def okS (M : Nm) (T : Tab) : Sc → RS → Stmt → Bool
  | c, .asg (.fld o f) r, .Assign [.Attribute e x p] v _ => strB (sN f) x && M.fl.contains f && noSwap (.Attribute e x p) v && okE M T c o e && okE M T c r v
  | c, .asg t r, .Assign [tg] v _ => okT M T c t tg && noStarT [tg] && noSwap tg v && noExch c.sc tg v && okE M T c r v
  | c, .setlc i elt tg it ifs own, .Assign [.Name y py] (.ListComp el gs scope p2) _ => decide (c.N[i]? = some y) && c.lcl y && (py.line == p2.line) && !(scope.names.any fun (n, k) => n == y && (k == .local || k == .cell)) && okE M T c (.lc elt tg it ifs own) (.ListComp el gs scope p2)
  | c, .asg2 t u r, .Assign [t1, t2] v _ => okT M T c t t1 && okT M T c u t2 && noStarT [t1, t2] && okE M T c r v
  | c, .par is es, .Assign [t] v _ => parS c is t v && okEs M T c es (tupOf v)
  | c, .aug i op r, .AugAssign (.Name x _) op' v _ => decide (op' = op) && okPut c i x && okE M T c r v
  | c, .augF o f op r, .AugAssign (.Attribute e x _) op' v _ => decide (op' = op) && strB (sN f) x && M.fl.contains f && okE M T c o e && okE M T c r v
  | c, .expr r, .Expr v _ => noComp v && okE M T c r v
  | _, .doc, .Expr (.Constant (.str _) _ _) _ => true
  | c, .ret r, .Return (some v) _ => okE M T c r v
  | _, .retN, .Return none _ => true
  | c, .ife r a b, .If v x y _ => okE M T c r v && okSs M T c a x && okSs M T c b y
  | c, .whl r a, .While v x [] _ => okE M T c r v && okSs M T c a x
  | c, .for_ t it a, .For tg iter x [] _ => tupIt it tg && noSet iter && okI M T c it iter && okT M T c t tg && okSs M T c a x
  | _, .brk, .Break _ => true
  | _, .cont, .Continue _ => true
  | _, .pass, .Pass _ => true
  | _, _, _ => false
def okSs (M : Nm) (T : Tab) : Sc → RSs → List Stmt → Bool
  | _, .nil, [] => true
  | c, .cons r rs, s :: ss => okS M T c r s && okSs M T c rs ss
  | _, _, _ => false
end
end Rp
/-! # Contracts of defs over the store; the calls -/
namespace Rp
open PySem PySem.Spec PyProof.Rows L2

/-- where the defs stand -/
structure Fd where
  fd : Nat → FuncData

/-- a def keeps a promise wherever no guard runs -/
structure GFn (P : Program) (w : World) (K : PySem.W.Frag) (mg : Str → Option Value) (base : Heap) (lv : Nat) (f : Addr) (fd : FuncData) (ps : List Str) (sp : Sp) : Prop where
  len : ∀ vs H Q E, sp vs H Q E → vs.length = ps.length
  run : ∀ (A : Around) (outer : List Env) (s : Shared) (H : Hp) (args : Args) (us : List Value) (vs : List V) (Q : VK) (E : XK), Room lv A → A.guards = some [] →
    Env0 P w K mg base A outer s H → BindsTo s fd args (ps.zip us) → Vals vs us → sp vs H Q E →
      codeAny (model P w) A (.call (.ref f) args) (CR (L2.CX P w) outer P w H s Q E) s

section
variable {P : Program} {w : World} {K : PySem.W.Frag} {mg : Str → Option Value} {base : Heap}
/-- the contract by the def's body -/
theorem gfn_of {lv : Nat} {f : Addr} {nm qual : Str} {params : Arguments} {body : List Stmt} {scope : Scope} {dV kV doc pm cdv ct oc : Value} {an od : Option Addr} {osl : Array (Option Value)} {N ps : List Str} {sp : Sp}
    (lk : K.lookup f = some ⟨oc, od, .func (PySem.W.fnOf nm qual params body scope dV kV doc pm an cdv ct), osl⟩) (code : PySem.W.codeIn K cdv qual = true)
    (S : FnScope N ps scope) (len : ∀ vs H Q E, sp vs H Q E → vs.length = ps.length)
    (bod : ∀ (A : Around) (outer : List Env) (s : Shared) (H : Hp) (vs : List V) (Q : VK) (E : XK), Room lv (A.deeper (envOfC qual scope s.heap.objs.size f cdv)) → A.guards = some [] → sp vs H Q E →
      ∃ t, PSs (cxOf (L2.CX P w) P w K mg base N qual scope f cdv A outer s H E) body t ∧ t { nx := fun _ H' => Q .non H', rt := Q } (start N vs) H) :
    GFn P w K mg base (lv + 1) f (PySem.W.fnOf nm qual params body scope dV kV doc pm an cdv ct) ps sp := by
  refine ⟨len, fun A outer s H args us vs Q E room grd e0 bd rv hs => ?_⟩
  have hl := len _ _ _ _ hs
  have kept : ∀ b o, base.get? b = some o → s.heap.get? b = some o := fun b o z => (e0.bs b o z).1
  have KI : K.In s.heap := e0.mod.kin.keeps kept
  have nolim : s.heap.NoLimit := e0.mod.nolimit.keeps kept
  have kinds : ∀ y ∈ ps.zip us, scope.names.lookup y.1 = some .local ∨
      (scope.names.lookup y.1 = some .cell ∧ ((cellsFrom (s.heap.objs.size + 1) scope.names []).lookup y.1).isSome = true) := by
    rintro ⟨n, v⟩ hy
    have q := S.par n (List.of_mem_zip hy).1
    cases q with
    | inl q => exact .inl q
    | inr q => exact .inr ⟨q, PySem.W.cellsFrom_some _ _ _ (.inl q)⟩
  refine codeAny_call_function room.depth (KI _ _ lk) rfl S.co S.gen rfl (PySem.W.codeRec_of KI code) (bd _ _ _ _ ?_)
  refine wpAny_newFunctionEnv_cells S.kind kinds fun env he s1 x => ?_
  subst he
  refine ⟨nolim.keeps x.toInCall.keep, codeAny_func ?_⟩
  obtain ⟨t, ht, hq⟩ := bod A outer s H vs Q E (room.deeper _) grd hs
  have J := inv_start (CX := L2.CX P w) (E := E) S room.hd e0 hl rv x
  refine wpAny_mono (ht.run [] s1 (start N vs) H _ J hq) (fun fl s' h => ?_) fun e s' h => h
  cases fl with
  | ret u =>
    obtain ⟨v, σ', H', J', r', q⟩ := h
    exact ⟨v, H', J'.os, J'.bare, J'.base, J'.hok, r', q⟩
  | next =>
    obtain ⟨σ', H', J', q⟩ := h
    exact ⟨V.non, H', J'.os, J'.bare, J'.base, J'.hok, rfl, q⟩
  | brk => exact (let ⟨_, _, _, q⟩ := h; False.elim q)
  | cont => exact (let ⟨_, _, _, q⟩ := h; False.elim q)
theorem GFn.mono {j k : Nat} {f : Addr} {fd : FuncData} {ps : List Str} {sp : Sp} (F : GFn P w K mg base j f fd ps sp) (h : j ≤ k) : GFn P w K mg base k f fd ps sp :=
  ⟨F.len, fun A outer s H args us vs Q E r g => F.run A outer s H args us vs Q E (r.mono h) g⟩
end

section
variable {X : Cx} {pins : List (Addr × Obj)} {σ : L2.St} {H : Hp} {s : Shared} {Q : VK} {W : WX}
/-- a def runs, from another one's body -/
theorem run_g {lv : Nat} {f : Addr} {fd : FuncData} {ps : List Str} {sp : Sp} {vs : List V} {us ps' : List Value} {kw : List (Str × Value)} (F : GFn X.prog X.w X.K X.mg X.base lv f fd ps sp) (hr : Room lv X.A) (hg : X.A.guards = some []) (tk : Takes X W) (I : Inv X pins σ H s)
    (r : Vals vs us) (b : BindsTo s fd ⟨ps', kw⟩ (ps.zip us)) (h : sp vs H Q (WE W σ)) : wpAny (model X.prog X.w) X.A (call (.ref f) ps' kw) (EP X pins σ Q) X.xe s := by
  refine wpAny_call (codeAny_mono (F.run X.A X.stack s H ⟨ps', kw⟩ us vs Q (WE W σ) hr hg I.env0 b r h) fun res s' hq => ?_)
  match res, hq with
  | .error e, hq => exact passAt tk σ pins H s e s' I hq
  | .ok (.ret u), hq => exact I.after hq
  | .ok .next, hq => exact False.elim hq
  | .ok .brk, hq => exact False.elim hq
  | .ok .cont, hq => exact False.elim hq
/-- an instance is made: a new one, then its __init__ -/
theorem run_gmake {lv : Nat} {f C : Addr} {fd : FuncData} {ps : List Str} {sp : Sp} {vs : List V} {us ps' : List Value} {kw : List (Str × Value)} (M : Mk X.K C f) (F : GFn X.prog X.w X.K X.mg X.base lv f fd ps sp) (hr : Room (lv + 1) X.A) (hg : X.A.guards = some []) (tk : Takes X W)
    (I : Inv X pins σ H s) (r : Vals vs us) (b : ∀ (h : Shared) (self : Value), X.K.In h.heap → BindsTo h fd ⟨self :: ps', kw⟩ (ps.zip (self :: us)))
    (h : ∀ x dx, H x = none → H dx = none → dx ≠ x → sp (.ref x :: vs) (upd (upd H dx (.own x)) x (.ins C dx [])) (fun v H2 => v = .non ∧ Q (.ref x) H2) (WE W σ)) :
    wpAny (model X.prog X.w) X.A (call (.ref C) ps' kw) (EP X pins σ Q) X.xe s := by
  have h1 := h (s.heap.objs.size + 1) s.heap.objs.size (I.hok.fresh (Nat.le_succ _)) (I.hok.fresh (Nat.le_refl _)) (Nat.ne_of_lt (Nat.lt_succ_self _))
  have J := Inv.made (C := C) I
  have rv : Vals (V.ref (s.heap.objs.size + 1) :: vs) (Value.ref (s.heap.objs.size + 1) :: us) := .cons rfl r
  have step := F.run _ X.stack _ _ ⟨Value.ref (s.heap.objs.size + 1) :: ps', kw⟩ _ _ _ (WE W σ) (hr.make C ps' kw) (show (X.A.under (.builtin "type.__call__" ⟨.ref C :: ps', kw⟩)).guards = some [] from by
    first
      | exact hg
      | (simpa [Around.under, Code.guards, Code.isGuard, pushGuards, guardIds] using hg)) (J.env0.make C ps' kw) (b _ _ J.kIn) rv h1
  refine wpAny_call (make_map (f := f) I.kIn M.makes M.init (beq_iff_eq.mp M.fn) (codeAny_mono step fun res s' hq => ?_))
  match res, hq with
  | .error e, hq => exact passAt tk σ pins _ _ e s' J hq
  | .ok (.ret u), hq =>
    obtain ⟨v, H', I3, rv3, ev, q3⟩ := J.after hq
    subst ev
    exact ⟨rv3, ⟨V.ref (s.heap.objs.size + 1), H', I3, rfl, q3⟩⟩
  | .ok .next, hq => exact False.elim hq
  | .ok .brk, hq => exact False.elim hq
  | .ok .cont, hq => exact False.elim hq
end

/-! ### how parameters are filled -/
def fillV : List (Nat ⊕ PV) → List Value → List Value → List Value
  | .inl j :: r, _ :: ds, us => us.getD j .none :: fillV r ds us
  | .inr _ :: r, d :: ds, us => d :: fillV r ds us
  | _, _, _ => []
/-- the values of the defaults -/
def DfOk (D : Ad) : List (Nat ⊕ PV) → List Value → Prop
  | [], ds => ds = []
  | .inl _ :: r, ds => ∃ d ds', ds = d :: ds' ∧ DfOk D r ds'
  | .inr v :: r, ds => ∃ d ds', ds = d :: ds' ∧ (∃ x, RelV x d ∧ ∀ ι H, RV D ι H v x) ∧ DfOk D r ds'
theorem fill_rel {D : Ad} {ι : List Addr} {H : Hp} {vs : List PV} {xs : List V} {us : List Value} (r : RVs D ι H vs xs) (rx : Vals xs us) :
    ∀ (arr : List (Nat ⊕ PV)) (dv : List Value), DfOk D arr dv → ∃ ys, RVs D ι H (fill arr vs) ys ∧ Vals ys (fillV arr dv us)
  | [], ds, h => ⟨[], .nil, by cases ds <;> exact .nil⟩
  | .inl j :: arr, ds, h => by
    obtain ⟨d, ds', rfl, h⟩ := h
    obtain ⟨ys, a, b⟩ := fill_rel r rx arr ds' h
    cases e : vs[j]? with
    | some v =>
      obtain ⟨x, ex, rv⟩ := r.get e
      obtain ⟨u, eu, ru⟩ := rx.get ex
      refine ⟨x :: ys, .cons (show RV D ι H (vs.getD j .non) x from ?_) a, .cons (show RelV x (us.getD j .none) from ?_) b⟩
      · rw [List.getD_eq_getElem?_getD, e]; exact rv
      · rw [List.getD_eq_getElem?_getD, eu]; exact ru
    | none =>
      have l1 := List.getElem?_eq_none_iff.mp e
      have l2 := r.len
      have l3 := rx.length
      refine ⟨.non :: ys, .cons (show RV D ι H (vs.getD j .non) .non from ?_) a, .cons (show RelV .non (us.getD j .none) from ?_) b⟩
      · rw [List.getD_eq_getElem?_getD, e]; rfl
      · rw [List.getD_eq_getElem?_getD, List.getElem?_eq_none (by omega)]; rfl
  | .inr v :: arr, ds, h => by
    obtain ⟨d, ds', rfl, ⟨x, rx', rv⟩, h⟩ := h
    obtain ⟨ys, a, b⟩ := fill_rel r rx arr ds' h
    exact ⟨x :: ys, .cons (rv ι H) a, .cons rx' b⟩

/-- a way of calling binds so -/
def ShOk (D : Ad) (F : Fd) (s : Shape) (d : FDef) : Prop := ∃ dv : List Value, DfOk D s.arr dv ∧ ∀ (h : Shared) (self : Value) (us : List Value), D.K.In h.heap → us.length = s.np + s.ks.length →
  BindsTo h (F.fd s.f) ⟨(if s.m = true then [self] else []) ++ us.take s.np, (s.ks.map sN).zip (us.drop s.np)⟩ (((d.N.map sN).take d.np).zip ((if s.m = true then [self] else []) ++ fillV s.arr dv us))

/-- what a def promises, by the calls' wish C -/
def spC (D : Ad) (C : CS) (f : Nat) : Sp := fun xs H Q E => ∃ ι S vs Qa Ra, Ly D ι H S ∧ RVs D ι H vs xs ∧ C f vs S Qa Ra ∧ Cnt D ι H Qa Q ∧ CnX D ι H Ra [] (fun cls d _ H' => E cls d H')

/-- the text's top, as the table has it -/
structure Lk (P : Program) (w : World) (D : Ad) (F : Fd) (mg : Str → Option Value) (base : Heap) (T : Tab) (M : Nm) (fl : List String) (C : CS) (lv : Nat) : Prop where
  inn : ∀ f vs S Q R, C f vs S Q R → ∃ d, T.fns[f]? = some d
  fn : ∀ f d, T.fns[f]? = some d → GFn P w D.K mg base lv (D.fa f) (F.fd f) ((d.N.map sN).take d.np) (spC D C f)
  gf : ∀ x f, (x, f) ∈ M.gf → mg (sN x) = some (.ref (D.fa f)) ∧ PySem.W.keepIn D.K (.ref (D.fa f)) = true
  gc : ∀ x c, (x, c) ∈ M.gc → mg (sN x) = some (.ref (D.ca c)) ∧ ∀ f, (T.cls[c]?).bind (·.ini) = some f → Mk D.K (D.ca c) (D.fa f)
  gv : ∀ x v, (x, v) ∈ M.gv → ∃ u y, mg (sN x) = some u ∧ RelV y u ∧ ∀ ι H, RV D ι H v y
  nb : ∀ x ∈ M.nb, mg (sN x) = none
  sh : ∀ s ∈ M.shapes, ∀ d, T.fns[s.f]? = some d → ShOk D F s d
  ms : ∀ c cd, T.cls[c]? = some cd → Cls D.K (D.ca c) ∧ (∀ m f, cd.ms.lookup m = some f → Meth D.K (D.ca c) (sN m) (D.fa f)) ∧ ∀ g ∈ fl, NoAttr D.K (D.ca c) (sN g)
  is : IsF D T

/-! ### rows of trees without a star -/
theorem noStar_each : ∀ {es : List Expr} {env : Env}, noStar es = true → starEach es env = es.map fun e => (false, eval e env)
  | [], _, _ => rfl
  | e :: es, env, h => by
    cases e <;> first
      | (cases h)
      | (show (false, _) :: starEach es env = _ :: es.map _; rw [noStar_each (show noStar es = true from h)])
theorem noStar_cons {e : Expr} {es : List Expr} {env : Env} (h : noStar (e :: es) = true) : starEach (e :: es) env = (false, eval e env) :: starEach es env ∧ noStar es = true := by
  have hr : noStar es = true := by cases e <;> first | exact h | cases h
  exact ⟨by rw [noStar_each h, noStar_each hr]; rfl, hr⟩
theorem noStar_any {es : List Expr} {env : Env} {pos : Pos} (h : noStar es = true) : (backTo pos (starEach es env)).any (·.1) = false := by
  rw [noStar_each h]
  unfold backTo
  induction es with
  | nil => rfl
  | cons e es ih =>
    have := ih (noStar_cons (env := env) h).2
    simpa using this
theorem noStar_all {es : List Expr} {env : Env} {pos : Pos} (h : noStar es = true) : (backTo pos (starEach es env)).all (fun x => !x.1) = true := by
  rw [noStar_each h]
  unfold backTo
  simp
theorem kw_names : ∀ {kws : List Keyword} {ks : List String} {env : Env} {pos : Pos}, namesOf kws = ks.map (fun k => some (sN k)) →
    (backToKw pos (keywordEach kws env)).all (·.1.isSome) = true ∧ (backToKw pos (keywordEach kws env)).filterMap (·.1) = ks.map sN ∧ (backToKw pos (keywordEach kws env)).any (·.1.isNone) = false
  | [], [], _, _, _ => ⟨rfl, rfl, rfl⟩
  | [], _ :: _, _, _, h => by cases h
  | ⟨n, v, p⟩ :: kws, [], _, _, h => by cases h
  | ⟨n, v, p⟩ :: kws, k :: ks, env, pos, h => by
    have h' : n :: namesOf kws = some (sN k) :: ks.map (fun k => some (sN k)) := h
    injection h' with h1 h2
    subst h1
    obtain ⟨a, b, c⟩ := kw_names (env := env) (pos := pos) h2
    refine ⟨?_, ?_, ?_⟩
    · show (true && (backToKw pos (keywordEach kws env)).all _) = true
      rw [a] <;> rfl
    · show sN k :: (backToKw pos (keywordEach kws env)).filterMap (·.1) = _
      rw [b] <;> rfl
    · show (false || (backToKw pos (keywordEach kws env)).any _) = false
      rw [c] <;> rfl
end Rp
/-! # The wish of a tree is enough: expressions, one by one -/
namespace Rp
open PySem PySem.Spec PyProof.Rows L2

def rdE (D : Ad) (T : Tab) (C : CS) (W : WX) (r : RE) : TE := fun σc H Q => ∃ ι S σ Qa Ra, Ly D ι H S ∧ RG D ι H σ σc ∧ wpE T C r σ S Qa Ra ∧ Cnt D ι H Qa Q ∧ CnX D ι H Ra σc W
/-- the wish behind a test -/
def CnB (D : Ad) (ι : List Addr) (H : Hp) (Qb : Bool → Store → Prop) (Q : Bool → Hp → Prop) : Prop := ∀ ι' S' H' k, Ext ι H ι' H' → Ly D ι' H' S' → Qb k S' → Q k H'
theorem CnB.ext {D : Ad} {ι ι' : List Addr} {H H' : Hp} {Qb : Bool → Store → Prop} {Q : Bool → Hp → Prop} (c : CnB D ι H Qb Q) (e : Ext ι H ι' H') : CnB D ι' H' Qb Q := fun ι2 S2 H2 k e2 l q => c ι2 S2 H2 k (e.trans e2) l q
def rdT (D : Ad) (T : Tab) (C : CS) (W : WX) (r : RE) : TT := fun σc H Q => ∃ ι S σ Qb Ra, Ly D ι H S ∧ RG D ι H σ σc ∧ wpT T C r σ S Qb Ra ∧ CnB D ι H Qb Q ∧ CnX D ι H Ra σc W
def rdAnd (D : Ad) (T : Tab) (C : CS) (W : WX) (r : REs) : TT := fun σc H Q => ∃ ι S σ Qb Ra, Ly D ι H S ∧ RG D ι H σ σc ∧ wpAnd T C r σ S Qb Ra ∧ CnB D ι H Qb Q ∧ CnX D ι H Ra σc W
def rdOr (D : Ad) (T : Tab) (C : CS) (W : WX) (r : REs) : TT := fun σc H Q => ∃ ι S σ Qb Ra, Ly D ι H S ∧ RG D ι H σ σc ∧ wpOr T C r σ S Qb Ra ∧ CnB D ι H Qb Q ∧ CnX D ι H Ra σc W
def rdAndV (D : Ad) (T : Tab) (C : CS) (W : WX) (r : REs) : TE := fun σc H Q => ∃ ι S σ Qa Ra, Ly D ι H S ∧ RG D ι H σ σc ∧ wpAndV T C r σ S Qa Ra ∧ Cnt D ι H Qa Q ∧ CnX D ι H Ra σc W
def rdOrV (D : Ad) (T : Tab) (C : CS) (W : WX) (r : REs) : TE := fun σc H Q => ∃ ι S σ Qa Ra, Ly D ι H S ∧ RG D ι H σ σc ∧ wpOrV T C r σ S Qa Ra ∧ Cnt D ι H Qa Q ∧ CnX D ι H Ra σc W
def CnS (D : Ad) (ι : List Addr) (H : Hp) (n : Nat) (Qs : List PV → Store → Prop) (Q : List V → Hp → Prop) : Prop := ∀ ι' S' H' vs xs, Ext ι H ι' H' → Ly D ι' H' S' → RVs D ι' H' vs xs → vs.length = n → Qs vs S' → Q xs H'
def rdEs (D : Ad) (T : Tab) (C : CS) (W : WX) (r : REs) : TA := fun σc H Q => ∃ ι S σ Qs Ra, Ly D ι H S ∧ RG D ι H σ σc ∧ wpEs T C r σ S Qs Ra ∧ CnS D ι H r.len Qs Q ∧ CnX D ι H Ra σc W
def rdO (D : Ad) (T : Tab) (C : CS) (W : WX) (r : RO) : TO := fun σc H Q => ∃ ι S σ Qo Ra, Ly D ι H S ∧ RG D ι H σ σc ∧ wpO T C r σ S Qo Ra ∧ (∀ ι' S' H' k, Ext ι H ι' H' → Ly D ι' H' S' → Qo k S' → Q k H') ∧ CnX D ι H Ra σc W

/-- the place of a proof: a body's context, what its names are -/
structure Okx (X : Cx) (D : Ad) (F : Fd) (T : Tab) (M : Nm) (fl : List String) (C : CS) (lv : Nat) (W : WX) (c : Sc) : Prop where
  hK : X.K = D.K
  hN : X.N = c.N
  hsc : X.env.scope = c.sc
  nd : X.N.Nodup
  calm : X.calm = true
  grd : X.A.guards = some []
  room : Room (lv + 1) X.A
  tk : Takes X W
  hfn : c.all = true → ∀ x, X.fn x = true
  lk : Lk X.prog X.w D F X.mg X.base T M fl C lv

section
variable {X : Cx} {D : Ad} {F : Fd} {T : Tab} {M : Nm} {fl : List String} {C : CS} {lv : Nat} {W : WX} {c : Sc} {pos : Pos}
theorem Okx.u80 (o : Okx X D F T M fl C lv W c) : X.A.units + 80 < cLine := by have := o.room.un; omega
theorem Okx.u64 (o : Okx X D F T M fl C lv W c) : X.A.units + 64 < cLine := by have := o.room.un; omega
theorem gl_of {s : String} {x : Str} (o : Okx X D F T M fl C lv W c) (h : okGl c s x = true) : x = sN s ∧ Gl X x ∧ (x == ("__debug__" : Str)) = false ∧ x ≠ "__name__" := by
  unfold okGl at h
  simp only [Bool.and_eq_true, Bool.not_eq_true'] at h
  obtain ⟨⟨⟨h1, h2⟩, h3⟩, h4⟩ := h
  refine ⟨(of_decide_eq_true h1).symm, ?_, h3, ?_⟩
  · unfold Sc.gl at h2
    show X.env.scope.names.lookup x = some .globalImplicit
    rw [o.hsc]
    split at h2
    · assumption
    · cases h2
  · intro e
    subst e
    simp at h4

theorem s_loc {i : Nat} {x : Str} (o : Okx X D F T M fl C lv W c) (h : okName c i x = true) : PE X (.Name x pos) (rdE D T C W (.loc i)) := by
  unfold okName at h
  simp only [Bool.and_eq_true, Bool.not_eq_true'] at h
  obtain ⟨⟨⟨h1, h2⟩, h3⟩, h4⟩ := h
  have hN : X.N[i]? = some x := by rw [o.hN]; exact of_decide_eq_true h1
  have hv : Vis X.env.scope x := by
    unfold Sc.vis at h2
    rw [o.hsc]
    split at h2
    · exact .inl (by assumption)
    · exact .inr (.inl (by assumption))
    · exact .inr (.inr (by assumption))
    · cases h2
  refine PE.imp (pe_var hN hv h3 h4) fun σc H Q z => ?_
  obtain ⟨ι, S, σ, Qa, Ra, L, G, hw, cn, cx⟩ := z
  obtain ⟨v, e, q⟩ : ∃ v, σ[i]? = some (some v) ∧ Qa v S := hw
  obtain ⟨y, e', r⟩ := G.at_ i v e
  exact ⟨y, e', cn.here L r q⟩

theorem s_const {v : PV} {k : Const} {j : Nat} (h : okConst v k = true) : PE X (.Constant k j pos) (rdE D T C W (.const v)) := by
  have fin : ∀ (y : V), (∀ ι H, RV D ι H v y) → ∀ σc H Q, rdE D T C W (.const v) σc H Q → Q y H := fun y r σc H Q z => by
    obtain ⟨ι, S, σ, Qa, Ra, L, G, hw, cn, cx⟩ := z
    exact cn.here L (r ι H) (show Qa v S from hw)
  cases v with
  | non =>
    cases k with
    | none => exact PE.imp pe_non fun σc H Q z => fin _ (fun _ _ => rfl) σc H Q z
    | _ => cases h
  | bl b =>
    cases k with
    | bool b' =>
      have e : b = b' := eq_of_beq h
      subst e
      exact PE.imp pe_bl fun σc H Q z => fin _ (fun _ _ => rfl) σc H Q z
    | _ => cases h
  | int b =>
    cases k with
    | int b' =>
      have e : b = b' := eq_of_beq h
      subst e
      exact PE.imp pe_int fun σc H Q z => fin _ (fun _ _ => rfl) σc H Q z
    | _ => cases h
  | str b =>
    cases k with
    | str b' =>
      have e : b = b' := of_decide_eq_true h
      subst e
      exact PE.imp pe_str fun σc H Q z => fin _ (fun _ _ => rfl) σc H Q z
    | _ => cases h
  | _ => cases k <;> cases h

theorem s_glob {s : String} {v : PV} {x : Str} (o : Okx X D F T M fl C lv W c) (h : okGl c s x = true) (hv : (M.gv.any fun p => p.1 == s && PV.eqb p.2 v) = true) : PE X (.Name x pos) (rdE D T C W (.glob s v)) := by
  obtain ⟨e, hg, hd, hn⟩ := gl_of o h
  subst e
  obtain ⟨p, hp, e⟩ := List.any_eq_true.mp hv
  rw [Bool.and_eq_true] at e
  have e1 : p.1 = s := eq_of_beq e.1
  have e2 : p.2 = v := PV.eqb_eq e.2
  subst e1 e2
  obtain ⟨u, y, hm, ru, rv⟩ := o.lk.gv p.1 p.2 hp
  refine PE.imp (pe_glob hg hm ru hd) fun σc H Q z => ?_
  obtain ⟨ι, S, σ, Qa, Ra, L, G, hw, cn, cx⟩ := z
  exact cn.here L (rv ι H) (show Qa p.2 S from hw)

theorem s_bin {op : Operator} {a b : RE} {l r : Expr} (o : Okx X D F T M fl C lv W c) (ha : PE X l (rdE D T C W a)) (hb : PE X r (rdE D T C W b)) : PE X (.BinOp l op r pos) (rdE D T C W (.bin op a b)) := by
  refine PE.imp (pe_op (op_binG (D := D) o.hK) ha hb) fun σc H Q z => ?_
  obtain ⟨ι, S, σ, Qa, Ra, L, G, hw, cn, cx⟩ := z
  refine ⟨ι, S, σ, _, Ra, L, G, hw, fun ι1 S1 H1 v x e1 L1 r1 q1 => ?_, cx⟩
  refine ⟨ι1, S1, σ, _, Ra, L1, G.ext e1, q1, fun ι2 S2 H2 w y e2 L2' r2 q2 => ?_, cx.ext e1⟩
  exact ⟨ι2, S2, v, w, Qa, L2', r1.ext e2, r2, q2, cn.ext (e1.trans e2)⟩
theorem s_neg {a : RE} {e : Expr} (ha : PE X e (rdE D T C W a)) : PE X (.UnaryOp .USub e pos) (rdE D T C W (.neg a)) := by
  refine PE.imp (pe_un un_neg ha) fun σc H Q z => ?_
  obtain ⟨ι, S, σ, Qa, Ra, L, G, hw, cn, cx⟩ := z
  refine ⟨ι, S, σ, _, Ra, L, G, hw, fun ι1 S1 H1 v x e1 L1 r1 q1 => ?_, cx⟩
  obtain ⟨i, rfl, q⟩ := q1
  cases rv_int r1
  exact ⟨i, rfl, (cn.ext e1).here L1 (show RV D ι1 H1 (.int (-i)) (.int (-i)) from rfl) q⟩
theorem s_cmp {op : CmpOp} {a b : RE} {l r : Expr} (o : Okx X D F T M fl C lv W c) (hm : behindInMarks op r = false) (ha : PE X l (rdE D T C W a)) (hb : PE X r (rdE D T C W b)) : PE X (.Compare l [op] [r] pos) (rdE D T C W (.cmp op a b)) := by
  refine PE.imp (pe_cmpR (op_cmpG (D := D) o.hK o.u64) ha hb hm) fun σc H Q z => ?_
  obtain ⟨ι, S, σ, Qa, Ra, L, G, hw, cn, cx⟩ := z
  refine ⟨ι, S, σ, _, Ra, L, G, hw, fun ι1 S1 H1 v x e1 L1 r1 q1 => ?_, cx⟩
  refine ⟨ι1, S1, σ, _, Ra, L1, G.ext e1, q1, fun ι2 S2 H2 w y e2 L2' r2 q2 => ?_, cx.ext e1⟩
  exact ⟨ι2, S2, v, w, Qa, L2', r1.ext e2, r2, q2, cn.ext (e1.trans e2)⟩
/-- the chain's continuation, as the values' -/
theorem s_chain {op op' : CmpOp} {a b d : RE} {l r t : Expr} (o : Okx X D F T M fl C lv W c) (hm : lastMarks [op, op'] [r, t] = false) (ha : PE X l (rdE D T C W a)) (hb : PE X r (rdE D T C W b)) (hd : PE X t (rdE D T C W d)) :
    PE X (.Compare l [op, op'] [r, t] pos) (rdE D T C W (.chain op op' a b d)) := by
  refine PE.imp (pe_chain (op_cmpG (D := D) o.hK o.u64) (op_cmpG (D := D) o.hK o.u64) ha hb hd hm) fun σc H Q z => ?_
  obtain ⟨ι, S, σ, Qa, Ra, L, G, hw, cn, cx⟩ := z
  refine ⟨ι, S, σ, _, Ra, L, G, hw, fun ι1 S1 H1 v x e1 L1 r1 q1 => ?_, cx⟩
  refine ⟨ι1, S1, σ, _, Ra, L1, G.ext e1, q1, fun ι2 S2 H2 w y e2 L2' r2 q2 => ?_, cx.ext e1⟩
  have q2' : wpCmp op v w S2 fun k => (if k = true then wpE T C d σ S2 (fun z S3 => wpCmp op' w z S3 fun k' => Qa (.bl k') S3) Ra else Qa (.bl false) S2) := q2
  refine ⟨ι2, S2, v, w, (fun u S3 => S3 = S2 ∧ ∃ k, u = .bl k ∧ (if k = true then wpE T C d σ S2 (fun z S3 => wpCmp op' w z S3 fun k' => Qa (.bl k') S3) Ra else Qa (.bl false) S2)), L2', r1.ext e2, r2, ?_, fun ι3 S3 H3 u y3 e3 L3 r3 q3 => ?_⟩
  · have mono : ∀ (R R' : Bool → Prop), (∀ k, R k → R' k) → wpCmp op v w S2 R → wpCmp op v w S2 R' := fun R R' i z => by
      unfold wpCmp at z ⊢
      cases op with
      | Eq =>
        rcases eq_cases (show wpEq v w S2 R from z) with ⟨i1, j1, rfl, rfl, q⟩ | ⟨i1, j1, rfl, rfl, q⟩ | ⟨i1, j1, rfl, rfl, q⟩ | ⟨d1, d2, h1, h2, h3, h4, q⟩
        · exact i _ q
        · exact i _ q
        · exact i _ q
        · cases v <;> cases w <;> first
            | exact i _ z
            | exact ⟨d1, d2, h1, h2, h3, h4, i _ q⟩
      | NotEq =>
        rcases eq_cases (show wpEq v w S2 (fun k => R (!k)) from z) with ⟨i1, j1, rfl, rfl, q⟩ | ⟨i1, j1, rfl, rfl, q⟩ | ⟨i1, j1, rfl, rfl, q⟩ | ⟨d1, d2, h1, h2, h3, h4, q⟩
        · exact i _ q
        · exact i _ q
        · exact i _ q
        · cases v <;> cases w <;> first
            | exact i _ z
            | exact ⟨d1, d2, h1, h2, h3, h4, i _ q⟩
      | Is => cases v <;> cases w <;> first | exact i _ z | exact z
      | IsNot => cases v <;> cases w <;> first | exact i _ z | exact z
      | _ => cases v <;> cases w <;> first | exact i _ z | exact z
    exact mono _ _ (fun k hk => ⟨rfl, k, rfl, hk⟩) q2'
  · obtain ⟨rfl, k, rfl, q⟩ := q3
    cases rv_bl r3
    refine ⟨k, rfl, ?_⟩
    have e13 := (e1.trans e2).trans e3
    cases k with
    | true =>
      simp only [if_true] at q ⊢
      refine ⟨ι3, S3, σ, _, Ra, L3, G.ext e13, q, fun ι4 S4 H4 z y4 e4 L4 r4 q4 => ?_, cx.ext e13⟩
      exact ⟨ι4, S4, w, z, Qa, L4, (r2.ext e3).ext e4, r4, q4, cn.ext (e13.trans e4)⟩
    | false =>
      simp only [Bool.false_eq_true, if_false] at q ⊢
      exact (cn.ext e13).here L3 (show RV D ι3 H3 (.bl false) (.bl false) from rfl) q
theorem s_not {a : RE} {e : Expr} (o : Okx X D F T M fl C lv W c) (ha : PE X e (rdE D T C W a)) : PE X (.UnaryOp .Not e pos) (rdE D T C W (.not a)) := by
  refine PE.imp (pe_notT ha) fun σc H Q z => ?_
  obtain ⟨ι, S, σ, Qa, Ra, L, G, hw, cn, cx⟩ := z
  refine ⟨ι, S, σ, _, Ra, L, G, hw, fun ι1 S1 H1 v x e1 L1 r1 q1 => ?_, cx⟩
  obtain ⟨k, et, q⟩ := q1
  exact ⟨k, by rw [o.hK]; exact tru_at L1 r1 et, (cn.ext e1).here L1 (show RV D ι1 H1 (.bl (!k)) (.bl (!k)) from rfl) q⟩
theorem s_ite {d a b : RE} {t x y : Expr} (hd : PT X t (rdT D T C W d)) (ha : PE X x (rdE D T C W a)) (hb : PE X y (rdE D T C W b)) : PE X (.IfExp t x y pos) (rdE D T C W (.ite d a b)) := by
  refine PE.imp (pe_ifExp hd ha hb) fun σc H Q z => ?_
  obtain ⟨ι, S, σ, Qa, Ra, L, G, hw, cn, cx⟩ := z
  refine ⟨ι, S, σ, _, Ra, L, G, hw, fun ι1 S1 H1 k e1 L1 q1 => ?_, cx⟩
  cases k with
  | true =>
    simp only [if_true] at q1 ⊢
    exact ⟨ι1, S1, σ, Qa, Ra, L1, G.ext e1, q1, cn.ext e1, cx.ext e1⟩
  | false =>
    simp only [Bool.false_eq_true, if_false] at q1 ⊢
    exact ⟨ι1, S1, σ, Qa, Ra, L1, G.ext e1, q1, cn.ext e1, cx.ext e1⟩

/-! ### rows -/
theorem s_nil : PA X [] (rdEs D T C W .nil) := PA.imp pa_nil fun σc H Q z => by
  obtain ⟨ι, S, σ, Qs, Ra, L, G, hw, cn, cx⟩ := z
  exact cn ι S H [] [] Ext.refl L .nil rfl (show Qs [] S from hw)
theorem s_cons {a : RE} {as : REs} {e : Expr} {es : List Expr} (h : noStar (e :: es) = true) (ha : PE X e (rdE D T C W a)) (hs : PA X es (rdEs D T C W as)) : PA X (e :: es) (rdEs D T C W (.cons a as)) := by
  refine PA.imp (pa_cons ha hs (noStar_cons h).1) fun σc H Q z => ?_
  obtain ⟨ι, S, σ, Qs, Ra, L, G, hw, cn, cx⟩ := z
  refine ⟨ι, S, σ, _, Ra, L, G, hw, fun ι1 S1 H1 v x e1 L1 r1 q1 => ?_, cx⟩
  refine ⟨ι1, S1, σ, _, Ra, L1, G.ext e1, q1, fun ι2 S2 H2 vs xs e2 L2' r2 l2 q2 => ?_, cx.ext e1⟩
  exact cn ι2 S2 H2 (v :: vs) (x :: xs) (e1.trans e2) L2' (.cons (r1.ext e2) r2) (by rw [List.length_cons, l2]; rfl) q2
theorem sk_nil : PK X [] (rdEs D T C W .nil) := ⟨fun pos pins s σc H Q I z => by
  obtain ⟨ι, S, σ, Qs, Ra, L, G, hw, cn, cx⟩ := z
  exact pk_nil.run pos pins s σc H Q I (show tNil σc H Q from cn ι S H [] [] Ext.refl L .nil rfl (show Qs [] S from hw))⟩
theorem sk_cons {a : RE} {as : REs} {e : Expr} {es : List Keyword} {nm : Option Str} {kp : Pos} (ha : PE X e (rdE D T C W a)) (hs : PK X es (rdEs D T C W as)) : PK X (⟨nm, e, kp⟩ :: es) (rdEs D T C W (.cons a as)) := ⟨fun pos pins s σc H Q I z => by
  obtain ⟨ι, S, σ, Qs, Ra, L, G, hw, cn, cx⟩ := z
  refine (pk_cons ha hs).run pos pins s σc H Q I (show tCons (rdE D T C W a) (rdEs D T C W as) σc H Q from ?_)
  refine ⟨ι, S, σ, _, Ra, L, G, hw, fun ι1 S1 H1 v x e1 L1 r1 q1 => ?_, cx⟩
  refine ⟨ι1, S1, σ, _, Ra, L1, G.ext e1, q1, fun ι2 S2 H2 vs xs e2 L2' r2 l2 q2 => ?_, cx.ext e1⟩
  exact cn ι2 S2 H2 (v :: vs) (x :: xs) (e1.trans e2) L2' (.cons (r1.ext e2) r2) (by rw [List.length_cons, l2]; rfl) q2⟩
theorem okEs_len : ∀ {es : REs} {as : List Expr}, okEs M T c es as = true → as.length = es.len
  | .nil, [], _ => rfl
  | .nil, _ :: _, h => by cases h
  | .cons _ _, [], h => by cases h
  | .cons r rs, e :: es, h => by
    have h' : (okE M T c r e && okEs M T c rs es) = true := h
    rw [Bool.and_eq_true] at h'
    show es.length + 1 = rs.len + 1
    rw [okEs_len h'.2]
theorem okKs_len : ∀ {es : REs} {as : List Keyword}, okKs M T c es as = true → as.length = es.len
  | .nil, [], _ => rfl
  | .nil, _ :: _, h => by cases h
  | .cons _ _, [], h => by cases h
  | .cons r rs, ⟨_, e, _⟩ :: es, h => by
    have h' : (okE M T c r e && okKs M T c rs es) = true := h
    rw [Bool.and_eq_true] at h'
    show es.length + 1 = rs.len + 1
    rw [okKs_len h'.2]
theorem names_len : ∀ {kws : List Keyword} {ks : List String}, namesOf kws = ks.map (fun k => some (sN k)) → kws.length = ks.length
  | [], [], _ => rfl
  | [], _ :: _, h => by cases h
  | ⟨_, _, _⟩ :: _, [], h => by cases h
  | ⟨n, v, p⟩ :: kws, k :: ks, h => by
    have h' : n :: namesOf kws = some (sN k) :: ks.map (fun k => some (sN k)) := h
    injection h' with h1 h2
    rw [List.length_cons, List.length_cons, names_len h2]

theorem s_tup {es : REs} {vs : List Expr} {k : Nat} (hl : vs.length ≤ 1000) (hn : vs.length = es.len) (ha : PA X vs (rdEs D T C W es)) : PE X (.Tuple vs k pos) (rdE D T C W (.tup es)) := by
  refine PE.imp (pe_tup ha) fun σc H Q z => ?_
  obtain ⟨ι, S, σ, Qa, Ra, L, G, hw, cn, cx⟩ := z
  refine ⟨ι, S, σ, _, Ra, L, G, hw, fun ι1 S1 H1 ws xs e1 L1 r1 l1 q1 => ?_, cx⟩
  refine ⟨by rw [r1.len, l1, ← hn, lim_eq]; show vs.length ≤ 16777216; omega, fun p hp => ?_⟩
  exact (cn.ext e1).tup L1 hp r1 q1
theorem s_lst {es : REs} {vs : List Expr} (hl : vs.length ≤ 1000) (hn : vs.length = es.len) (ha : PA X vs (rdEs D T C W es)) : PE X (.List vs pos) (rdE D T C W (.lst es)) := by
  refine PE.imp (pe_lst ha) fun σc H Q z => ?_
  obtain ⟨ι, S, σ, Qa, Ra, L, G, hw, cn, cx⟩ := z
  refine ⟨ι, S, σ, _, Ra, L, G, hw, fun ι1 S1 H1 ws xs e1 L1 r1 l1 q1 => ?_, cx⟩
  refine ⟨by rw [r1.len, l1, ← hn, lim_eq]; show vs.length ≤ 16777216; omega, fun p hp => ?_⟩
  exact (cn.ext e1).lst L1 hp r1 q1

/-! ### subscripts, slices, fields -/
theorem plainIx {k : Expr} (h : isSlice k = false) : PlainIx k := by
  intro o' i'
  cases k <;> first
    | rfl
    | cases h
theorem s_sub {o' i' : RE} {e k : Expr} (o : Okx X D F T M fl C lv W c) (h : isSlice k = false) (ha : PE X e (rdE D T C W o')) (hb : PE X k (rdE D T C W i')) : PE X (.Subscript e k pos) (rdE D T C W (.sub o' i')) := by
  refine PE.imp (pe_ix (ix_G (D := D) o.hK) ha hb (plainIx h)) fun σc H Q z => ?_
  obtain ⟨ι, S, σ, Qa, Ra, L, G, hw, cn, cx⟩ := z
  refine ⟨ι, S, σ, _, Ra, L, G, hw, fun ι1 S1 H1 v x e1 L1 r1 q1 => ?_, cx⟩
  refine ⟨ι1, S1, σ, _, Ra, L1, G.ext e1, q1, fun ι2 S2 H2 w y e2 L2' r2 q2 => ?_, cx.ext e1⟩
  exact ⟨ι2, S2, v, w, Qa, L2', r1.ext e2, r2, q2, cn.ext (e1.trans e2)⟩
theorem so_none : PO X none (rdO D T C W .none) := ⟨fun pins s σc H Q I z => by
  obtain ⟨ι, S, σ, Qo, Ra, L, G, hw, cn, cx⟩ := z
  exact po_none.run pins s σc H Q I (show tNoPart σc H Q from cn ι S H none Ext.refl L hw)⟩
theorem so_some {a : RE} {e : Expr} (ha : PE X e (rdE D T C W a)) : PO X (some e) (rdO D T C W (.some a)) := ⟨fun pins s σc H Q I z => by
  obtain ⟨ι, S, σ, Qo, Ra, L, G, hw, cn, cx⟩ := z
  refine (po_some ha).run pins s σc H Q I (show tPart (rdE D T C W a) σc H Q from ?_)
  refine ⟨ι, S, σ, _, Ra, L, G, hw, fun ι1 S1 H1 v x e1 L1 r1 q1 => ?_, cx⟩
  obtain ⟨i, rfl, q⟩ := q1
  cases rv_int r1
  exact ⟨i, rfl, cn ι1 S1 H1 (some i) e1 L1 q⟩⟩
theorem s_slice {o' : RE} {lo hi : RO} {e : Expr} {l h : Option Expr} {p2 : Pos} (o : Okx X D F T M fl C lv W c) (ha : PE X e (rdE D T C W o')) (hl : PO X l (rdO D T C W lo)) (hh : PO X h (rdO D T C W hi)) :
    PE X (.Subscript e (.Slice l h none p2) pos) (rdE D T C W (.slice o' lo hi none)) := by
  refine PE.imp (pe_slice (sl_G (D := D) o.hK) ha hl hh) fun σc H Q z => ?_
  obtain ⟨ι, S, σ, Qa, Ra, L, G, hw, cn, cx⟩ := z
  refine ⟨ι, S, σ, _, Ra, L, G, hw, fun ι1 S1 H1 v x e1 L1 r1 q1 => ?_, cx⟩
  refine ⟨ι1, S1, σ, _, Ra, L1, G.ext e1, q1, fun ι2 S2 H2 l' e2 L2' q2 => ?_, cx.ext e1⟩
  have e12 := e1.trans e2
  refine ⟨ι2, S2, σ, _, Ra, L2', G.ext e12, q2, fun ι3 S3 H3 h' e3 L3 q3 => ?_, cx.ext e12⟩
  exact ⟨ι3, S3, v, Qa, L3, (r1.ext e2).ext e3, q3, cn.ext (e12.trans e3)⟩
theorem s_rev {o' : RE} {e : Expr} {st : Int} {k : Nat} {p1 p2 p3 : Pos} (o : Okx X D F T M fl C lv W c) (ha : PE X e (rdE D T C W o')) :
    PE X (.Subscript e (.Slice none none (some (.UnaryOp .USub (.Constant (.int 1) k p1) p2)) p3) pos) (rdE D T C W (.slice o' .none .none (some st))) := by
  refine PE.imp (pe_revL ha) fun σc H Q z => ?_
  obtain ⟨ι, S, σ, Qa, Ra, L, G, hw, cn, cx⟩ := z
  refine ⟨ι, S, σ, _, Ra, L, G, hw, fun ι1 S1 H1 v x e1 L1 r1 q1 => ?_, cx⟩
  obtain ⟨_, xs, ex, q⟩ : st = -1 ∧ ∃ xs, lstOf S1 v = some xs ∧ Qa (.ref S1.length) (S1 ++ [SO.lst xs.reverse]) := q1
  obtain ⟨a, vs, rfl, hq, t⟩ := lst_at L1 ex r1
  exact ⟨a, vs, rfl, by rw [o.hK]; exact hq, fun p hp => (cn.ext e1).lst L1 hp t.rev q⟩

theorem vals_pick {xs : List V} {its : List Value} (r : Vals xs its) : ∀ L : List Nat, Vals (L.filterMap (xs[·]?)) (L.filterMap (its.toArray[·]?))
  | [] => .nil
  | i :: L => by
    have hl := r.length
    cases e : xs[i]? with
    | none =>
      have e2 : its.toArray[i]? = none := by
        have := List.getElem?_eq_none_iff.mp e
        simp
        omega
      rw [List.filterMap_cons_none e, List.filterMap_cons_none (f := (its.toArray[·]?)) e2]
      exact vals_pick r L
    | some x =>
      obtain ⟨u, e2, ru⟩ := r.get e
      have e2 : its.toArray[i]? = some u := by simpa using e2
      rw [List.filterMap_cons_some e, List.filterMap_cons_some (f := (its.toArray[·]?)) e2]
      exact .cons ru (vals_pick r L)
theorem rvs_pick {ι : List Addr} {H : Hp} {xs : List PV} {vs : List V} (r : RVs D ι H xs vs) : ∀ L : List Nat, RVs D ι H (L.filterMap (xs[·]?)) (L.filterMap (vs[·]?))
  | [] => .nil
  | i :: L => by
    have hl := r.len
    cases e : xs[i]? with
    | none =>
      have e2 : vs[i]? = none := by
        have := List.getElem?_eq_none_iff.mp e
        rw [List.getElem?_eq_none_iff]
        omega
      rw [List.filterMap_cons_none e, List.filterMap_cons_none e2]
      exact rvs_pick r L
    | some x =>
      obtain ⟨u, e2, ru⟩ := r.get e
      rw [List.filterMap_cons_some e, List.filterMap_cons_some e2]
      exact .cons ru (rvs_pick r L)
theorem pick_len {α : Type} (xs : List α) {st : Int} (h : st ≠ 0) : (pickL xs st).length ≤ xs.length := by
  unfold pickL
  refine Nat.le_trans (List.length_filterMap_le ..) ?_
  refine sliceRange_length_le _ _ _ _ (fun hp => ?_) fun hp => ?_
  all_goals
    simp only [sliceBounds, Option.getD_some] at hp ⊢
    first
      | rw [if_pos hp, if_pos hp]
      | rw [if_neg hp, if_neg hp]
    constructor <;> omega
def tStepL (K : PySem.W.Frag) (st : Int) (te : TE) : TE := fun σ H Q => te σ H fun x H1 => ∃ a xs, x = .ref a ∧ SqL K H1 a xs ∧ st ≠ 0 ∧ ∀ p, H1 p = none → Q (.ref p) (upd H1 p (.lst (pickL xs st)))
theorem step_core {e es : Expr} {te : TE} {st : Int} {p3 pos : Pos} (he : PE X e te) (hst : PO X (some es) fun σ H Q => Q (some st) H)
    (htl : ∀ v w, subscripted (.Slice none none (some es) p3) false v w = operate [v, w] (getItem v w)) : PE X (.Subscript e (.Slice none none (some es) p3) pos) (tStepL X.K st te) := by
  refine ⟨fun pins s σ H Q I h => ?_⟩
  refine Subscript_ (thn (he.run pins s σ H _ I h) fun v s1 ⟨x, H1, I1, r1, q1⟩ => ?_)
  obtain ⟨a, xs, ex, hx, h0, q⟩ := q1
  subst ex
  obtain rfl : v = Value.ref a := r1
  refine wpAny_Slice (thn (po_none.run pins s1 σ H1 (fun o H2 => o = none ∧ H2 = H1) I1 ⟨rfl, rfl⟩) fun vl s2 ⟨l, H2, I2, pl, el, e2⟩ => ?_)
  subst el e2
  refine thn (po_none.run pins s2 σ H2 (fun o H3 => o = none ∧ H3 = H2) I2 ⟨rfl, rfl⟩) fun vu s3 ⟨u, H3, I3, pu, eu, e3⟩ => ?_
  subst eu e3
  refine thn (hst.run pins s3 σ H3 (fun o H4 => o = some st ∧ H4 = H3) I3 ⟨rfl, rfl⟩) fun vs s4 ⟨o, H4, I4, ps, eo, e4⟩ => ?_
  subst eo e4
  have I5 : Inv X pins σ H4 { s4 with heap := s4.heap.push { cls := .type "slice", data := .fields #[vl, vu, vs] } } := I4.kept (t' := s4.toks) fun b ob q => Heap.get?_push_of_some _ q
  obtain ⟨its, r, hpl, hz⟩ := I5.list hx
  have hlen := r.length
  show wpAny (model X.prog X.w) X.A (subscriptTail e (.Slice none none (some es) p3) (.ref a) (.ref s4.heap.objs.size)) (EP X pins σ Q) X.xe { s4 with heap := s4.heap.push { cls := .type "slice", data := .fields #[vl, vu, vs] } }
  refine tail_any (ops := [.ref a, .ref s4.heap.objs.size]) hpl.isList.typeIs (PySem.slot_list_getitem.lookup) ?_ (htl _ _)
  refine wpAny_getItem_list_slice hpl.isList (Heap.IsSliceOf.new _ vl vu vs) pl pu ps (by simpa using h0) ?_ (by rw [List.size_toArray]; omega)
  refine ⟨.ref _, _, I5.laid (t' := s4.toks) (o := .lst (pickL xs st)) (fun b ob q => Heap.get?_push_of_some _ q) (Nat.le_refl _) ?_, rfl, q _ (I5.hok.fresh (Nat.le_refl _))⟩
  have hv : Vals (pickL xs st) (slicePick its.toArray none none (some st)).toList := by
    unfold slicePick pickL
    rw [List.size_toArray, ← hlen]
    exact vals_pick r _
  exact ⟨Nat.le_trans (pick_len xs h0) hz, _, 0, hv, Heap.get?_push_size _ rfl⟩
theorem s_step {o' : RE} {e : Expr} {st : Int} {es : Expr} {p3 : Pos} (o : Okx X D F T M fl C lv W c) (h : stepOk st es = true) (ha : PE X e (rdE D T C W o')) :
    PE X (.Subscript e (.Slice none none (some es) p3) pos) (rdE D T C W (.step o' st)) := by
  have core : PE X (.Subscript e (.Slice none none (some es) p3) pos) (tStepL X.K st (rdE D T C W o')) := by
    cases es with
    | Constant k j q =>
      cases k with
      | int n =>
        have h' : (decide (n = st) && decide (n ≠ 0)) = true := h
        simp only [Bool.and_eq_true, decide_eq_true_eq] at h'
        obtain ⟨rfl, _⟩ := h'
        exact step_core ha ⟨fun pins s σ H Q I h => (po_some (pe_int (i := n))).run pins s σ H Q I ⟨n, rfl, h⟩⟩ fun v w => by with_unfolding_all rfl
      | _ => cases h
    | UnaryOp u x q =>
      cases u with
      | USub =>
        cases x with
        | Constant k j q =>
          cases k with
          | int n =>
            have h' : (decide (-n = st) && decide (n ≠ 0)) = true := h
            simp only [Bool.and_eq_true, decide_eq_true_eq] at h'
            obtain ⟨rfl, _⟩ := h'
            exact step_core ha ⟨fun pins s σ H Q I h => (po_some (pe_un un_neg (pe_int (i := n)))).run pins s σ H Q I ⟨n, rfl, -n, rfl, h⟩⟩ fun v w => by with_unfolding_all rfl
          | _ => cases h
        | _ => cases h
      | _ => cases h
    | _ => cases h
  refine PE.imp core fun σc H Q z => ?_
  obtain ⟨ι, S, σ, Qa, Ra, L, G, hw, cn, cx⟩ := z
  refine ⟨ι, S, σ, _, Ra, L, G, hw, fun ι1 S1 H1 v x e1 L1 r1 q1 => ?_, cx⟩
  obtain ⟨xs, ex, h0, q⟩ : ∃ xs, lstOf S1 v = some xs ∧ st ≠ 0 ∧ Qa (.ref S1.length) (S1 ++ [SO.lst (pickL xs st)]) := q1
  obtain ⟨a, vs, rfl, hq, t⟩ := lst_at L1 ex r1
  have tp : RVs D ι1 H1 (pickL xs st) (pickL vs st) := by
    unfold pickL
    rw [t.len]
    exact rvs_pick t _
  exact ⟨a, vs, rfl, by rw [o.hK]; exact hq, h0, fun p hp => (cn.ext e1).lst L1 hp tp q⟩
theorem s_gty {n : BT} {x : Str} (o : Okx X D F T M fl C lv W c) (h : okGl c n.nm x = true) (hn : n ≠ .non) (hb : (M.nb.any (· == n.nm)) = true) : PE X (.Name x pos) (rdE D T C W (.gty n)) := by
  obtain ⟨e, hg, hd, hnn⟩ := gl_of o h
  subst e
  obtain ⟨y, hy, e⟩ := List.any_eq_true.mp hb
  have e : y = n.nm := eq_of_beq e
  subst e
  have hv : bootBuiltins (sN n.nm) = some (.type n.nm) := by
    cases n <;> first | exact absurd rfl hn | decide +kernel
  refine PE.imp (pe_bltn (v := .ty n.nm) hg (o.lk.nb _ hy) hv rfl hnn hd) fun σc H Q z => ?_
  obtain ⟨ι, S, σ, Qa, Ra, L, G, hw, cn, cx⟩ := z
  exact cn.here L (show RV D ι H (.ty n) (.ty n.nm) from rfl) (show Qa (.ty n) S from hw)
/-- names that differ have other signs -/
theorem sN_inj {a b : String} (h : sN a = sN b) : a = b := by
  unfold sN at h
  rw [Str.ofString_eq_toList, Str.ofString_eq_toList] at h
  injection h with h
  have h : a.toList.map Char.toNat = b.toList.map Char.toNat := by simpa using congrArg Array.toList h
  have : a.toList = b.toList := by
    have inj : Function.Injective Char.toNat := fun x y e => Char.ext (UInt32.toNat_inj.mp e)
    exact (List.map_inj_right (fun x y e => inj e)).mp h
  exact String.toList_inj.mp this
/-- a field of an instance as it lies -/
theorem fld_look {ι : List Addr} {H : Hp} {f : String} : ∀ {fs : List (String × PV)} {fs' : List (Str × V)} {v : PV}, fs'.map (·.1) = fs.map (fun p => sN p.1) → RVs D ι H (fs.map (·.2)) (fs'.map (·.2)) → fs.lookup f = some v → ∃ x, fs'.lookup (sN f) = some x ∧ RV D ι H v x
  | [], fs', v, h1, h2, h3 => by cases h3
  | (g, w) :: fs, [], v, h1, h2, h3 => by cases h1
  | (g, w) :: fs, (g', w') :: fs', v, h1, h2, h3 => by
    have h1' : g' :: fs'.map (·.1) = sN g :: fs.map (fun p => sN p.1) := h1
    injection h1' with e1 e2
    obtain ⟨x, r, e3, r1, r2⟩ := h2
    have e3' : w' :: fs'.map (·.2) = x :: r := e3
    injection e3' with e4 e5
    subst e1 e4 e5
    rw [List.lookup_cons] at h3 ⊢
    by_cases hf : f = g
    · subst hf
      rw [beq_self_eq_true] at h3 ⊢
      cases h3
      exact ⟨w', rfl, r1⟩
    · have n1 : (f == g) = false := beq_eq_false_iff_ne.mpr hf
      have n2 : (sN f == sN g) = false := beq_eq_false_iff_ne.mpr fun z => hf (sN_inj z)
      rw [n1] at h3
      rw [n2]
      exact fld_look e2 r2 h3
theorem fld_none {f : String} : ∀ {fs : List (String × PV)} {fs' : List (Str × V)}, fs'.map (·.1) = fs.map (fun p => sN p.1) → fs.lookup f = none → fs'.lookup (sN f) = none
  | [], [], _, _ => rfl
  | [], _ :: _, h1, _ => by cases h1
  | (g, w) :: fs, [], h1, _ => by cases h1
  | (g, w) :: fs, (g', w') :: fs', h1, h3 => by
    have h1' : g' :: fs'.map (·.1) = sN g :: fs.map (fun p => sN p.1) := h1
    injection h1' with e1 e2
    subst e1
    rw [List.lookup_cons] at h3 ⊢
    by_cases hf : f = g
    · subst hf
      rw [beq_self_eq_true] at h3
      cases h3
    · have n1 : (f == g) = false := beq_eq_false_iff_ne.mpr hf
      have n2 : (sN f == sN g) = false := beq_eq_false_iff_ne.mpr fun z => hf (sN_inj z)
      rw [n1] at h3
      rw [n2]
      exact fld_none e2 h3
theorem base_of {e : Expr} {f : Str} {env : Env} (h : notSuper e = true) (w : Sem Value) : attributeBase e f env w = w := by
  cases e <;> first
    | rfl
    | skip
  rename_i g as kws p
  cases g <;> first
    | rfl
    | skip
  rename_i x px
  cases as <;> first
    | rfl
    | skip
  cases kws <;> first
    | rfl
    | skip
  have hx : (x == ("super" : Str)) = false := by
    have h' : (!(x == ("super" : Str))) = true := h
    simpa using h'
  show (if (x != ("super" : Str) || f == ("__class__" : Str) || env.kindOf "super" != some .globalImplicit || env.kindOf "__class__" != some .free) = true then _ else _) = w
  have e1 : (x != ("super" : Str)) = true := by
    unfold bne
    rw [hx] <;> rfl
  rw [e1, Bool.true_or, Bool.true_or, Bool.true_or, if_pos rfl]
theorem fldOf_cases {S : Store} {v x : PV} {f : String} (h : fldOf T S v f = some x) : ∃ i k fs cd, v = .ref i ∧ S[i]? = some (.ins k fs) ∧ T.cls[k]? = some cd ∧ fs.lookup f = some x := by
  cases v with
  | ref i =>
    simp only [fldOf] at h
    cases e : S[i]? with
    | none => rw [e] at h; cases h
    | some ob =>
      rw [e] at h
      cases ob with
      | ins k fs =>
        simp only at h
        cases e2 : T.cls[k]? with
        | none => rw [e2] at h; cases h
        | some cd => rw [e2] at h; exact ⟨i, k, fs, cd, rfl, e, e2, h⟩
      | _ => cases h
  | _ => cases h
theorem s_fld {a : RE} {f : String} {e : Expr} (o : Okx X D F T M fl C lv W c) (hf : f ∈ fl) (hb : notSuper e = true) (ha : PE X e (rdE D T C W a)) : PE X (.Attribute e (sN f) pos) (rdE D T C W (.fld a f)) := by
  refine PE.imp (pe_fld ha (base_of hb _)) fun σc H Q z => ?_
  obtain ⟨ι, S, σ, Qa, Ra, L, G, hw, cn, cx⟩ := z
  refine ⟨ι, S, σ, _, Ra, L, G, hw, fun ι1 S1 H1 v x e1 L1 r1 q1 => ?_, cx⟩
  obtain ⟨y, ey, q⟩ := q1
  obtain ⟨i, k, fs, cd, rfl, es, ec, el⟩ := fldOf_cases ey
  obtain ⟨p, hi, rfl⟩ := rv_ref r1
  obtain ⟨p', dx, fs', hi', hp, n1, n2⟩ := L1.ins es
  rw [hi] at hi'; cases hi'
  obtain ⟨y', ly', ry⟩ := fld_look n1 n2 el
  obtain ⟨c1, c2, c3⟩ := o.lk.ms k cd ec
  exact ⟨p, D.ca k, dx, fs', y', rfl, hp, by rw [o.hK]; exact c1, by rw [o.hK]; exact c3 f hf, ly', (cn.ext e1).here L1 ry q⟩

/-! ### calls -/
theorem vals_len {vs : List PV} {xs : List V} {us : List Value} {ι : List Addr} {H : Hp} (r : RVs D ι H vs xs) (rx : Vals xs us) : us.length = vs.length := by rw [← rx.length, r.len]
theorem binds_at {sh : Shape} {d : FDef} {dv : List Value} {h : Shared} {us ws : List Value} (l1 : us.length = sh.np) (l2 : ws.length = sh.ks.length) {bs : List (Str × Value)} {pre : List Value}
    (b : BindsTo h (F.fd sh.f) ⟨pre ++ (us ++ ws).take sh.np, (sh.ks.map sN).zip ((us ++ ws).drop sh.np)⟩ bs) : BindsTo h (F.fd sh.f) ⟨pre ++ us, (sh.ks.map sN).zip ws⟩ bs := by
  rw [← l1, List.take_left, List.drop_left] at b
  exact b
/-- the call of a def with its values -/
theorem call_at {f : Nat} {ks : List String} {arr : List (Nat ⊕ PV)} {np : Nat} {pins : List (Addr × Obj)} {σc : L2.St} {s : Shared} {ι : List Addr} {H : Hp} {S : Store} {vs ws : List PV} {xs ys : List V} {us u2 : List Value} {Qa : QV} {Ra : QX} {Q : VK}
    (o : Okx X D F T M fl C lv W c) (hs : M.has f false np ks arr = true) (I : Inv X pins σc H s) (L : Ly D ι H S) (r1 : RVs D ι H vs xs) (x1 : Vals xs us) (r2 : RVs D ι H ws ys) (x2 : Vals ys u2) (l1 : vs.length = np) (l2 : ws.length = ks.length)
    (hc : C f (fill arr (vs ++ ws)) S Qa Ra) (cn : Cnt D ι H Qa Q) (cx : CnX D ι H Ra σc W) : wpAny (model X.prog X.w) X.A (call (.ref (D.fa f)) us ((ks.map sN).zip u2)) (EP X pins σc Q) X.xe s := by
  obtain ⟨d, hd⟩ := o.lk.inn _ _ _ _ _ hc
  obtain ⟨dv, hdf, hb⟩ := o.lk.sh _ (Nm.has_mem hs) d hd
  obtain ⟨zs, rz, vz⟩ := fill_rel (r1.app r2) (x1.append x2) arr dv hdf
  have G := o.lk.fn f d hd
  rw [← o.hK] at G
  have e1 := vals_len r1 x1
  have e2 := vals_len r2 x2
  have b := hb s .none (us ++ u2) (by rw [← o.hK]; exact I.kIn) (by rw [List.length_append, e1, e2, l1, l2])
  have b := binds_at (F := F) (d := d) (dv := dv) (sh := ⟨f, false, np, ks, arr⟩) (e1.trans l1) (e2.trans l2) b
  refine run_g G (o.room.mono (Nat.le_succ _)) o.grd o.tk I vz (by simpa using b) ?_
  exact ⟨ι, S, _, Qa, Ra, L, rz, hc, cn, fun ι' S' H' x cls dd e l rx q => cx ι' S' H' x cls dd e l rx q⟩
/-- behind a row of arguments -/
def Behind (X : Cx) (D : Ad) (pins : List (Addr × Obj)) (σc : L2.St) (ι : List Addr) (H : Hp) (n : Nat) (Qs : List PV → Store → Prop) (us : List Value) (s' : Shared) : Prop :=
  ∃ xs H1 ι1 S1 vs, Inv X pins σc H1 s' ∧ Vals xs us ∧ Ext ι H ι1 H1 ∧ Ly D ι1 H1 S1 ∧ RVs D ι1 H1 vs xs ∧ vs.length = n ∧ Qs vs S1
theorem es_run {es : REs} {as : List Expr} (ha : PA X as (rdEs D T C W es)) {pins : List (Addr × Obj)} {σc : L2.St} {s : Shared} {ι : List Addr} {H : Hp} {S : Store} {σ : Sg} {Qs : List PV → Store → Prop} {Ra : QX}
    (I : Inv X pins σc H s) (L : Ly D ι H S) (G : RG D ι H σ σc) (hw : wpEs T C es σ S Qs Ra) (cx : CnX D ι H Ra σc W) (pos : Pos) :
    wpAny (model X.prog X.w) X.A (spliced (backTo pos (starEach as X.env))) (Behind X D pins σc ι H es.len Qs) X.xe s :=
  thn (ha.run pos pins s σc H (fun xs H1 => ∃ ι1 S1 vs, Ext ι H ι1 H1 ∧ Ly D ι1 H1 S1 ∧ RVs D ι1 H1 vs xs ∧ vs.length = es.len ∧ Qs vs S1) I
    ⟨ι, S, σ, Qs, Ra, L, G, hw, fun ι1 S1 H1 vs xs e1 L1 r1 l1 q1 => ⟨ι1, S1, vs, e1, L1, r1, l1, q1⟩, cx⟩)
    fun us s1 ⟨xs, H1, I1, rx, ι1, S1, vs, e1, L1, r1, l1, q1⟩ => ⟨xs, H1, ι1, S1, vs, I1, rx, e1, L1, r1, l1, q1⟩
theorem ks_run {es : REs} {kws : List Keyword} (hk : PK X kws (rdEs D T C W es)) {pins : List (Addr × Obj)} {σc : L2.St} {s : Shared} {ι : List Addr} {H : Hp} {S : Store} {σ : Sg} {Qs : List PV → Store → Prop} {Ra : QX}
    (I : Inv X pins σc H s) (L : Ly D ι H S) (G : RG D ι H σ σc) (hw : wpEs T C es σ S Qs Ra) (cx : CnX D ι H Ra σc W) (pos : Pos) :
    wpAny (model X.prog X.w) X.A (evalAll ((backToKw pos (keywordEach kws X.env)).map (·.2))) (Behind X D pins σc ι H es.len Qs) X.xe s :=
  thn (hk.run pos pins s σc H (fun xs H1 => ∃ ι1 S1 vs, Ext ι H ι1 H1 ∧ Ly D ι1 H1 S1 ∧ RVs D ι1 H1 vs xs ∧ vs.length = es.len ∧ Qs vs S1) I
    ⟨ι, S, σ, Qs, Ra, L, G, hw, fun ι1 S1 H1 vs xs e1 L1 r1 l1 q1 => ⟨ι1, S1, vs, e1, L1, r1, l1, q1⟩, cx⟩)
    fun us s1 ⟨xs, H1, I1, rx, ι1, S1, vs, e1, L1, r1, l1, q1⟩ => ⟨xs, H1, ι1, S1, vs, I1, rx, e1, L1, r1, l1, q1⟩
/-- a call written with places and names, f kept alive by the written part: what is left is the call of its value -/
theorem args_run {fv : Value} {first : List Value} {es kes : REs} {as : List Expr} {kws : List Keyword} {ks : List String} {pins : List (Addr × Obj)} {σc : L2.St} {s : Shared} {ι : List Addr} {H : Hp} {S : Store} {σ : Sg} {P : List PV → List PV → Store → Prop} {Ra : QX} {Qf : Value → Shared → Prop}
    (hkp : PySem.W.keepIn X.K fv = true) (hl : as.length = es.len) (ha : PA X as (rdEs D T C W es)) (hn : noStar as = true) (hk : PK X kws (rdEs D T C W kes)) (hkl : kws.length = kes.len) (hnm : namesOf kws = ks.map fun k => some (sN k)) (hne : (kws.isEmpty || !as.isEmpty) = true)
    (I : Inv X pins σc H s) (L : Ly D ι H S) (G : RG D ι H σ σc) (hw : wpEs T C es σ S (fun vs S1 => wpEs T C kes σ S1 (fun ws S2 => P vs ws S2) Ra) Ra) (cx : CnX D ι H Ra σc W) (pos : Pos)
    (fin : ∀ us u2 s2 xs ys H2 ι2 S2 vs ws, Inv X pins σc H2 s2 → Vals xs us → Vals ys u2 → Ext ι H ι2 H2 → Ly D ι2 H2 S2 → RVs D ι2 H2 vs xs → RVs D ι2 H2 ws ys → vs.length = as.length → ws.length = ks.length → P vs ws S2 →
      wpAny (model X.prog X.w) X.A (call fv (first ++ us) ((ks.map sN).zip u2)) Qf X.xe s2) :
    wpAny (model X.prog X.w) X.A (callWith pos fv first (backTo pos (starEach as X.env)) (backToKw pos (keywordEach kws X.env))) Qf X.xe s := by
  obtain ⟨k1, k2, k3⟩ := kw_names (env := X.env) (pos := pos) hnm
  have hkl2 : kes.len = ks.length := by rw [← hkl]; exact names_len hnm
  cases kws with
  | nil =>
    have hk0 : kes = .nil := by cases kes with
      | nil => rfl
      | cons a b => cases hkl
    have hks : ks = [] := by cases ks with
      | nil => rfl
      | cons a b => cases hnm
    subst hk0 hks
    cases as with
    | nil =>
      have he0 : es = .nil := by cases es with
        | nil => rfl
        | cons a b => cases hl
      subst he0
      exact PySem.W.callWith_K0 I.kIn hkp (fin [] [] s [] [] H ι S [] [] I .nil .nil Ext.refl L .nil .nil rfl rfl hw)
    | cons a as =>
      refine PySem.W.callWith_K (h₀ := X.base) I.ok.mod.kin hkp (thn (es_run ha I L G hw cx pos) fun us s1 h1 => ?_) (noStar_cons hn).1 (noStar_any (noStar_cons (env := X.env) hn).2)
      obtain ⟨xs, H1, ι1, S1, vs, I1, rx, e1, L1, r1, l1, q1⟩ := h1
      exact ⟨I1.kIn, fin us [] s1 xs [] H1 ι1 S1 vs [] I1 rx .nil e1 L1 r1 .nil (l1.trans hl.symm) rfl q1⟩
  | cons kw kws =>
    cases as with
    | nil => cases hne
    | cons a as =>
      refine PySem.W.callWith_KW (h₀ := X.base) I.ok.mod.kin hkp k1 (thn (es_run ha I L G hw cx pos) fun us s1 h1 => ?_) (by rw [noStar_any hn, k3] <;> rfl) (noStar_cons hn).1
      obtain ⟨xs, H1, ι1, S1, vs, I1, rx, e1, L1, r1, l1, q1⟩ := h1
      refine thn (ks_run hk I1 L1 (G.ext e1) q1 (cx.ext e1) pos) fun u2 s2 h2 => ?_
      obtain ⟨ys, H2, ι2, S2, ws, I2, ry, e2, L2', r2, l2, q2⟩ := h2
      refine ⟨I2.kIn, ?_⟩
      rw [k2]
      exact fin us u2 s2 xs ys H2 ι2 S2 vs ws I2 rx ry (e1.trans e2) L2' (r1.ext e2) r2 (l1.trans hl.symm) (l2.trans hkl2) q2
theorem s_call {f : Nat} {s : String} {es : REs} {ks : List String} {kes : REs} {arr : List (Nat ⊕ PV)} {x : Str} {as : List Expr} {kws : List Keyword} {p : Pos} (o : Okx X D F T M fl C lv W c) (hx : okGl c s x = true) (hf : (M.gf.any (fun p => p.1 == s && p.2 == f)) = true)
    (hl : as.length = es.len) (ha : PA X as (rdEs D T C W es)) (hn : noStar as = true) (hk : PK X kws (rdEs D T C W kes)) (hkl : kws.length = kes.len) (hnm : namesOf kws = ks.map fun k => some (sN k)) (hne : (kws.isEmpty || !as.isEmpty) = true) (hs : M.has f false as.length ks arr = true) :
    PE X (.Call (.Name x p) as kws pos) (rdE D T C W (.call f s es ks kes arr)) := by
  obtain ⟨e, hg, hd, _⟩ := gl_of o hx
  subst e
  obtain ⟨pr, hp, e⟩ := List.any_eq_true.mp hf
  rw [Bool.and_eq_true] at e
  obtain ⟨pr1, pr2⟩ := pr
  have e1 : pr1 = s := eq_of_beq e.1
  have e2 : pr2 = f := eq_of_beq e.2
  subst e1 e2
  obtain ⟨hm, hkp⟩ := o.lk.gf _ _ hp
  refine ⟨fun pins st σc H Q I z => ?_⟩
  obtain ⟨ι, S, σ, Qa, Ra, L, G, hw, cn, cx⟩ := z
  refine wpAny_Call_Name_kw (ld_glob I hg hm ?_ hd)
  refine args_run (P := fun vs ws S2 => C pr2 (fill arr (vs ++ ws)) S2 Qa Ra) (by rw [o.hK]; exact hkp) hl ha hn hk hkl hnm hne I L G hw cx pos fun us u2 s2 xs ys H2 ι2 S2 vs ws I2 rx ry e2 L2' r1 r2 l1 l2 q => ?_
  exact call_at o hs I2 L2' r1 rx r2 ry l1 l2 q (cn.ext e2) (cx.ext e2)

/-- a new instance of a class of the table -/
theorem s_make {k : Nat} {s : String} {es : REs} {ks : List String} {kes : REs} {arr : List (Nat ⊕ PV)} {x : Str} {as : List Expr} {kws : List Keyword} {p : Pos} (o : Okx X D F T M fl C lv W c) (hx : okGl c s x = true) (hf : (M.gc.any (fun p => p.1 == s && p.2 == k)) = true)
    (hl : as.length = es.len) (ha : PA X as (rdEs D T C W es)) (hn : noStar as = true) (hk : PK X kws (rdEs D T C W kes)) (hkl : kws.length = kes.len) (hnm : namesOf kws = ks.map fun k => some (sN k)) (hne : (kws.isEmpty || !as.isEmpty) = true)
    (hs : ∀ f, (T.cls[k]?).bind (·.ini) = some f → M.has f true as.length ks arr = true) (hi : ∃ f, (T.cls[k]?).bind (·.ini) = some f) :
    PE X (.Call (.Name x p) as kws pos) (rdE D T C W (.make k s es ks kes arr)) := by
  obtain ⟨e, hg, hd, _⟩ := gl_of o hx
  subst e
  obtain ⟨pr, hp, e⟩ := List.any_eq_true.mp hf
  rw [Bool.and_eq_true] at e
  obtain ⟨pr1, pr2⟩ := pr
  have e1 : pr1 = s := eq_of_beq e.1
  have e2 : pr2 = k := eq_of_beq e.2
  subst e1 e2
  obtain ⟨hm, hmk⟩ := o.lk.gc _ _ hp
  obtain ⟨f0, hf0⟩ := hi
  have MK := hmk f0 hf0
  rw [← o.hK] at MK
  refine ⟨fun pins st σc H Q I z => ?_⟩
  obtain ⟨ι, S, σ, Qa, Ra, L, G, hw, cn, cx⟩ := z
  refine wpAny_Call_Name_kw (ld_glob I hg hm ?_ hd)
  refine args_run (P := fun vs ws S2 => ∃ f, (T.cls[pr2]?).bind (·.ini) = some f ∧ C f (.ref S2.length :: fill arr (vs ++ ws)) (S2 ++ [SO.ins pr2 []]) (fun v S3 => v = .non ∧ Qa (.ref S2.length) S3) Ra) MK.kp hl ha hn hk hkl hnm hne I L G hw cx pos
    fun us u2 s2 xs ys H2 ι2 S2 vs ws I2 rx ry e2 L2' r1 r2 l1 l2 q => ?_
  obtain ⟨f, hf, hc⟩ := q
  rw [hf0] at hf
  cases hf
  obtain ⟨d, hd⟩ := o.lk.inn _ _ _ _ _ hc
  obtain ⟨dv, hdf, hb⟩ := o.lk.sh _ (Nm.has_mem (hs f0 hf0)) d hd
  obtain ⟨zs, rz, vz⟩ := fill_rel (r1.app r2) (rx.append ry) arr dv hdf
  have GF := o.lk.fn f0 d hd
  rw [← o.hK] at GF
  have n1 := vals_len r1 rx
  have n2 := vals_len r2 ry
  refine run_gmake MK GF o.room o.grd o.tk I2 vz (fun h self KI => ?_) fun a dx na ndx nad => ?_
  · have b := hb h self (us ++ u2) (by rw [← o.hK]; exact KI) (by rw [List.length_append, n1, n2, l1, l2])
    have b := binds_at (F := F) (d := d) (dv := dv) (sh := ⟨f0, true, as.length, ks, arr⟩) (n1.trans l1) (n2.trans l2) b
    simpa using b
  · have keep : ∀ b u, H2 b = some u → (upd (upd H2 dx (.own a)) a (.ins (D.ca pr2) dx [])) b = some u := fun b u hb => by
      rw [upd_ne (ne_of_none hb na), upd_ne (ne_of_none hb ndx)]
      exact hb
    have xt := ext_push L2' na keep
    have l3 := ly_push (o := .ins pr2 []) L2' na keep upd_same ⟨dx, [], rfl, rfl, .nil⟩
    have self : ∀ {ι' : List Addr} {H' : Hp}, Ext (ι2 ++ [a]) (upd (upd H2 dx (.own a)) a (.ins (D.ca pr2) dx [])) ι' H' → RV D ι' H' (.ref S2.length) (.ref a) := fun e => by
      refine ⟨a, e.get ?_, rfl⟩
      rw [← L2'.len, List.getElem?_append_right (Nat.le_refl _), Nat.sub_self]
      rfl
    refine ⟨_, _, _, _, Ra, l3, .cons (self Ext.refl) (rz.ext xt), hc, fun ι' S' H' v y e l r q => ?_, fun ι' S' H' y cls dd e l r q => cx ι' S' H' y cls dd ((e2.trans xt).trans e) l r q⟩
    obtain ⟨rfl, q⟩ := q
    exact ⟨rv_non r, cn ι' S' H' _ _ ((e2.trans xt).trans e) l (self e) q⟩

/-! ### built-in calls -/
theorem boot_blt (b : Blt) : bootBuiltins (sN b.nm) = some b.val := by
  cases b <;> decide +kernel
theorem s_blt {b : Blt} {es : REs} {x : Str} {as : List Expr} {p : Pos} (o : Okx X D F T M fl C lv W c) (hx : okGl c b.nm x = true) (hb : (M.nb.any (· == b.nm)) = true) (ha : PA X as (rdEs D T C W es)) (hn : noStar as = true) (hne : (!as.isEmpty) = true) :
    PE X (.Call (.Name x p) as [] pos) (rdE D T C W (.blt b es)) := by
  obtain ⟨e, hg, hd, hnn⟩ := gl_of o hx
  subst e
  obtain ⟨y, hy, e⟩ := List.any_eq_true.mp hb
  have e : y = b.nm := eq_of_beq e
  subst e
  have hm := o.lk.nb _ hy
  have hc := blt_G (D := D) o.hK o.calm o.grd o.u80 o.lk.is b
  cases as with
  | nil => cases hne
  | cons a as =>
    have s1 := (noStar_cons (env := X.env) hn).1
    have s2 := noStar_any (env := X.env) (pos := pos) (noStar_cons (env := X.env) hn).2
    have fin : ∀ {t : TE}, PE X (.Call (.Name (sN b.nm) p) (a :: as) [] pos) (tCB (rdVs D fun vs S Q => wpBlt T b vs S Q) (rdEs D T C W es)) := by
      intro _
      have hv := boot_blt b
      cases b <;> first
        | exact pe_callB hc hg hm hv ha hnn hd s1 s2
        | exact pe_callTy hc hg hm hv ha hnn hd s1 s2
    refine PE.imp (fin (t := fun _ _ _ => True)) fun σc H Q z => ?_
    obtain ⟨ι, S, σ, Qa, Ra, L, G, hw, cn, cx⟩ := z
    exact ⟨ι, S, σ, _, Ra, L, G, hw, fun ι1 S1 H1 vs xs e1 L1 r1 l1 q1 => ⟨ι1, S1, vs, Qa, L1, r1, q1, cn.ext e1⟩, cx⟩
end
end Rp
/-! # Methods, tests -/
namespace Rp
open PySem PySem.Spec PyProof.Rows L2

/-- a method's call: its object first, then the method, then the arguments -/
theorem meth_run {Md : Model} {A : Around} {E : Value → Shared → Prop} {s : Shared} {env : Env} {e : Expr} {name : Str} {apos pos : Pos} {as : List Expr} {kws : List Keyword} {Q : Value → Shared → Prop}
    (hbase : attributeBase e name env (eval e env) = eval e env) (hline : (apos.endLine == pos.line) = true) (hform : methodCallForm (as.length + kws.length) (backTo pos (starEach as env)) (backToKw pos (keywordEach kws env)) = true)
    (h : wpAny Md A (eval e env) (fun ov s1 => wpAny Md A (getMethod ov name (do return (← importBound e env).getD true)) (fun fx s2 => wpAny Md A (callWith pos fx.1 fx.2 (backTo pos (starEach as env)) (backToKw pos (keywordEach kws env))) Q E s2) E s1) E s) :
    wpAny Md A (eval (.Call (.Attribute e name apos) as kws pos) env) Q E s := by
  rw [arm_eval_Call, hbase]
  refine wpAny_bind (wpAny_mono h (fun ov s1 h1 => ?_) fun _ _ z => z)
  refine wpAny_bind (wpAny_standAt ?_)
  have hpos : methodCallPos true e env apos pos = pure pos := by
    unfold methodCallPos
    simp [hline]
  unfold methodCall
  rw [hform]
  refine wpAny_bind (wpAny_holding (wpAny_mono h1 (fun fx s2 h2 => ?_) fun _ _ z => z))
  exact wpAny_bind (wpAny_of_eq hpos h2)

theorem methOf_cases {T : Tab} {S : Store} {v : PV} {m : String} {f : Nat} (h : methOf T S v m = some f) : ∃ i k fs cd, v = .ref i ∧ S[i]? = some (.ins k fs) ∧ fs.lookup m = none ∧ T.cls[k]? = some cd ∧ cd.ms.lookup m = some f := by
  cases v with
  | ref i =>
    simp only [methOf] at h
    cases e : S[i]? with
    | none => rw [e] at h; cases h
    | some ob =>
      rw [e] at h
      cases ob with
      | ins k fs =>
        simp only at h
        cases e1 : fs.lookup m with
        | some y => rw [e1] at h; cases h
        | none =>
          rw [e1] at h
          cases e2 : T.cls[k]? with
          | none => rw [e2] at h; cases h
          | some cd =>
            rw [e2] at h
            exact ⟨i, k, fs, cd, rfl, e, e1, e2, h⟩
      | _ => cases h
  | _ => cases h
theorem isLst_cases {S : Store} {v : PV} (h : isLst S v = true) : ∃ i xs, v = .ref i ∧ S[i]? = some (.lst xs) := by
  cases v with
  | ref i =>
    simp only [isLst] at h
    cases e : S[i]? with
    | none => rw [e] at h; cases h
    | some ob =>
      rw [e] at h
      cases ob with
      | lst xs => exact ⟨i, xs, rfl, e⟩
      | _ => cases h
  | _ => cases h
theorem recv_own {T : Tab} {S : Store} {v : PV} {m : String} {b : Option BM} {f : Nat} (h : recv T S v m b = some (.inl f)) : methOf T S v m = some f := by
  unfold recv at h
  cases e : methOf T S v m with
  | some g => rw [e] at h; cases h; rfl
  | none =>
    rw [e] at h
    cases b with
    | none => cases h
    | some b' =>
      simp only at h
      split at h <;> cases h
theorem recv_blt {T : Tab} {S : Store} {v : PV} {m : String} {b : Option BM} {b' : BM} (h : recv T S v m b = some (.inr b')) : b = some b' ∧ isLst S v = true := by
  unfold recv at h
  cases e : methOf T S v m with
  | some g => rw [e] at h; cases h
  | none =>
    rw [e] at h
    cases b with
    | none => cases h
    | some b2 =>
      simp only at h
      split at h
      · cases h; exact ⟨rfl, by assumption⟩
      · cases h

/-- a list's own methods -/
def BM.id : BM → String
  | .append => "list.append"
  | .pop => "list.pop"

section
variable {X : Cx} {D : Ad} {F : Fd} {T : Tab} {M : Nm} {fl : List String} {C : CS} {lv : Nat} {W : WX} {c : Sc} {pos : Pos}

theorem bm_at {b : BM} {pins : List (Addr × Obj)} {σc : L2.St} {s : Shared} {ι : List Addr} {H : Hp} {S : Store} {i : Nat} {a : Addr} {vs : List PV} {xs : List V} {us : List Value} {Qa : QV} {Q : VK}
    (I : Inv X pins σc H s) (L : Ly D ι H S) (hi : ι[i]? = some a) (r : RVs D ι H vs xs) (rx : Vals xs us) (hw : wpBM b (.ref i) vs S Qa) (cn : Cnt D ι H Qa Q) :
    wpAny (model X.prog X.w) X.A (call (.builtin b.id) (.ref a :: us)) (EP X pins σc Q) X.xe s := by
  have rself : RelV (V.ref a) (Value.ref a) := rfl
  cases b with
  | append =>
    match vs, r, hw with
    | [], r, hw => exact (show False from hw).elim
    | [v], r, hw =>
      obtain ⟨ys, hs, hl, q⟩ : ∃ ys, S[i]? = some (SO.lst ys) ∧ ys.length < lim ∧ Qa .non (S.set i (SO.lst (ys ++ [v]))) := hw
      obtain ⟨x, rfl, rv⟩ := rvs1 r
      obtain ⟨a', ws, hi', ha, rw'⟩ := L.lst hs
      rw [hi] at hi'; cases hi'
      refine mt_append pins s σc H _ _ _ us Q I rself rx ⟨a, ws, x, rfl, rfl, ha, by rw [rw'.len, lim_eq]; exact hl, ?_⟩
      obtain ⟨e1, l1⟩ := L.setLst (xs := ys ++ [v]) (vs := ws ++ [x]) hi hs (rw'.app (.cons rv .nil))
      exact cn _ _ _ .non .non e1 l1 rfl q
    | _ :: _ :: _, r, hw => exact (show False from hw).elim
  | pop =>
    match vs, r, hw with
    | [], r, hw =>
      obtain ⟨ys, y, hs, q⟩ : ∃ ys y, S[i]? = some (SO.lst (ys ++ [y])) ∧ Qa y (S.set i (SO.lst ys)) := hw
      have hx : xs = [] := r
      subst hx
      obtain ⟨a', ws, hi', ha, rw'⟩ := L.lst hs
      rw [hi] at hi'; cases hi'
      obtain ⟨ws', z, rfl, r1, r2⟩ := rw'.snoc
      refine mt_pop pins s σc H _ _ _ us Q I rself rx ⟨a, _, z, rfl, rfl, ha, ?_, ?_⟩
      · rw [List.length_append, List.length_singleton, Nat.add_sub_cancel, List.getElem?_append_right (Nat.le_refl _), Nat.sub_self]
        rfl
      · rw [List.dropLast_concat]
        obtain ⟨e1, l1⟩ := L.setLst (xs := ys) (vs := ws') hi hs r1
        exact cn _ _ _ y z e1 l1 (r2.ext e1) q
    | _ :: _, r, hw => exact (show False from hw).elim

theorem s_meth {o' : RE} {m : String} {b : Option BM} {es : REs} {ks : List String} {kes : REs} {arr : List (Nat ⊕ PV)} {e : Expr} {as : List Expr} {kws : List Keyword} {apos : Pos} (o : Okx X D F T M fl C lv W c)
    (hb : notSuper e = true) (hline : (apos.endLine == pos.line) = true) (he : PE X e (rdE D T C W o')) (hl : as.length = es.len) (ha : PA X as (rdEs D T C W es)) (hn : noStar as = true) (hk : PK X kws (rdEs D T C W kes)) (hkl : kws.length = kes.len) (hnm : namesOf kws = ks.map fun k => some (sN k)) (hne : (kws.isEmpty || !as.isEmpty) = true)
    (hfew : as.length + kws.length < 20) (hs : (T.cls.all fun d => match d.ms.lookup m with
        | some f => M.has f true as.length ks arr
        | .none => true) = true) (hbm : (match b with
        | some b' => b'.nm == m && kws.isEmpty
        | .none => true) = true) :
    PE X (.Call (.Attribute e (sN m) apos) as kws pos) (rdE D T C W (.meth o' m b es ks kes arr)) := by
  refine ⟨fun pins st σc H Q I z => ?_⟩
  obtain ⟨ι, S, σ, Qa, Ra, L, G, hw, cn, cx⟩ := z
  obtain ⟨k1, k2, k3⟩ := kw_names (env := X.env) (pos := pos) hnm
  have hform : methodCallForm (as.length + kws.length) (backTo pos (starEach as X.env)) (backToKw pos (keywordEach kws X.env)) = true := by
    unfold methodCallForm
    rw [noStar_all hn, k1]
    simp only [Bool.true_and, decide_eq_true_eq]
    split <;> omega
  refine meth_run (base_of hb _) hline hform (thn (he.run pins st σc H (fun x H1 => ∃ ι1 S1 v, Ext ι H ι1 H1 ∧ Ly D ι1 H1 S1 ∧ RV D ι1 H1 v x ∧ onRecv (recv T S1 v m b) (fun f => wpEs T C es σ S1 (fun vs S2 => wpEs T C kes σ S2 (fun ws S3 => C f (v :: fill arr (vs ++ ws)) S3 Qa Ra) Ra) Ra)
    (fun b' => wpEs T C es σ S1 (fun vs S2 => wpBM b' v vs S2 Qa) Ra)) I ⟨ι, S, σ, _, Ra, L, G, hw, fun ι1 S1 H1 v x e1 L1 r1 q1 => ⟨ι1, S1, v, e1, L1, r1, q1⟩, cx⟩) fun u s1 h1 => ?_)
  obtain ⟨x, H1, I1, rx, ι1, S1, v, e1, L1, r1, q1⟩ := h1
  cases hr : recv T S1 v m b with
  | none => rw [hr] at q1; exact q1.elim
  | some fb =>
    rw [hr] at q1
    cases fb with
    | inl f =>
      obtain ⟨i, k, fs, cd, rfl, es1, en, ec, em⟩ := methOf_cases (recv_own hr)
      obtain ⟨p, hi, rfl⟩ := rv_ref r1
      obtain ⟨p', dx, fs', hi', hp, n1, n2⟩ := L1.ins es1
      rw [hi] at hi'; cases hi'
      obtain rfl : u = Value.ref p := rx
      obtain ⟨c1, c2, c3⟩ := o.lk.ms k cd ec
      have M1 := c2 m f em
      have hsh : M.has f true as.length ks arr = true := by
        have := List.all_eq_true.mp hs cd (List.mem_of_getElem? ec)
        rw [em] at this
        exact this
      refine getmeth_ok I1 hp (by rw [o.hK]; exact c1) (by rw [o.hK]; exact M1) (fld_none n1 en) ?_
      refine args_run (first := [.ref p]) (P := fun vs ws S3 => C f (.ref i :: fill arr (vs ++ ws)) S3 Qa Ra) (by rw [o.hK]; exact M1.kp) hl ha hn hk hkl hnm hne I1 L1 (G.ext e1) q1 (cx.ext e1) pos fun us u2 s2 xs ys H2 ι2 S2 vs ws I2 rx2 ry e2 L2' r1' r2' l1 l2 q => ?_
      obtain ⟨d, hd⟩ := o.lk.inn _ _ _ _ _ q
      obtain ⟨dv, hdf, hbn⟩ := o.lk.sh _ (Nm.has_mem hsh) d hd
      obtain ⟨zs, rz, vz⟩ := fill_rel (r1'.app r2') (rx2.append ry) arr dv hdf
      have G2 := o.lk.fn f d hd
      rw [← o.hK] at G2
      have n1' := vals_len r1' rx2
      have n2' := vals_len r2' ry
      have bb := hbn s2 (.ref p) (us ++ u2) (by rw [← o.hK]; exact I2.kIn) (by rw [List.length_append, n1', n2', l1, l2])
      have bb := binds_at (F := F) (d := d) (dv := dv) (sh := ⟨f, true, as.length, ks, arr⟩) (n1'.trans l1) (n2'.trans l2) bb
      have r0 : RV D ι2 H2 (.ref i) (.ref p) := ⟨p, e2.get hi, rfl⟩
      refine run_g (vs := .ref p :: zs) (us := .ref p :: fillV arr dv (us ++ u2)) G2 (o.room.mono (Nat.le_succ _)) o.grd o.tk I2 (.cons rfl vz) (by simpa using bb) ?_
      exact ⟨ι2, S2, _, Qa, Ra, L2', .cons r0 rz, q, (cn.ext (e1.trans e2)), fun ι' S' H' y cls dd e l rx q => cx ι' S' H' y cls dd ((e1.trans e2).trans e) l rx q⟩
    | inr b' =>
      obtain ⟨rfl, hls⟩ := recv_blt hr
      obtain ⟨i, xs0, rfl, es1⟩ := isLst_cases hls
      obtain ⟨p, hi, rfl⟩ := rv_ref r1
      obtain ⟨p', ws0, hi', hp, rw0⟩ := L1.lst es1
      rw [hi] at hi'; cases hi'
      obtain rfl : u = Value.ref p := rx
      rw [Bool.and_eq_true] at hbm
      have em : b'.nm = m := eq_of_beq hbm.1
      have ek : kws = [] := List.isEmpty_iff.mp hbm.2
      subst em ek
      obtain ⟨t1, t2⟩ := tyV_is (T := "list") I1 (show RelV (V.ref p) (Value.ref p) from rfl) (.inl ⟨rfl, ws0, SqL.of hp⟩)
      have q1 : wpEs T C es σ S1 (fun vs S2 => wpBM b' (.ref i) vs S2 Qa) Ra := q1
      have body : ∀ us s2, Behind X D pins σc ι1 H1 es.len (fun vs S2 => wpBM b' (.ref i) vs S2 Qa) us s2 → wpAny (model X.prog X.w) X.A (call (.builtin b'.id) (.ref p :: us)) (EP X pins σc Q) X.xe s2 := fun us s2 hz => by
        obtain ⟨xs, H2, ι2, S2, vs, I2, rx2, e2, L2', r2, l2, q2⟩ := hz
        exact bm_at I2 L2' (e2.get hi) r2 rx2 q2 (cn.ext (e1.trans e2))
      have cw : wpAny (model X.prog X.w) X.A (callWith pos (.builtin b'.id) [.ref p] (backTo pos (starEach as X.env)) []) (EP X pins σc Q) X.xe s1 := by
        cases as with
        | nil =>
          have he0 : es = .nil := by cases es with
            | nil => rfl
            | cons a b => cases hl
          subst he0
          refine Calls.callWith_builtin rfl (PySem.evalArgs_none (body [] s1 ⟨[], H1, ι1, S1, [], I1, .nil, Ext.refl, L1, .nil, rfl, q1⟩))
        | cons a as =>
          have hA := es_run ha I1 L1 (G.ext e1) q1 (cx.ext e1) pos
          have hs1 := (noStar_cons (env := X.env) hn).1
          rw [hs1] at hA ⊢
          refine Calls.callWith_builtin (by show (false || (backTo pos (starEach as X.env)).any (·.1)) = false; rw [noStar_any (noStar_cons (env := X.env) hn).2] <;> rfl) (Calls.evalArgs_plain ?_)
          exact thn hA fun us s2 hz => body us s2 hz
      cases b' with
      | append => exact getMethod_builtin t1 PySem.F.plainAttrs_list PySem.F.slot_list_append PySem.F.type_list_append t2 cw
      | pop => exact getMethod_builtin t1 PySem.F.plainAttrs_list PySem.F.slot_list_pop PySem.F.type_list_pop t2 cw
end
end Rp
/-! # Tests; and, or -/
namespace Rp
open PySem PySem.Spec PyProof.Rows L2
section
variable {X : Cx} {D : Ad} {F : Fd} {T : Tab} {M : Nm} {fl : List String} {C : CS} {lv : Nat} {W : WX} {c : Sc} {pos : Pos}

theorem cmp_mono {op : CmpOp} {v w : PV} {S : Store} {R R' : Bool → Prop} (i : ∀ k, R k → R' k) (z : wpCmp op v w S R) : wpCmp op v w S R' := by
  unfold wpCmp at z ⊢
  cases op with
  | Eq =>
    rcases eq_cases (show wpEq v w S R from z) with ⟨i1, j1, rfl, rfl, q⟩ | ⟨i1, j1, rfl, rfl, q⟩ | ⟨i1, j1, rfl, rfl, q⟩ | ⟨d1, d2, h1, h2, h3, h4, q⟩
    · exact i _ q
    · exact i _ q
    · exact i _ q
    · cases v <;> cases w <;> first
        | exact i _ z
        | exact ⟨d1, d2, h1, h2, h3, h4, i _ q⟩
  | NotEq =>
    rcases eq_cases (show wpEq v w S (fun k => R (!k)) from z) with ⟨i1, j1, rfl, rfl, q⟩ | ⟨i1, j1, rfl, rfl, q⟩ | ⟨i1, j1, rfl, rfl, q⟩ | ⟨d1, d2, h1, h2, h3, h4, q⟩
    · exact i _ q
    · exact i _ q
    · exact i _ q
    · cases v <;> cases w <;> first
        | exact i _ z
        | exact ⟨d1, d2, h1, h2, h3, h4, i _ q⟩
  | Is => cases v <;> cases w <;> first | exact i _ z | exact z
  | IsNot => cases v <;> cases w <;> first | exact i _ z | exact z
  | _ => cases v <;> cases w <;> first | exact i _ z | exact z

theorem CnB.here {ι : List Addr} {H : Hp} {S : Store} {Qb : Bool → Store → Prop} {Q : Bool → Hp → Prop} (cn : CnB D ι H Qb Q) (L : Ly D ι H S) {k : Bool} (q : Qb k S) : Q k H := cn ι S H k Ext.refl L q

theorem t_cmp {op : CmpOp} {a b : RE} {l r : Expr} (o : Okx X D F T M fl C lv W c) (hm : behindInMarks op r = false) (ha : PE X l (rdE D T C W a)) (hb : PE X r (rdE D T C W b)) : PT X (.Compare l [op] [r] pos) (rdT D T C W (.cmp op a b)) := by
  refine PT.imp (pt_cmpR (op_cmpG (D := D) o.hK o.u64) ha hb hm) fun σc H Q z => ?_
  obtain ⟨ι, S, σ, Qb, Ra, L, G, hw, cn, cx⟩ := z
  refine ⟨ι, S, σ, _, Ra, L, G, hw, fun ι1 S1 H1 v x e1 L1 r1 q1 => ?_, cx⟩
  refine ⟨ι1, S1, σ, _, Ra, L1, G.ext e1, q1, fun ι2 S2 H2 w y e2 L2' r2 q2 => ?_, cx.ext e1⟩
  refine ⟨ι2, S2, v, w, (fun u S3 => ∃ k, u = .bl k ∧ Qb k S3), L2', r1.ext e2, r2, cmp_mono (fun k hk => ⟨k, rfl, hk⟩) q2, fun ι3 S3 H3 u y3 e3 L3 r3 q3 => ?_⟩
  obtain ⟨k, rfl, q⟩ := q3
  cases rv_bl r3
  exact ⟨k, rfl, (cn.ext ((e1.trans e2).trans e3)).here L3 q⟩
theorem t_chain {op op' : CmpOp} {a b d : RE} {l r t : Expr} (o : Okx X D F T M fl C lv W c) (hm : lastMarks [op, op'] [r, t] = false) (ha : PE X l (rdE D T C W a)) (hb : PE X r (rdE D T C W b)) (hd : PE X t (rdE D T C W d)) :
    PT X (.Compare l [op, op'] [r, t] pos) (rdT D T C W (.chain op op' a b d)) := by
  refine PT.imp (pt_chain (op_cmpG (D := D) o.hK o.u64) (op_cmpG (D := D) o.hK o.u64) ha hb hd hm) fun σc H Q z => ?_
  obtain ⟨ι, S, σ, Qb, Ra, L, G, hw, cn, cx⟩ := z
  refine ⟨ι, S, σ, _, Ra, L, G, hw, fun ι1 S1 H1 v x e1 L1 r1 q1 => ?_, cx⟩
  refine ⟨ι1, S1, σ, _, Ra, L1, G.ext e1, q1, fun ι2 S2 H2 w y e2 L2' r2 q2 => ?_, cx.ext e1⟩
  have q2' : wpCmp op v w S2 fun k => (if k = true then wpE T C d σ S2 (fun z S3 => wpCmp op' w z S3 fun k' => Qb k' S3) Ra else Qb false S2) := q2
  refine ⟨ι2, S2, v, w, (fun u S3 => S3 = S2 ∧ ∃ k, u = .bl k ∧ (if k = true then wpE T C d σ S2 (fun z S3 => wpCmp op' w z S3 fun k' => Qb k' S3) Ra else Qb false S2)), L2', r1.ext e2, r2, cmp_mono (fun k hk => ⟨rfl, k, rfl, hk⟩) q2', fun ι3 S3 H3 u y3 e3 L3 r3 q3 => ?_⟩
  obtain ⟨rfl, k, rfl, q⟩ := q3
  cases rv_bl r3
  refine ⟨k, rfl, ?_⟩
  have e13 := (e1.trans e2).trans e3
  cases k with
  | true =>
    simp only [if_true] at q ⊢
    refine ⟨ι3, S3, σ, _, Ra, L3, G.ext e13, q, fun ι4 S4 H4 z y4 e4 L4 r4 q4 => ?_, cx.ext e13⟩
    refine ⟨ι4, S4, w, z, (fun u S5 => ∃ k, u = .bl k ∧ Qb k S5), L4, (r2.ext e3).ext e4, r4, cmp_mono (fun k hk => ⟨k, rfl, hk⟩) q4, fun ι5 S5 H5 u y5 e5 L5 r5 q5 => ?_⟩
    obtain ⟨k', rfl, q6⟩ := q5
    cases rv_bl r5
    exact ⟨k', rfl, (cn.ext ((e13.trans e4).trans e5)).here L5 q6⟩
  | false =>
    simp only [Bool.false_eq_true, if_false] at q ⊢
    exact ⟨false, rfl, (cn.ext e13).here L3 q⟩
theorem t_not {a : RE} {e : Expr} (ha : PT X e (rdT D T C W a)) : PT X (.UnaryOp .Not e pos) (rdT D T C W (.not a)) := by
  refine PT.imp (pt_not ha) fun σc H Q z => ?_
  obtain ⟨ι, S, σ, Qb, Ra, L, G, hw, cn, cx⟩ := z
  exact ⟨ι, S, σ, _, Ra, L, G, hw, fun ι1 S1 H1 k e1 L1 q1 => (cn.ext e1).here L1 q1, cx⟩
theorem t_ite {d a b : RE} {t x y : Expr} (hd : PT X t (rdT D T C W d)) (ha : PT X x (rdT D T C W a)) (hb : PT X y (rdT D T C W b)) : PT X (.IfExp t x y pos) (rdT D T C W (.ite d a b)) := by
  refine ⟨fun pins s σc H Q I z => ?_⟩
  obtain ⟨ι, S, σ, Qb, Ra, L, G, hw, cn, cx⟩ := z
  refine isTrue_IfExp (thn (hd.run pins s σc H (fun k H1 => (if k = true then rdT D T C W a σc H1 Q else rdT D T C W b σc H1 Q)) I ⟨ι, S, σ, _, Ra, L, G, hw, fun ι1 S1 H1 k e1 L1 q1 => ?_, cx⟩) fun k s1 h1 => ?_)
  · cases k with
    | true =>
      simp only [if_true] at q1 ⊢
      exact ⟨ι1, S1, σ, Qb, Ra, L1, G.ext e1, q1, cn.ext e1, cx.ext e1⟩
    | false =>
      simp only [Bool.false_eq_true, if_false] at q1 ⊢
      exact ⟨ι1, S1, σ, Qb, Ra, L1, G.ext e1, q1, cn.ext e1, cx.ext e1⟩
  · obtain ⟨H1, I1, q1⟩ := h1
    cases k with
    | true =>
      simp only [if_true] at q1 ⊢
      exact ha.run pins s1 σc H1 Q I1 q1
    | false =>
      simp only [Bool.false_eq_true, if_false] at q1 ⊢
      exact hb.run pins s1 σc H1 Q I1 q1
theorem t_and_nil : PW X (.BoolOp .And [] pos) (rdAnd D T C W .nil) := ⟨fun wh pins s σc H Q I z => by
  obtain ⟨ι, S, σ, Qb, Ra, L, G, hw, cn, cx⟩ := z
  exact isTrue_and_nil ⟨H, I, cn.here L (show Qb true S from hw)⟩⟩
theorem t_or_nil : PW X (.BoolOp .Or [] pos) (rdOr D T C W .nil) := ⟨fun wh pins s σc H Q I z => by
  obtain ⟨ι, S, σ, Qb, Ra, L, G, hw, cn, cx⟩ := z
  exact isTrue_or_nil ⟨H, I, cn.here L (show Qb false S from hw)⟩⟩
theorem t_and_cons {a : RE} {as : REs} {e : Expr} {es : List Expr} (ha : PT X e (rdT D T C W a)) (hs : PW X (.BoolOp .And es pos) (rdAnd D T C W as)) : PW X (.BoolOp .And (e :: es) pos) (rdAnd D T C W (.cons a as)) := ⟨fun wh pins s σc H Q I z => by
  obtain ⟨ι, S, σ, Qb, Ra, L, G, hw, cn, cx⟩ := z
  refine isTrue_and (thn (ha.run pins s σc H (fun k H1 => (if k = true then rdAnd D T C W as σc H1 Q else Q false H1)) I ⟨ι, S, σ, _, Ra, L, G, hw, fun ι1 S1 H1 k e1 L1 q1 => ?_, cx⟩) fun k s1 h1 => ?_)
  · cases k with
    | true =>
      simp only [if_true] at q1 ⊢
      exact ⟨ι1, S1, σ, Qb, Ra, L1, G.ext e1, q1, cn.ext e1, cx.ext e1⟩
    | false =>
      simp only [Bool.false_eq_true, if_false] at q1 ⊢
      exact (cn.ext e1).here L1 q1
  · obtain ⟨H1, I1, q1⟩ := h1
    cases k with
    | true =>
      simp only [if_true] at q1 ⊢
      exact hs.run wh pins s1 σc H1 Q I1 q1
    | false =>
      simp only [Bool.false_eq_true, if_false] at q1 ⊢
      exact ⟨H1, I1, q1⟩⟩
theorem t_or_cons {a : RE} {as : REs} {e : Expr} {es : List Expr} (ha : PT X e (rdT D T C W a)) (hs : PW X (.BoolOp .Or es pos) (rdOr D T C W as)) : PW X (.BoolOp .Or (e :: es) pos) (rdOr D T C W (.cons a as)) := ⟨fun wh pins s σc H Q I z => by
  obtain ⟨ι, S, σ, Qb, Ra, L, G, hw, cn, cx⟩ := z
  refine isTrue_or (thn (ha.run pins s σc H (fun k H1 => (if k = true then Q true H1 else rdOr D T C W as σc H1 Q)) I ⟨ι, S, σ, _, Ra, L, G, hw, fun ι1 S1 H1 k e1 L1 q1 => ?_, cx⟩) fun k s1 h1 => ?_)
  · cases k with
    | false =>
      simp only [Bool.false_eq_true, if_false] at q1 ⊢
      exact ⟨ι1, S1, σ, Qb, Ra, L1, G.ext e1, q1, cn.ext e1, cx.ext e1⟩
    | true =>
      simp only [if_true] at q1 ⊢
      exact (cn.ext e1).here L1 q1
  · obtain ⟨H1, I1, q1⟩ := h1
    cases k with
    | false =>
      simp only [Bool.false_eq_true, if_false] at q1 ⊢
      exact hs.run wh pins s1 σc H1 Q I1 q1
    | true =>
      simp only [if_true] at q1 ⊢
      exact ⟨H1, I1, q1⟩⟩
theorem t_and {es : REs} {vs : List Expr} (h : PW X (.BoolOp .And vs pos) (rdAnd D T C W es)) : PT X (.BoolOp .And vs pos) (rdT D T C W (.and es)) := PT.imp h.pt fun σc H Q z => z
theorem t_or {es : REs} {vs : List Expr} (h : PW X (.BoolOp .Or vs pos) (rdOr D T C W es)) : PT X (.BoolOp .Or vs pos) (rdT D T C W (.or es)) := PT.imp h.pt fun σc H Q z => z
/-- a value's truth -/
theorem t_val {r : RE} {e : Expr} (o : Okx X D F T M fl C lv W c) (ha : PE X e (rdE D T C W r)) (he : ∀ whole, isTrue e X.env whole = (do let v ← whole; standAt e.pos; holding [v] (truthy v)))
    (hi : ∀ σ S Qb Ra, wpT T C r σ S Qb Ra → wpE T C r σ S (fun v S1 => ∃ k, tru S1 v = some k ∧ Qb k S1) Ra) : PT X e (rdT D T C W r) := by
  refine PT.imp (pt_truth ha he) fun σc H Q z => ?_
  obtain ⟨ι, S, σ, Qb, Ra, L, G, hw, cn, cx⟩ := z
  refine ⟨ι, S, σ, _, Ra, L, G, hi _ _ _ _ hw, fun ι1 S1 H1 v x e1 L1 r1 q1 => ?_, cx⟩
  obtain ⟨k, ek, q⟩ := q1
  exact ⟨k, by rw [o.hK]; exact tru_at L1 r1 ek, (cn.ext e1).here L1 q⟩

/-! ### and, or as values -/
theorem s_and_one {a : RE} {e : Expr} (ha : PE X e (rdE D T C W a)) : PE X (.BoolOp .And [e] pos) (rdAndV D T C W (.cons a .nil)) := PE.imp (pe_one ha) fun σc H Q z => z
theorem s_or_one {a : RE} {e : Expr} (ha : PE X e (rdE D T C W a)) : PE X (.BoolOp .Or [e] pos) (rdOrV D T C W (.cons a .nil)) := PE.imp (pe_one ha) fun σc H Q z => z
theorem s_and_cons {a b : RE} {as : REs} {e e2 : Expr} {es : List Expr} (o : Okx X D F T M fl C lv W c) (ha : PE X e (rdE D T C W a)) (hs : PE X (.BoolOp .And (e2 :: es) pos) (rdAndV D T C W (.cons b as))) : PE X (.BoolOp .And (e :: e2 :: es) pos) (rdAndV D T C W (.cons a (.cons b as))) := by
  refine PE.imp (pe_andT ha hs) fun σc H Q z => ?_
  obtain ⟨ι, S, σ, Qa, Ra, L, G, hw, cn, cx⟩ := z
  have hw : wpE T C a σ S (fun v S1 => ∃ k, tru S1 v = some k ∧ if k = true then wpAndV T C (.cons b as) σ S1 Qa Ra else Qa v S1) Ra := hw
  refine ⟨ι, S, σ, _, Ra, L, G, hw, fun ι1 S1 H1 v x e1 L1 r1 q1 => ?_, cx⟩
  obtain ⟨k, ek, q⟩ := q1
  refine ⟨k, by rw [o.hK]; exact tru_at L1 r1 ek, ?_⟩
  cases k with
  | true =>
    simp only [if_true] at q ⊢
    exact ⟨ι1, S1, σ, Qa, Ra, L1, G.ext e1, q, cn.ext e1, cx.ext e1⟩
  | false =>
    simp only [Bool.false_eq_true, if_false] at q ⊢
    exact (cn.ext e1).here L1 r1 q
theorem s_or_cons {a b : RE} {as : REs} {e e2 : Expr} {es : List Expr} (o : Okx X D F T M fl C lv W c) (ha : PE X e (rdE D T C W a)) (hs : PE X (.BoolOp .Or (e2 :: es) pos) (rdOrV D T C W (.cons b as))) : PE X (.BoolOp .Or (e :: e2 :: es) pos) (rdOrV D T C W (.cons a (.cons b as))) := by
  refine PE.imp (pe_orT ha hs) fun σc H Q z => ?_
  obtain ⟨ι, S, σ, Qa, Ra, L, G, hw, cn, cx⟩ := z
  have hw : wpE T C a σ S (fun v S1 => ∃ k, tru S1 v = some k ∧ if k = true then Qa v S1 else wpOrV T C (.cons b as) σ S1 Qa Ra) Ra := hw
  refine ⟨ι, S, σ, _, Ra, L, G, hw, fun ι1 S1 H1 v x e1 L1 r1 q1 => ?_, cx⟩
  obtain ⟨k, ek, q⟩ := q1
  refine ⟨k, by rw [o.hK]; exact tru_at L1 r1 ek, ?_⟩
  cases k with
  | false =>
    simp only [Bool.false_eq_true, if_false] at q ⊢
    exact ⟨ι1, S1, σ, Qa, Ra, L1, G.ext e1, q, cn.ext e1, cx.ext e1⟩
  | true =>
    simp only [if_true] at q ⊢
    exact (cn.ext e1).here L1 r1 q
end
end Rp
/-! # An object's own ==, !=, len, str -/
namespace Rp
open PySem PySem.Spec PySem.Calls PyProof.Rows L2
section
variable {prog : Program} {w : World} {A : Around} {E : Value → Shared → Prop} {s : Shared} {K : PySem.W.Frag} {x C f : Addr} {ox : Obj} {od : Option Obj} {b tb : Value}
/-- a special method that is built in, if it is there -/
theorem bound_b {M : Model} {name : Str} {id : String} {args : List Value} {Q : Option Value → Shared → Prop} (KI : K.In s.heap) (I : PySem.W.InstAt s.heap x ox C od) (hs : PySem.W.findIn K (.ref C) name = some (some (.builtin id))) (hb : ∀ self, bindSpecial (.builtin id) self = pure (.builtin id, [self]))
    (h : wpAny M A (call (.builtin id) (.ref x :: args)) (fun v => Q (some v)) E s) : wpAny M A (callSpecialIfBound? (.ref x) name args) Q E s := by
  simp only [callSpecialIfBound?, bindSpecialIfBound?]
  refine wpAny_holding (wpAny_bind (wpAny_bind (wpAny_bind (I.type.here ((PySem.W.looks_findIn KI hs).here ?_)))))
  refine wpAny_bind (wpAny_askSetting (wpAny_ite ?_))
  have fin : wpAny M A (call (.builtin id) ([.ref x] ++ args) >>= fun v => pure (some v)) Q E s := wpAny_bind (wpAny_mono h (fun v s' h' => wpAny_pure h') fun _ _ h' => h')
  split
  · exact wpAny_bind ((PySem.W.Looks.of_pure (hb _)).here (wpAny_pure fin))
  · exact wpAny_tryCatch (wpAny_bind ((PySem.W.Looks.of_pure (hb _)).here (wpAny_pure fin)))
/-- x != y of an object with an == of its own -/
theorem ne_own {Q : Value → Shared → Prop} (hu : A.units + 1 < cLine) (KI : K.In s.heap) (I : PySem.W.InstAt s.heap x ox C od) (hb : PySem.W.Looks (model prog w) s.heap (typeOf b) tb) (hn : PySem.W.notFirst K C tb = true) (hm : PySem.W.mroIn K C (.type "object") = some true)
    (hne : PySem.W.findIn K (.ref C) "__ne__" = some (some (.builtin "object.__ne__"))) (hs : PySem.W.findIn K (.ref C) "__eq__" = some (some (.ref f))) (hf : PySem.W.isFn K (.ref f) = true)
    (h : wpAny (model prog w) A.in1 (call (.ref f) [.ref x, b]) (fun v s' => ∃ r, v = .bool r ∧ Q (.bool (!r)) s') E s) : wpAny (model prog w) A (richCompare .NotEq (.ref x) b) Q E s := by
  have body : wpAny (model prog w) A (tryCompare (.ref x) (cmpInfo .NotEq).2.1 b) (fun r s' => ∃ v, r = some v ∧ Q v s') E s := by
    unfold tryCompare
    refine wpAny_bind (bound_b KI I hne PySem.F.slot_object_ne.bind ?_)
    refine wpAny_call (codeAny_call_builtin PySem.F.slot_object_ne.plain PySem.F.entry_object_ne (PySem.W.check_slot (i := "object.__ne__") (owner := "object") (n := "__ne__") (by decide +kernel) (by decide +kernel) (I.type.andThen (PySem.W.looks_mroIn KI hm)) (PySem.F.args_object_ne_2 _ _) ?_))
    unfold Builtin.«object.__ne__»
    refine wpAny_bind (m := slotArgs "__ne__" 1 _) (wpAny_pure ?_)
    refine wpAny_bind (m := cRoomFor _ _) (wpAny_cRoomFor (by show A.units + 1 < cLine; exact hu) ?_)
    refine wpAny_bind (m := callSpecialIfBound? (.ref x) (Str.ofString "__eq__") _) (PySem.W.ifBound_K KI I hs hf (wpAny_mono h (fun v s' hv => ?_) fun _ _ e => e))
    obtain ⟨r, rfl, hq⟩ := hv
    refine wpAny_bind (m := truthy (.bool r)) (wpAny_truthy_bool ?_)
    exact wpAny_pure (wpAny_pure ⟨_, rfl, hq⟩)
  unfold richCompare
  simp only [oneThing_ref]
  refine wpAny_holding (wpAny_bind (wpAny_cRoomFor (by omega) ?_))
  refine wpAny_bind (I.type.here (wpAny_bind (hb.here ?_)))
  split
  · rename_i q
    have e : PySem.W.subIn K tb (.ref C) = some false := by
      rcases Bool.or_eq_true_iff.mp hn with e | e
      · rw [beq_iff_eq.mp e] at q
        simp at q
      · exact beq_iff_eq.mp e
    refine wpAny_bind ((PySem.W.looks_subIn KI e).here ?_)
    simp only [Bool.false_eq_true, if_false]
    refine wpAny_bind (wpAny_mono body (fun r s' z => ?_) fun _ _ e => e)
    obtain ⟨v, rfl, hq⟩ := z
    exact wpAny_pure hq
  · refine wpAny_bind (wpAny_pure ?_)
    simp only [Bool.false_eq_true, if_false]
    refine wpAny_bind (wpAny_mono body (fun r s' z => ?_) fun _ _ e => e)
    obtain ⟨v, rfl, hq⟩ := z
    exact wpAny_pure hq
/-- len(x) of an object with a __len__ of its own -/
theorem len_own {Q : Value → Shared → Prop} (KI : K.In s.heap) (I : PySem.W.InstAt s.heap x ox C od) (hs : PySem.W.findIn K (.ref C) "__len__" = some (some (.ref f))) (hf : PySem.W.isFn K (.ref f) = true)
    (h : wpAny (model prog w) A.in1 (call (.ref f) [.ref x]) (fun v s' => ∃ (n : Nat) (t : Tok), v = .int n t ∧ n ≤ 1000000 ∧ ∀ (u tk : Tok), Q (.int n u) { s' with toks := tk }) E s) : wpAny (model prog w) A (call (.builtin "len") [.ref x]) Q E s := by
  refine Calls.call_function_entry kind_len plain_len entry_len (args_len1 _) ?_
  unfold Builtin.«len»
  refine wpAny_bind (m := oneArg "len" _) (wpAny_pure ?_)
  refine wpAny_bind (m := callSpecial? (.ref x) (Str.ofString "__len__")) (PySem.W.special_fn KI I hs (beq_iff_eq.mp hf) (wpAny_mono h (fun v s' hv => ?_) fun _ _ e => e))
  obtain ⟨n, t, rfl, hn, hq⟩ := hv
  refine wpAny_bind (wpAny_holding (wpAny_pure ?_))
  refine wpAny_bind (wpAny_letGo ?_)
  show wpAny _ _ (if ((n : Nat) : Int) < 0 then _ else _) _ _ _
  rw [if_neg (by omega)]
  show wpAny _ _ (if ((n : Nat) : Int) ≥ 2 ^ 63 then _ else _) _ _ _
  rw [if_neg (by omega)]
  exact wpAny_bind (wpAny_mkInt (wpAny_pure ⟨_, rfl, hq _ _⟩))
end
section
variable {X : Cx} {D : Ad} {F : Fd} {T : Tab} {M : Nm} {fl : List String} {C : CS} {lv : Nat} {W : WX} {c : Sc} {pos : Pos}
/-- a method of the object's own, run around A -/
theorem own_run {A : Around} {m : String} {np k f : Nat} {cd : CDef} {pins : List (Addr × Obj)} {σc : L2.St} {s : Shared} {ι : List Addr} {H : Hp} {S : Store} {i : Nat} {p : Addr} {vs : List PV} {xs : List V} {us : List Value} {Qa : QV} {Q : VK} {arr : List (Nat ⊕ PV)}
    (o : Okx X D F T M fl C lv W c) (hs : (T.cls.all fun d => match d.ms.lookup m with
      | some f => M.has f true np [] arr
      | .none => true) = true) (ec : T.cls[k]? = some cd) (em : cd.ms.lookup m = some f) (rm : Room lv A) (hg : A.guards = some []) (e0 : Env0 X.prog X.w X.K X.mg X.base A X.stack s H) (I : Inv X pins σc H s) (L : Ly D ι H S) (r0 : RV D ι H (.ref i) (.ref p)) (r1 : RVs D ι H vs xs) (x1 : Vals xs us) (l1 : vs.length = np)
    (hc : C f (.ref i :: fill arr vs) S Qa (fun _ _ => False)) (cn : Cnt D ι H Qa Q) : wpAny (model X.prog X.w) A (call (.ref (D.fa f)) (.ref p :: us)) (EP X pins σc Q) X.xe s := by
  have hsh : M.has f true np [] arr = true := by
    have := List.all_eq_true.mp hs cd (List.mem_of_getElem? ec)
    rw [em] at this
    exact this
  obtain ⟨d, hd⟩ := o.lk.inn _ _ _ _ _ hc
  obtain ⟨dv, hdf, hbn⟩ := o.lk.sh _ (Nm.has_mem hsh) d hd
  obtain ⟨zs, rz, vz⟩ := fill_rel r1 x1 arr dv hdf
  have G := o.lk.fn f d hd
  rw [← o.hK] at G
  have n1 := vals_len r1 x1
  have bb := hbn s (.ref p) us (by rw [← o.hK]; exact I.kIn) (by rw [n1, l1]; rfl)
  have e1 : us.take np = us := List.take_of_length_le (by omega)
  have bb : BindsTo s (F.fd f) ⟨.ref p :: us, []⟩ (((d.N.map sN).take d.np).zip (.ref p :: fillV arr dv us)) := by simpa [e1] using bb
  refine wpAny_call (codeAny_mono (G.run A X.stack s H ⟨.ref p :: us, []⟩ (.ref p :: fillV arr dv us) (.ref p :: zs) Q (fun _ _ _ => False) rm hg e0 bb (.cons rfl vz) ?_) fun res s' hq => ?_)
  · exact ⟨ι, S, _, Qa, _, L, .cons r0 rz, hc, cn, fun ι' S' H' x cls dd e l rx q => q.elim⟩
  · match res, hq with
    | .error e, hq =>
      obtain ⟨_, _, _, _, _, _, _, _, _, _, _, _, z⟩ := hq
      exact z.elim
    | .ok (.ret u), hq => exact I.after hq
    | .ok .next, hq => exact False.elim hq
    | .ok .brk, hq => exact False.elim hq
    | .ok .cont, hq => exact False.elim hq
theorem not_first {K : PySem.W.Frag} {C : Addr} {t : Value} (h : PySem.W.kitOne K t (.ref C) = some false) : PySem.W.notFirst K C t = true := by
  unfold PySem.W.kitOne PySem.W.kitCls at h
  split at h
  · cases h
  · simp only at h
    split at h
    · unfold PySem.W.notFirst
      rw [h]
      simp
    · cases h
theorem op_eqO {neg : Bool} (o : Okx X D F T M fl C lv W c) (hs : (T.cls.all fun d => match d.ms.lookup "__eq__" with
      | some f => M.has f true 1 [] [.inl 0]
      | .none => true) = true) : OpR X (compareOp (if neg = true then .NotEq else .Eq)) (rdV2 D (wpEqO T C neg)) := by
  intro pins s σ H x y v u Q I rx ry h
  obtain ⟨ι, S, a, b, Qa, L, ra, rb, hw, cn⟩ := h
  obtain ⟨f, hm, hk, hc⟩ := hw
  obtain ⟨i, k, fs, cd, rfl, es1, en, ec, em⟩ := methOf_cases hm
  obtain ⟨p, hi, rfl⟩ := rv_ref ra
  obtain ⟨p', dx, fs', hi', hp, n1, n2⟩ := L.ins es1
  rw [hi] at hi'; cases hi'
  obtain rfl : v = Value.ref p := rx
  obtain ⟨mA, J, _⟩ := ins_get I.hok hp
  obtain ⟨od, J, _⟩ := J.look
  obtain ⟨c1, c2, c3⟩ := o.lk.ms k cd ec
  have M1 := c2 "__eq__" f em
  have ka : knd S (.ref i) = some (.ins k) := by
    simp only [knd]
    rw [es1]
  obtain ⟨kd, ekd, hfst⟩ : ∃ kd, knd S b = some kd ∧ PySem.W.notFirst D.K (D.ca k) (kd.val D) = true := by
    unfold eqKind at hk
    rw [ka] at hk
    cases e : knd S b with
    | none => rw [e] at hk; exact hk.elim
    | some kd =>
      rw [e] at hk
      cases kd with
      | ty t => exact ⟨_, rfl, not_first (o.lk.is.ib k t (by rw [ec]; rfl))⟩
      | ins d =>
        have hk : k = d := hk
        subst hk
        refine ⟨_, rfl, ?_⟩
        unfold PySem.W.notFirst
        show (Value.ref (D.ca k) == .ref (D.ca k) || _) = true
        simp
  have hcl : ∀ c, kd = .ins c → ∃ cd, T.cls[c]? = some cd := by
    rintro d rfl
    unfold eqKind at hk
    rw [ka, ekd] at hk
    have hk : k = d := hk
    subst hk
    exact ⟨cd, ec⟩
  obtain ⟨P, Z, pz, _⟩ := kit_of I ry (tyx_of o.hK L o.lk.is ekd hcl rb)
  have lk := Z.ty (model X.prog X.w) _ I.kIn pz
  obtain ⟨m, hF⟩ := I.fr
  have cn2 : Cnt D ι H (fun v S3 => ∃ k, v = .bl k ∧ Qa (.bl (if neg = true then !k else k)) S3) (fun x H' => ∃ k, x = .bl k ∧ Q (.bl (if neg = true then !k else k)) H') := by
    rintro ι' S' H' v x e l r ⟨k, rfl, q⟩
    exact ⟨k, rv_bl r, cn ι' S' H' (.bl (if neg = true then !k else k)) _ e l rfl q⟩
  have hu := o.room.un
  cases neg with
  | false =>
    show wpAny (model X.prog X.w) X.A (richCompare .Eq (.ref p) u) (EP X pins σ Q) X.xe s
    refine PySem.W.cmp_K (op := .Eq) (tb := kd.val D) (by omega) hF I.ok.mod.kin J lk (by rw [o.hK]; exact hfst) (by rw [o.hK]; exact M1.at_) (by rw [o.hK]; exact M1.fn) ?_
    refine wpAny_mono (own_run o hs ec em (o.room.mono (Nat.le_succ _)) o.grd I.env0 I L ⟨p, hi, rfl⟩ (.cons rb .nil) (.cons ry .nil) rfl hc cn2) (fun w s' z => ?_) fun _ _ e => e
    obtain ⟨x', H', I', r', k', rfl, q⟩ := z
    obtain rfl : w = Value.bool k' := r'
    exact ⟨.bl k', H', I', rfl, q⟩
  | true =>
    show wpAny (model X.prog X.w) X.A (richCompare .NotEq (.ref p) u) (EP X pins σ Q) X.xe s
    refine ne_own (tb := kd.val D) (by omega) I.kIn J lk (by rw [o.hK]; exact hfst) (by rw [o.hK]; exact (o.lk.is.ha k cd ec).2) (by rw [o.hK]; exact o.lk.is.ne k cd ec (by rw [em]; rfl)) (by rw [o.hK]; exact M1.at_) (by rw [o.hK]; exact M1.fn) ?_
    refine wpAny_mono (own_run (A := X.A.in1) o hs ec em o.room.in1 o.grd I.env0.in1 I L ⟨p, hi, rfl⟩ (.cons rb .nil) (.cons ry .nil) rfl hc cn2) (fun w s' z => ?_) fun _ _ e => e
    obtain ⟨x', H', I', r', k', rfl, q⟩ := z
    obtain rfl : w = Value.bool k' := r'
    exact ⟨k', rfl, .bl (!k'), H', I', rfl, q⟩
theorem s_eqO {neg : Bool} {op : CmpOp} {a b : RE} {l r : Expr} (o : Okx X D F T M fl C lv W c) (ho : op = if neg = true then .NotEq else .Eq) (hm : behindInMarks op r = false) (hs : (T.cls.all fun d => match d.ms.lookup "__eq__" with
      | some f => M.has f true 1 [] [.inl 0]
      | .none => true) = true) (ha : PE X l (rdE D T C W a)) (hb : PE X r (rdE D T C W b)) : PE X (.Compare l [op] [r] pos) (rdE D T C W (.eqO neg a b)) := by
  subst ho
  refine PE.imp (pe_cmpR (op_eqO (neg := neg) o hs) ha hb hm) fun σc H Q z => ?_
  obtain ⟨ι, S, σ, Qa, Ra, L, G, hw, cn, cx⟩ := z
  refine ⟨ι, S, σ, _, Ra, L, G, hw, fun ι1 S1 H1 v x e1 L1 r1 q1 => ?_, cx⟩
  refine ⟨ι1, S1, σ, _, Ra, L1, G.ext e1, q1, fun ι2 S2 H2 w y e2 L2' r2 q2 => ?_, cx.ext e1⟩
  exact ⟨ι2, S2, v, w, Qa, L2', r1.ext e2, r2, q2, cn.ext (e1.trans e2)⟩
theorem t_eqO {neg : Bool} {op : CmpOp} {a b : RE} {l r : Expr} (o : Okx X D F T M fl C lv W c) (ho : op = if neg = true then .NotEq else .Eq) (hm : behindInMarks op r = false) (hs : (T.cls.all fun d => match d.ms.lookup "__eq__" with
      | some f => M.has f true 1 [] [.inl 0]
      | .none => true) = true) (ha : PE X l (rdE D T C W a)) (hb : PE X r (rdE D T C W b)) : PT X (.Compare l [op] [r] pos) (rdT D T C W (.eqO neg a b)) := by
  subst ho
  refine PT.imp (pt_cmpR (op_eqO (neg := neg) o hs) ha hb hm) fun σc H Q z => ?_
  obtain ⟨ι, S, σ, Qb, Ra, L, G, hw, cn, cx⟩ := z
  refine ⟨ι, S, σ, _, Ra, L, G, hw, fun ι1 S1 H1 v x e1 L1 r1 q1 => ?_, cx⟩
  refine ⟨ι1, S1, σ, _, Ra, L1, G.ext e1, q1, fun ι2 S2 H2 w y e2 L2' r2 q2 => ?_, cx.ext e1⟩
  refine ⟨ι2, S2, v, w, (fun u S3 => ∃ k, u = .bl k ∧ Qb k S3), L2', r1.ext e2, r2, q2, fun ι3 S3 H3 u y3 e3 L3 r3 q3 => ?_⟩
  obtain ⟨k, rfl, q⟩ := q3
  obtain rfl := rv_bl r3
  exact ⟨k, rfl, (cn.ext ((e1.trans e2).trans e3)).here L3 q⟩
theorem call_lenO (o : Okx X D F T M fl C lv W c) (hs : (T.cls.all fun d => match d.ms.lookup "__len__" with
      | some f => M.has f true 0 [] []
      | .none => true) = true) : CallR X (.builtin "len") (rdVs D fun vs S Q => one vs fun x => wpBltO T C .len x S Q) := by
  intro pins s σ H xs us Q I r h
  obtain ⟨ι, S, vs, Qa, L, rv, hw, cn⟩ := h
  match vs, rv, hw with
  | [], rv, hw => exact (show False from hw).elim
  | _ :: _ :: _, rv, hw => exact (show False from hw).elim
  | [a], rv, hw =>
    obtain ⟨x, rfl, ra⟩ := rvs1 rv
    obtain ⟨u, rfl, ru⟩ := vals1 r
    obtain ⟨m0, f, e0, hm, hc⟩ : wpBltO T C .len a S Qa := hw
    cases e0
    obtain ⟨i, k, fs, cd, rfl, es1, en, ec, em⟩ := methOf_cases hm
    obtain ⟨p, hi, rfl⟩ := rv_ref ra
    obtain ⟨p', dx, fs', hi', hp, n1, n2⟩ := L.ins es1
    rw [hi] at hi'; cases hi'
    obtain rfl : u = Value.ref p := ru
    obtain ⟨mA, J, _⟩ := ins_get I.hok hp
    obtain ⟨od, J, _⟩ := J.look
    obtain ⟨c1, c2, c3⟩ := o.lk.ms k cd ec
    have M1 := c2 "__len__" f em
    have cn2 : Cnt D ι H (fun v S3 => ∃ n : Nat, v = .int n ∧ n ≤ 1000000 ∧ Qa v S3) (fun x H' => ∃ n : Nat, x = .int n ∧ n ≤ 1000000 ∧ Q x H') := by
      rintro ι' S' H' v x e l r ⟨n, rfl, hn, q⟩
      obtain rfl := rv_int r
      exact ⟨n, rfl, hn, cn ι' S' H' (.int n) _ e l rfl q⟩
    refine len_own I.kIn J (by rw [o.hK]; exact M1.at_) (by rw [o.hK]; exact M1.fn) ?_
    refine wpAny_mono (own_run (A := X.A.in1) o hs ec em o.room.in1 o.grd I.env0.in1 I L ⟨p, hi, rfl⟩ .nil .nil rfl hc cn2) (fun w s' z => ?_) fun _ _ e => e
    obtain ⟨x', H', I', r', n, rfl, hn, q⟩ := z
    obtain ⟨t, rfl⟩ : ∃ t, w = Value.int n t := r'
    exact ⟨n, t, rfl, hn, fun u tk => ⟨.int n, H', I'.tok tk, ⟨u, rfl⟩, q⟩⟩
theorem s_lenO {a : RE} {x : Str} {e : Expr} {p : Pos} (o : Okx X D F T M fl C lv W c) (hx : okGl c "len" x = true) (hb : (M.nb.any (· == "len")) = true) (ha : PA X [e] (rdEs D T C W (.cons a .nil))) (hn : noStar [e] = true) (hs : (T.cls.all fun d => match d.ms.lookup "__len__" with
      | some f => M.has f true 0 [] []
      | .none => true) = true) : PE X (.Call (.Name x p) [e] [] pos) (rdE D T C W (.bltO .len a)) := by
  obtain ⟨e', hg, hd, hnn⟩ := gl_of o hx
  subst e'
  obtain ⟨y, hy, ey⟩ := List.any_eq_true.mp hb
  have ey : y = "len" := eq_of_beq ey
  subst ey
  have hm := o.lk.nb _ hy
  have s1 := (noStar_cons (env := X.env) hn).1
  have s2 := noStar_any (env := X.env) (pos := pos) (noStar_cons (env := X.env) hn).2
  refine PE.imp (pe_callB (call_lenO o hs) hg hm (boot_blt .len) ha hnn hd s1 s2) fun σc H Q z => ?_
  obtain ⟨ι, S, σ, Qa, Ra, L, G, hw, cn, cx⟩ := z
  refine ⟨ι, S, σ, fun vs S' => one vs fun x => wpBltO T C .len x S' Qa, Ra, L, G, hw, fun ι1 S1 H1 vs xs e1 L1 r1 l1 q1 => ⟨ι1, S1, vs, Qa, L1, r1, q1, cn.ext e1⟩, cx⟩
end
end Rp
/-! # len(range(n)) -/
namespace Rp
open PySem PySem.Spec PySem.Calls PyProof.Rows L2
section
variable {X : Cx} {D : Ad} {F : Fd} {T : Tab} {M : Nm} {fl : List String} {C : CS} {lv : Nat} {W : WX} {c : Sc} {pos : Pos}
theorem range_1 : CallR X (.type "range") (fun vs H Q => ∃ j, vs = [V.int j] ∧ ∀ p, H p = none → Q (.ref p) (upd H p (.rng 0 j))) := by
  intro pins s σ H vs us Q I r h
  obtain ⟨j, rfl, q⟩ := h
  obtain ⟨u, rfl, rj⟩ := vals1 r
  obtain ⟨t, rfl⟩ := rj
  refine call_range_1 ⟨.ref s.heap.objs.size, upd H s.heap.objs.size (.rng 0 j), I.laid (t' := s.toks + 1 + 1) (fun b o e => Heap.get?_push_of_some _ e) (Nat.le_refl _) ?_, rfl, q _ (I.hok.fresh (Nat.le_refl _))⟩
  exact ⟨s.toks, t, s.toks + 1, Heap.get?_push_size _ rfl⟩
theorem len_rng : CallR X (.builtin "len") (fun vs H Q => ∃ a j, vs = [V.ref a] ∧ H a = some (.rng 0 j) ∧ 0 ≤ j ∧ j < 2 ^ 62 ∧ Q (.int j) H) := by
  intro pins s σ H vs us Q I r h
  obtain ⟨a, j, rfl, ha, h0, h1, q⟩ := h
  obtain ⟨u, rfl, ru⟩ := vals1 r
  obtain rfl : u = Value.ref a := ru
  obtain ⟨t, u, v, e⟩ := (show ObjOk X.prog X.w H s.heap a (.rng 0 j) from I.hok a _ ha)
  obtain ⟨n, rfl⟩ : ∃ n : Nat, j = n := ⟨j.toNat, by omega⟩
  have hn : Builtin.Range.rangeSize 0 (n : Int) 1 = n := by
    unfold Builtin.Range.rangeSize
    repeat' split
    all_goals omega
  exact call_len_range (n := n) e hn (by omega) ⟨.int n, H, I.tok _, ⟨_, rfl⟩, q⟩
theorem s_lenR {a : RE} {x y : Str} {e : Expr} {p q p2 : Pos} (o : Okx X D F T M fl C lv W c) (hx : okGl c "len" x = true) (hb : (M.nb.any (· == "len")) = true) (hy : okGl c "range" y = true) (hb2 : (M.nb.any (· == "range")) = true) (ha : PA X [e] (rdEs D T C W (.cons a .nil))) (hn : noStar [e] = true) :
    PE X (.Call (.Name x p) [.Call (.Name y q) [e] [] p2] [] pos) (rdE D T C W (.lenR a)) := by
  obtain ⟨e1, hg, hd, hnn⟩ := gl_of o hx
  subst e1
  obtain ⟨e2, hg2, hd2, hnn2⟩ := gl_of o hy
  subst e2
  obtain ⟨z, hz, ez⟩ := List.any_eq_true.mp hb
  have ez : z = "len" := eq_of_beq ez
  subst ez
  obtain ⟨z2, hz2, ez2⟩ := List.any_eq_true.mp hb2
  have ez2 : z2 = "range" := eq_of_beq ez2
  subst ez2
  have s1 := (noStar_cons (env := X.env) hn).1
  have s2 := noStar_any (env := X.env) (pos := p2) (noStar_cons (env := X.env) hn).2
  have inner : PE X (.Call (.Name (sN "range") q) [e] [] p2) (tCB (fun vs H Q => ∃ j, vs = [V.int j] ∧ ∀ p, H p = none → Q (.ref p) (upd H p (.rng 0 j))) (rdEs D T C W (.cons a .nil))) := pe_callTy range_1 hg2 (o.lk.nb _ hz2) (by decide +kernel) ha hnn2 hd2 s1 s2
  refine PE.imp (pe_callB len_rng hg (o.lk.nb _ hz) (boot_blt .len) (pa_cons inner pa_nil) hnn hd rfl rfl) fun σc H Q w => ?_
  obtain ⟨ι, S, σ, Qa, Ra, L, G, hw, cn, cx⟩ := w
  refine ⟨ι, S, σ, fun vs S' => ∃ i, vs = [PV.int i] ∧ 0 ≤ i ∧ i < 2 ^ 62 ∧ Qa (.int i) S', Ra, L, G, ?_, fun ι1 S1 H1 vs xs e1 L1 r1 l1 q1 => ?_, cx⟩
  · have hw : wpE T C a σ S (fun x S1 => ∃ i, x = .int i ∧ 0 ≤ i ∧ i < 2 ^ 62 ∧ Qa (.int i) S1) Ra := hw
    show wpE T C a σ S (fun v S1 => ∃ i, [v] = [PV.int i] ∧ 0 ≤ i ∧ i < 2 ^ 62 ∧ Qa (.int i) S1) Ra
    have e : (fun (v : PV) (S1 : Store) => ∃ i, [v] = [PV.int i] ∧ 0 ≤ i ∧ i < 2 ^ 62 ∧ Qa (.int i) S1) = fun x S1 => ∃ i, x = .int i ∧ 0 ≤ i ∧ i < 2 ^ 62 ∧ Qa (.int i) S1 := by
      funext v S1
      simp
    rw [e]
    exact hw
  · obtain ⟨i, rfl, h0, h1, q⟩ := q1
    obtain ⟨x', rfl, rx⟩ := rvs1 r1
    obtain rfl := rv_int rx
    refine ⟨i, rfl, fun pp hp => ?_⟩
    refine ⟨pp, i, rfl, upd_same, h0, h1, ?_⟩
    exact cn ι1 S1 _ (.int i) _ (e1.trans (ext_new L1 hp)) (ly_new L1 hp) rfl q
end
end Rp
/-! # What is walked; targets -/
namespace Rp
open PySem PySem.Spec PyProof.Rows L2

/-- an iterator that yields xs, while st is kept -/
structure ItS (D : Ad) (J : It) (ι0 : List Addr) (H0 : Hp) (xs : List PV) (st : Store → Prop) : Prop where
  go : ∀ (i : Nat) (x : PV) (ι : List Addr) (S : Store) (H : Hp), Ext ι0 H0 ι H → Ly D ι H S → st S → xs[i]? = some x → J.go i H
  yld : ∀ (i : Nat) (x : PV) (ι : List Addr) (S : Store) (H : Hp) (v : V) (H' : Hp), Ext ι0 H0 ι H → Ly D ι H S → st S → xs[i]? = some x → J.yld i H v H' → Ext ι H ι H' ∧ Ly D ι H' S ∧ RV D ι H' x v
  stop : ∀ (ι : List Addr) (S : Store) (H : Hp), Ext ι0 H0 ι H → Ly D ι H S → st S → J.stop xs.length H
/-- a list, a tuple that stays -/
def SrcL (D : Ad) (a : Addr) (ι0 : List Addr) (H0 : Hp) (xs : List PV) (st : Store → Prop) : Prop := ∀ ι S H, Ext ι0 H0 ι H → Ly D ι H S → st S → ∃ vs, SqL D.K H a vs ∧ RVs D ι H xs vs
def SrcT (D : Ad) (a : Addr) (ι0 : List Addr) (H0 : Hp) (xs : List PV) (st : Store → Prop) : Prop := ∀ ι S H, Ext ι0 H0 ι H → Ly D ι H S → st S → ∃ vs, SqT D.K H a vs ∧ RVs D ι H xs vs
section
variable {D : Ad} {ι0 : List Addr} {H0 : Hp} {S0 : Store} {xs ys : List PV} {st st' : Store → Prop} {a b : Addr}
theorem SrcL.imp (s : SrcL D a ι0 H0 xs st) (i : ∀ S, st' S → st S) : SrcL D a ι0 H0 xs st' := fun ι S H e L h => s ι S H e L (i S h)
theorem SrcT.imp (s : SrcT D a ι0 H0 xs st) (i : ∀ S, st' S → st S) : SrcT D a ι0 H0 xs st' := fun ι S H e L h => s ι S H e L (i S h)
theorem src_lst (L0 : Ly D ι0 H0 S0) {v : PV} {x : V} (h : lstOf S0 v = some xs) (r : RV D ι0 H0 v x) : ∃ a, x = .ref a ∧ SrcL D a ι0 H0 xs (still S0 v) := by
  rcases lstOf_cases h with rfl | ⟨i, rfl, hs⟩
  · obtain ⟨a, vs, e, q, t⟩ := rv_scr r
    exact ⟨a, e, fun ι S H ex L _ => ⟨vs, (rf_ext ex.exi q).list, t.ext ex⟩⟩
  · obtain ⟨a, hi, e⟩ := rv_ref r
    refine ⟨a, e, fun ι S H ex L hst => ?_⟩
    have hst : S[i]? = S0[i]? := hst
    rw [hs] at hst
    obtain ⟨a', vs, hi', ha, t⟩ := L.lst hst
    rw [ex.get hi] at hi'
    cases hi'
    exact ⟨vs, SqL.of ha, t⟩
theorem src_tup {x : V} (r : RV D ι0 H0 (.tup xs) x) : ∃ a, x = .ref a ∧ SrcT D a ι0 H0 xs st := by
  obtain ⟨a, vs, e, q, t⟩ := rv_tup r
  exact ⟨a, e, fun ι S H ex L _ => ⟨vs, rd_ext ex.exi q, t.ext ex⟩⟩
theorem its_l (s : SrcL D a ι0 H0 xs st) : ItS D (Itl D.K a) ι0 H0 xs st := by
  refine ⟨fun i x ι S H e L h hx => ?_, fun i x ι S H v H' e L h hx y => ?_, fun ι S H e L h => ?_⟩
  · obtain ⟨vs, hq, r⟩ := s ι S H e L h
    obtain ⟨v, hv, _⟩ := r.get hx
    exact ⟨vs, v, hq, hv⟩
  · obtain ⟨vs, hq, r⟩ := s ι S H e L h
    obtain ⟨v', hv, rv⟩ := r.get hx
    obtain ⟨e1, f⟩ := y
    have := f vs hq
    rw [hv] at this
    cases this
    rw [e1]
    exact ⟨Ext.refl, L, rv⟩
  · obtain ⟨vs, hq, r⟩ := s ι S H e L h
    exact ⟨vs, hq, by rw [r.len] <;> exact Nat.le_refl _⟩
theorem its_t (s : SrcT D a ι0 H0 xs st) : ItS D (Itt D.K a) ι0 H0 xs st := by
  refine ⟨fun i x ι S H e L h hx => ?_, fun i x ι S H v H' e L h hx y => ?_, fun ι S H e L h => ?_⟩
  · obtain ⟨vs, hq, r⟩ := s ι S H e L h
    obtain ⟨v, hv, _⟩ := r.get hx
    exact ⟨vs, v, hq, hv⟩
  · obtain ⟨vs, hq, r⟩ := s ι S H e L h
    obtain ⟨v', hv, rv⟩ := r.get hx
    obtain ⟨e1, f⟩ := y
    have := f vs hq
    rw [hv] at this
    cases this
    rw [e1]
    exact ⟨Ext.refl, L, rv⟩
  · obtain ⟨vs, hq, r⟩ := s ι S H e L h
    exact ⟨vs, hq, by rw [r.len] <;> exact Nat.le_refl _⟩
theorem rngL_len : ∀ (n : Nat) (lo : Int), (rngL lo n).length = n
  | 0, _ => rfl
  | n + 1, lo => by
    show (rngL (lo + 1) n).length + 1 = n + 1
    rw [rngL_len n]
theorem rngL_get : ∀ (n : Nat) (lo : Int) (i : Nat) {x : PV}, (rngL lo n)[i]? = some x → i < n ∧ x = .int (lo + (i : Nat))
  | 0, _, _, _, h => by simp [rngL] at h
  | n + 1, lo, 0, x, h => by
    have h : some (PV.int lo) = some x := h
    cases h
    exact ⟨Nat.succ_pos _, by simp⟩
  | n + 1, lo, i + 1, x, h => by
    have h : (rngL (lo + 1) n)[i]? = some x := h
    obtain ⟨a, e⟩ := rngL_get n (lo + 1) i h
    refine ⟨Nat.succ_lt_succ a, ?_⟩
    rw [e]
    congr 1
    omega
theorem its_r {lo : Int} {n : Nat} : ItS D (Itr lo n) ι0 H0 (rngL lo n) st := by
  refine ⟨fun i x ι S H e L h hx => (rngL_get n lo i hx).1, fun i x ι S H v H' e L h hx y => ?_, fun ι S H e L h => ?_⟩
  · obtain ⟨e1, e2⟩ := y
    rw [e1, (rngL_get n lo i hx).2, e2]
    exact ⟨Ext.refl, L, rfl⟩
  · show n ≤ (rngL lo n).length
    rw [rngL_len] <;> exact Nat.le_refl _
theorem enumL_len : ∀ (xs : List PV) (k : Int), (enumL k xs).length = xs.length
  | [], _ => rfl
  | x :: r, k => by
    show (enumL (k + 1) r).length + 1 = r.length + 1
    rw [enumL_len r]
theorem enumL_get : ∀ (xs : List PV) (k : Int) (i : Nat) {p : PV}, (enumL k xs)[i]? = some p → ∃ x, xs[i]? = some x ∧ p = .tup [.int (k + (i : Nat)), x]
  | [], _, _, _, h => by simp [enumL] at h
  | x :: r, k, 0, p, h => by
    have h : some (PV.tup [.int k, x]) = some p := h
    cases h
    exact ⟨x, rfl, by simp⟩
  | x :: r, k, i + 1, p, h => by
    have h : (enumL (k + 1) r)[i]? = some p := h
    obtain ⟨y, a, e⟩ := enumL_get r (k + 1) i h
    refine ⟨y, a, ?_⟩
    rw [e]
    congr 3
    omega
theorem its_e (s : SrcL D a ι0 H0 xs st) : ItS D (Ite D.K a) ι0 H0 (enumL 0 xs) st := by
  refine ⟨fun i x ι S H e L h hx => ?_, fun i x ι S H v H' e L h hx y => ?_, fun ι S H e L h => ?_⟩
  · obtain ⟨vs, hq, r⟩ := s ι S H e L h
    obtain ⟨z, hz, _⟩ := enumL_get xs 0 i hx
    obtain ⟨v, hv, _⟩ := r.get hz
    exact ⟨vs, v, hq, hv⟩
  · obtain ⟨vs, hq, r⟩ := s ι S H e L h
    obtain ⟨z, hz, rfl⟩ := enumL_get xs 0 i hx
    obtain ⟨v', hv, rv⟩ := r.get hz
    obtain ⟨Tt, y', e1, hT, e2, f⟩ := y
    have := f vs hq
    rw [hv] at this
    cases this
    subst e1 e2
    have ex := ext_new (o := .tup [.int (i : Nat), v']) L hT
    exact ⟨ex, ly_new L hT, ⟨Tt, _, rfl, .inl (.inl upd_same), .cons (show V.int _ = V.int _ by congr 1; omega) (.cons (rv.ext ex) .nil)⟩⟩
  · obtain ⟨vs, hq, r⟩ := s ι S H e L h
    exact ⟨vs, hq, by rw [r.len, enumL_len] <;> exact Nat.le_refl _⟩
theorem zipL_len : ∀ (xs ys : List PV), (zipL xs ys).length = min xs.length ys.length
  | [], _ => by simp [zipL]
  | _ :: _, [] => by simp [zipL]
  | x :: r, y :: s => by
    show (zipL r s).length + 1 = _
    rw [zipL_len r s, List.length_cons, List.length_cons]
    omega
theorem zipL_get : ∀ (xs ys : List PV) (i : Nat) {p : PV}, (zipL xs ys)[i]? = some p → ∃ x y, xs[i]? = some x ∧ ys[i]? = some y ∧ p = .tup [x, y]
  | [], _, _, _, h => by simp [zipL] at h
  | _ :: _, [], _, _, h => by simp [zipL] at h
  | x :: r, y :: s, 0, p, h => by
    have h : some (PV.tup [x, y]) = some p := h
    cases h
    exact ⟨x, y, rfl, rfl, rfl⟩
  | x :: r, y :: s, i + 1, p, h => zipL_get r s i (show (zipL r s)[i]? = some p from h)
theorem its_z {P1 P2 : Hp → List V → Prop} {k : Bool} (hk : k = true → xs.length = ys.length) (s1 : ∀ ι S H, Ext ι0 H0 ι H → Ly D ι H S → st S → ∃ vs, P1 H vs ∧ RVs D ι H xs vs) (s2 : ∀ ι S H, Ext ι0 H0 ι H → Ly D ι H S → st S → ∃ vs, P2 H vs ∧ RVs D ι H ys vs) : ItS D (ItZ k P1 P2) ι0 H0 (zipL xs ys) st := by
  refine ⟨fun i x ι S H e L h hx => ?_, fun i x ι S H v H' e L h hx y => ?_, fun ι S H e L h => ?_⟩
  · obtain ⟨vs, hq, r⟩ := s1 ι S H e L h
    obtain ⟨ws, hq2, r2⟩ := s2 ι S H e L h
    obtain ⟨z1, z2, h1, h2, rfl⟩ := zipL_get xs ys i hx
    obtain ⟨v, hv, _⟩ := r.get h1
    obtain ⟨w, hw, _⟩ := r2.get h2
    exact ⟨vs, ws, v, w, hq, hq2, hv, hw⟩
  · obtain ⟨vs, hq, r⟩ := s1 ι S H e L h
    obtain ⟨ws, hq2, r2⟩ := s2 ι S H e L h
    obtain ⟨z1, z2, h1, h2, rfl⟩ := zipL_get xs ys i hx
    obtain ⟨v', hv, rv⟩ := r.get h1
    obtain ⟨w', hw, rw'⟩ := r2.get h2
    obtain ⟨Tt, y1, y2, e1, hT, e2, f1, f2⟩ := y
    have t1 := f1 vs hq
    have t2 := f2 ws hq2
    rw [hv] at t1
    rw [hw] at t2
    cases t1; cases t2
    subst e1 e2
    have ex := ext_new (o := .tup [v', w']) L hT
    exact ⟨ex, ly_new L hT, ⟨Tt, _, rfl, .inl (.inl upd_same), .cons (rv.ext ex) (.cons (rw'.ext ex) .nil)⟩⟩
  · obtain ⟨vs, hq, r⟩ := s1 ι S H e L h
    obtain ⟨ws, hq2, r2⟩ := s2 ι S H e L h
    refine ⟨vs, ws, hq, hq2, ?_, fun e => ?_⟩
    · rw [r.len, r2.len, zipL_len]
      omega
    · rw [r.len, r2.len, zipL_len]
      have := hk e
      omega
end

section
variable {X : Cx} {D : Ad} {F : Fd} {T : Tab} {M : Nm} {fl : List String} {C : CS} {lv : Nat} {W : WX} {c : Sc} {pos : Pos} {tg : Expr}
def rdI (D : Ad) (T : Tab) (C : CS) (W : WX) (r : RI) : TI := fun σc H R => ∃ ι S σ Qi Ra, Ly D ι H S ∧ RG D ι H σ σc ∧ wpI T C r σ S Qi Ra ∧
  (∀ ι' S' H' xs st J, Ext ι H ι' H' → Ly D ι' H' S' → ItS D J ι' H' xs st → st S' → Qi xs st S' → R J H') ∧ CnX D ι H Ra σc W

theorem still_self {S : Store} {v : PV} : still S v S := by cases v <;> first | trivial | rfl

/-- a list or a tuple is walked -/
def iSeq (K : PySem.W.Frag) (tl : TE) : TI := fun σ H R => tl σ H fun x H1 => ∃ a, x = .ref a ∧ ((∃ xs, SqL K H1 a xs) ∧ R (Itl K a) H1 ∨ (∃ xs, SqT K H1 a xs) ∧ R (Itt K a) H1)
theorem pi_seq {l : Expr} {tl : TE} (hl : PE X l tl) : PI X tg l (iSeq X.K tl) := by
  refine ⟨fun pins s σ H R I h => thn (hl.run pins s σ H _ I h) fun v s1 ⟨x, H1, I1, r1, a, e, q1⟩ => ?_⟩
  subst e
  cases r1
  have new : ∀ b ∈ [s1.heap.objs.size], FpOk X pins H1 b := fun b hb => by
    have e : b = s1.heap.objs.size := by simpa using hb
    subst e
    exact I1.fpOk (Nat.le_refl _) (I1.hok.fresh (Nat.le_refl _))
  rcases q1 with ⟨⟨xs, hq⟩, q⟩ | ⟨⟨xs, hq⟩, q⟩
  · obtain ⟨its, rv, p, hz⟩ := I1.list hq
    exact wpAny_pyIter_list p.isList ⟨_, [_], _, _, H1, rfl, I1.kept (t' := s1.toks) fun b o e => Heap.get?_push_of_some _ e, turn_list a _, ⟨_, Heap.get?_push_size _ rfl, rfl, rfl⟩, new, q⟩
  · obtain ⟨its, rv, p, hz⟩ := I1.tuple hq
    exact wpAny_pyIter_tuple (show s1.heap.IsTuple a its.toArray from p) ⟨_, [_], _, _, H1, rfl, I1.kept (t' := s1.toks) fun b o e => Heap.get?_push_of_some _ e, turn_tuple a _, ⟨_, Heap.get?_push_size _ rfl, rfl, rfl⟩, new, q⟩
theorem PI.imp {e : Expr} {t t' : TI} (h : PI X tg e t) (i : ∀ σ H R, t' σ H R → t σ H R) : PI X tg e t' := ⟨fun pins s σ H R I hw => h.run pins s σ H R I (i σ H R hw)⟩
theorem i_val {r : RE} {e : Expr} (o : Okx X D F T M fl C lv W c) (he : PE X e (rdE D T C W r)) : PI X tg e (rdI D T C W (.val r)) := by
  refine PI.imp (pi_seq he) fun σc H R z => ?_
  obtain ⟨ι, S, σ, Qi, Ra, L, G, hw, cn, cx⟩ := z
  refine ⟨ι, S, σ, _, Ra, L, G, hw, fun ι1 S1 H1 v x e1 L1 r1 q1 => ?_, cx⟩
  obtain ⟨xs, ex, q⟩ := q1
  rw [o.hK]
  rcases itemsOf_cases ex with rfl | h
  · obtain ⟨a, rfl, s⟩ := src_tup (st := still S1 (.tup xs)) r1
    obtain ⟨vs, hq, _⟩ := s ι1 S1 H1 Ext.refl L1 still_self
    exact ⟨a, rfl, .inr ⟨⟨vs, hq⟩, cn ι1 S1 H1 xs _ _ e1 L1 (its_t s) still_self q⟩⟩
  · have hl : lstOf S1 v = some xs := by
      rcases h with rfl | ⟨i, rfl, hs⟩
      · rfl
      · simp only [lstOf]
        rw [hs]
    obtain ⟨a, rfl, s⟩ := src_lst L1 hl r1
    obtain ⟨vs, hq, _⟩ := s ι1 S1 H1 Ext.refl L1 still_self
    exact ⟨a, rfl, .inl ⟨⟨vs, hq⟩, cn ι1 S1 H1 xs _ _ e1 L1 (its_l s) still_self q⟩⟩
theorem i_range1 {es : REs} {a : Expr} {p : Pos} (o : Okx X D F T M fl C lv W c) (hx : Gl X "range") (hm : X.mg "range" = none) (hn : noStar [a] = true) (hl : 1 = es.len) (ha : PA X [a] (rdEs D T C W es)) : PI X tg (.Call (.Name "range" p) [a] [] pos) (rdI D T C W (.range es)) := by
  refine PI.imp (pi_range1 hx hm ha (noStar_cons hn).1) fun σc H R z => ?_
  obtain ⟨ι, S, σ, Qi, Ra, L, G, hw, cn, cx⟩ := z
  refine ⟨ι, S, σ, _, Ra, L, G, hw, fun ι1 S1 H1 vs xs e1 L1 r1 l1 q1 => ?_, cx⟩
  rcases q1 with ⟨j, rfl, hj, q⟩ | ⟨i, j, rfl, hi, hj, q⟩
  · obtain ⟨x, rfl, rx⟩ := rvs1 r1
    cases rv_int rx
    exact ⟨j, rfl, hj.1, hj.2, cn ι1 S1 H1 _ _ _ e1 L1 its_r trivial q⟩
  · exfalso
    rw [← hl] at l1
    simp at l1
theorem i_range2 {es : REs} {a b : Expr} {p : Pos} (o : Okx X D F T M fl C lv W c) (hx : Gl X "range") (hm : X.mg "range" = none) (hn : noStar [a, b] = true) (hl : 2 = es.len) (ha : PA X [a, b] (rdEs D T C W es)) : PI X tg (.Call (.Name "range" p) [a, b] [] pos) (rdI D T C W (.range es)) := by
  refine PI.imp (pi_range2 hx hm ha (by rw [(noStar_cons hn).1, (noStar_cons (noStar_cons (env := X.env) hn).2).1] <;> rfl) (noStar_cons (noStar_cons (env := X.env) hn).2).1) fun σc H R z => ?_
  obtain ⟨ι, S, σ, Qi, Ra, L, G, hw, cn, cx⟩ := z
  refine ⟨ι, S, σ, _, Ra, L, G, hw, fun ι1 S1 H1 vs xs e1 L1 r1 l1 q1 => ?_, cx⟩
  rcases q1 with ⟨j, rfl, hj, q⟩ | ⟨i, j, rfl, hi, hj, q⟩
  · exfalso
    rw [← hl] at l1
    simp at l1
  · obtain ⟨x, y, rfl, rx, ry⟩ := rvs2 r1
    cases rv_int rx
    cases rv_int ry
    exact ⟨i, j, rfl, ⟨hi.1, hi.2, hj.1, hj.2⟩, cn ι1 S1 H1 _ _ _ e1 L1 its_r trivial q⟩
theorem i_enum {r : RE} {a : Expr} {p tpos : Pos} {elts : List Expr} {kk : Nat} (o : Okx X D F T M fl C lv W c) (hx : Gl X "enumerate") (hm : X.mg "enumerate" = none) (hn : noStar [a] = true) (ha : PE X a (rdE D T C W r)) :
    PI X (.Tuple elts kk tpos) (.Call (.Name "enumerate" p) [a] [] pos) (rdI D T C W (.enum r)) := by
  refine PI.imp (pi_enum hx hm (s_cons hn ha s_nil) (noStar_cons hn).1) fun σc H R z => ?_
  obtain ⟨ι, S, σ, Qi, Ra, L, G, hw, cn, cx⟩ := z
  refine ⟨ι, S, σ, (fun vs S1 => ∃ v, vs = [v] ∧ ∃ xs, lstOf S1 v = some xs ∧ Qi (enumL 0 xs) (still S1 v) S1), Ra, L, G, ?_, fun ι1 S1 H1 vs xs e1 L1 r1 l1 q1 => ?_, cx⟩
  · have hw : wpE T C r σ S (fun v S1 => ∃ xs, lstOf S1 v = some xs ∧ Qi (enumL 0 xs) (still S1 v) S1) Ra := hw
    show wpE T C r σ S (fun v S1 => ∃ v_1, [v] = [v_1] ∧ ∃ xs, lstOf S1 v_1 = some xs ∧ Qi (enumL 0 xs) (still S1 v_1) S1) Ra
    have e : (fun (v : PV) (S1 : Store) => ∃ v_1, [v] = [v_1] ∧ ∃ xs, lstOf S1 v_1 = some xs ∧ Qi (enumL 0 xs) (still S1 v_1) S1) = fun v S1 => ∃ xs, lstOf S1 v = some xs ∧ Qi (enumL 0 xs) (still S1 v) S1 := by
      funext v S1
      refine propext ⟨?_, fun h => ⟨v, rfl, h⟩⟩
      rintro ⟨w, e, h⟩
      cases e
      exact h
    rw [e]
    exact hw
  · obtain ⟨v, rfl, ys, ey, q⟩ := q1
    obtain ⟨x, rfl, rx⟩ := rvs1 r1
    obtain ⟨a', rfl, s⟩ := src_lst L1 ey rx
    obtain ⟨ws, hq, _⟩ := s ι1 S1 H1 Ext.refl L1 still_self
    rw [o.hK]
    exact ⟨a', ws, rfl, hq, cn ι1 S1 H1 _ _ _ e1 L1 (its_e s) still_self q⟩

theorem wpEs_two {a b : RE} {σ : Sg} {S : Store} {P : PV → PV → Store → Prop} {R : QX} (h : wpE T C a σ S (fun v S1 => wpE T C b σ S1 (fun w S2 => P v w S2) R) R) :
    wpEs T C (.cons a (.cons b .nil)) σ S (fun vs S2 => ∀ v w, vs = [v, w] → P v w S2) R := by
  show wpE T C a σ S (fun v S1 => wpE T C b σ S1 (fun w S2 => ∀ v' w', [v, w] = [v', w'] → P v' w' S2) R) R
  have e : (fun (v w : PV) (S2 : Store) => ∀ v' w', [v, w] = [v', w'] → P v' w' S2) = P := by
    funext v w S2
    refine propext ⟨fun h => h v w rfl, fun h v' w' e => ?_⟩
    cases e
    exact h
  have e2 : (fun (v : PV) (S1 : Store) => wpE T C b σ S1 (fun w S2 => ∀ v' w', [v, w] = [v', w'] → P v' w' S2) R) = fun v S1 => wpE T C b σ S1 (fun w S2 => P v w S2) R := by
    funext v S1
    have e3 : (fun (w : PV) (S2 : Store) => ∀ v' w', [v, w] = [v', w'] → P v' w' S2) = P v := congrFun e v
    rw [e3]
  rw [e2]
  exact h
/-- the row at a value -/
theorem src_any {ι0 : List Addr} {H0 : Hp} {S0 : Store} {v : PV} {xs : List PV} {x : V} (L0 : Ly D ι0 H0 S0) (h : itemsOf S0 v = some xs) (r : RV D ι0 H0 v x) :
    ∃ a k, x = .ref a ∧ ∀ ι S H, Ext ι0 H0 ι H → Ly D ι H S → still S0 v S → ∃ vs, SqK k D.K a H vs ∧ RVs D ι H xs vs := by
  rcases itemsOf_cases h with rfl | h
  · obtain ⟨a, e, s⟩ := src_tup (st := still S0 (.tup xs)) r
    exact ⟨a, false, e, s⟩
  · have hl : lstOf S0 v = some xs := by
      rcases h with rfl | ⟨i, rfl, hs⟩
      · rfl
      · simp only [lstOf]
        rw [hs]
    obtain ⟨a, e, s⟩ := src_lst L0 hl r
    exact ⟨a, true, e, s⟩
theorem zip_imp {a b : RE} {st : Bool} (o : Okx X D F T M fl C lv W c) (σc : L2.St) (H : Hp) (R : It → Hp → Prop) (z : rdI D T C W (.zip a b st) σc H R) : iZZ X.K st (rdEs D T C W (.cons a (.cons b .nil))) σc H R := by
  obtain ⟨ι, S, σ, Qi, Ra, L, G, hw, cn, cx⟩ := z
  refine ⟨ι, S, σ, _, Ra, L, G, wpEs_two (P := fun v w S2 => ∃ xs ys, itemsOf S2 v = some xs ∧ itemsOf S2 w = some ys ∧ (st = true → xs.length = ys.length) ∧ Qi (zipL xs ys) (fun S' => still S2 v S' ∧ still S2 w S') S2) hw, fun ι1 S1 H1 vs xs e1 L1 r1 l1 q1 => ?_, cx⟩
  obtain ⟨v, w, rfl⟩ : ∃ v w, vs = [v, w] := by
    match vs, l1 with
    | [v, w], _ => exact ⟨v, w, rfl⟩
  obtain ⟨ys, zs, ey, ez, hl, q⟩ := q1 v w rfl
  obtain ⟨x, y, rfl, rx, ry⟩ := rvs2 r1
  obtain ⟨p1, k1, rfl, s1⟩ := src_any L1 ey rx
  obtain ⟨p2, k2, rfl, s2⟩ := src_any L1 ez ry
  obtain ⟨vs1, h1, _⟩ := s1 ι1 S1 H1 Ext.refl L1 still_self
  obtain ⟨vs2, h2, _⟩ := s2 ι1 S1 H1 Ext.refl L1 still_self
  rw [o.hK]
  exact ⟨p1, p2, k1, k2, vs1, vs2, rfl, h1, h2, cn ι1 S1 H1 _ _ _ e1 L1 (its_z (st := fun S' => still S1 v S' ∧ still S1 w S') hl (fun ι S H e L h => s1 ι S H e L h.1) fun ι S H e L h => s2 ι S H e L h.2) ⟨still_self, still_self⟩ q⟩
theorem i_zip {a b : RE} {e e2 : Expr} {p tpos : Pos} {elts : List Expr} {kk : Nat} (o : Okx X D F T M fl C lv W c) (hx : Gl X "zip") (hm : X.mg "zip" = none) (hn : noStar [e, e2] = true) (ha : PE X e (rdE D T C W a)) (hb : PE X e2 (rdE D T C W b)) :
    PI X (.Tuple elts kk tpos) (.Call (.Name "zip" p) [e, e2] [] pos) (rdI D T C W (.zip a b false)) :=
  PI.imp (pi_zz0 hx hm (s_cons hn ha (s_cons (noStar_cons (env := X.env) hn).2 hb s_nil)) (noStar_cons hn).1 (noStar_any (noStar_cons (env := X.env) hn).2)) fun σc H R z => zip_imp o σc H R z
theorem i_zipS {a b : RE} {e e2 : Expr} {p tpos kp cp : Pos} {elts : List Expr} {kk ck : Nat} (o : Okx X D F T M fl C lv W c) (hx : Gl X "zip") (hm : X.mg "zip" = none) (hn : noStar [e, e2] = true) (ha : PE X e (rdE D T C W a)) (hb : PE X e2 (rdE D T C W b)) :
    PI X (.Tuple elts kk tpos) (.Call (.Name "zip" p) [e, e2] [⟨some (sN "strict"), .Constant (.bool true) ck cp, kp⟩] pos) (rdI D T C W (.zip a b true)) :=
  PI.imp (pi_zz1 hx hm (s_cons hn ha (s_cons (noStar_cons (env := X.env) hn).2 hb s_nil)) (noStar_cons hn).1 (noStar_any (noStar_cons (env := X.env) hn).2)) fun σc H R z => zip_imp o σc H R z
end
end Rp
/-! # Targets; comprehensions -/
namespace Rp
open PySem PySem.Spec PyProof.Rows L2

abbrev W0 : WX := fun _ _ _ _ => False
theorem wipe_get (σ : L2.St) (i : Nat) : ∀ vs : List Nat, (L2.wipe σ vs)[i]? = if i ∈ vs then (σ[i]?).map (fun _ => none) else σ[i]?
  | [] => by simp [L2.wipe]
  | v :: vs => by
    show ((L2.wipe σ vs).set v none)[i]? = _
    by_cases h : v = i
    · subst h
      rw [List.getElem?_set_self', wipe_get σ v vs]
      by_cases m : v ∈ vs
      · rw [if_pos m, if_pos (by simp)]
        cases σ[v]? <;> rfl
      · rw [if_neg m, if_pos (by simp)]
        cases σ[v]? <;> rfl
    · rw [List.getElem?_set_ne h, wipe_get σ i vs]
      have e : (i ∈ v :: vs) = (i ∈ vs) := by
        rw [List.mem_cons]
        exact propext ⟨fun q => q.resolve_left fun z => h z.symm, .inr⟩
      simp only [e]
theorem wipe_wipe (σ : L2.St) (vs : List Nat) : L2.wipe (L2.wipe σ vs) vs = L2.wipe σ vs := by
  apply List.ext_getElem?
  intro i
  rw [wipe_get, wipe_get]
  by_cases m : i ∈ vs
  · rw [if_pos m, if_pos m]
    cases σ[i]? <;> rfl
  · rw [if_neg m, if_neg m]
theorem wipe_set (σ : L2.St) {i : Nat} {x : Option V} {vs : List Nat} (h : vs.contains i = true) : L2.wipe (σ.set i x) vs = L2.wipe σ vs := by
  apply List.ext_getElem?
  intro j
  rw [wipe_get, wipe_get]
  have hm : i ∈ vs := by simpa using h
  by_cases m : j ∈ vs
  · rw [if_pos m, if_pos m]
    by_cases e : i = j
    · subst e
      rw [List.getElem?_set_self']
      cases σ[i]? <;> rfl
    · rw [List.getElem?_set_ne e]
  · rw [if_neg m, if_neg m]
    rw [List.getElem?_set_ne (fun e => m (by rw [← e]; exact hm))]

section
variable {X : Cx} {D : Ad} {F : Fd} {T : Tab} {M : Nm} {fl : List String} {C : CS} {lv : Nat} {W : WX} {c : Sc} {pos : Pos} {tg : Expr}
def CnG (D : Ad) (ι : List Addr) (H : Hp) (σc : L2.St) (tin : List Nat → Bool) (Qt : Sg → Store → Prop) (Q : L2.St → Hp → Prop) : Prop :=
  ∀ ι' S' H' σ' σc', Ext ι H ι' H' → Ly D ι' H' S' → RG D ι' H' σ' σc' → (∀ vs, tin vs = true → L2.wipe σc' vs = L2.wipe σc vs) → Qt σ' S' → Q σc' H'
def rdTg (D : Ad) (T : Tab) (C : CS) (r : RT) : TG := fun v σc H Q => ∃ ι S σ Qt w, Ly D ι H S ∧ RG D ι H σ σc ∧ RV D ι H w v ∧ wpTg T C r w σ S Qt (fun _ _ => False) ∧ CnG D ι H σc (tgIn r) Qt Q
def rdTgs (D : Ad) (T : Tab) (C : CS) (r : RTs) : TGs := fun vs σc H Q => ∃ ι S σ Qt ws, Ly D ι H S ∧ RG D ι H σ σc ∧ RVs D ι H ws vs ∧ wpTgs T C r ws σ S Qt (fun _ _ => False) ∧ CnG D ι H σc (tgsIn r) Qt Q
theorem cnx_no {ι : List Addr} {H : Hp} {σc : L2.St} : CnX D ι H (fun _ _ => False) σc W := fun _ _ _ _ _ _ _ _ _ q => q.elim
theorem t_name {i : Nat} {x : Str} (o : Okx X D F T M fl C lv W c) (h : okPut c i x = true) : PG X (.Name x pos) (rdTg D T C (.name i)) := by
  unfold okPut at h
  rw [Bool.and_eq_true] at h
  have hi : X.N[i]? = some x := by rw [o.hN]; exact of_decide_eq_true h.1
  have hp := h.2
  unfold Sc.put at hp
  rw [← o.hsc] at hp
  have key : Loc X.env.scope x ∧ (X.fn x = true ∨ X.env.scope.names.lookup x = some .local) := by
    split at hp
    · exact ⟨.inl (by assumption), .inr (by assumption)⟩
    · exact ⟨.inr (by assumption), .inl (o.hfn hp x)⟩
    · cases hp
  refine PG.imp (pg_name o.nd hi key.1 key.2) fun v σc H Q z => ?_
  obtain ⟨ι, S, σ, Qt, w, L, G, r, hw, cn⟩ := z
  exact cn ι S H _ _ Ext.refl L (G.set i r) (fun vs hv => wipe_set σc hv) (show Qt (σ.set i (some w)) S from hw)
theorem ts_nil : PGs X [] (rdTgs D T C .nil) := ⟨fun pins s σc H vs us Q I r z => by
  obtain ⟨ι, S, σ, Qt, ws, L, G, rv, ⟨hw, q⟩, cn⟩ := z
  subst hw
  have rv : vs = [] := rv
  exact pgs_nil.run pins s σc H vs us Q I r ⟨rv, cn ι S H σ σc Ext.refl L G (fun _ _ => rfl) q⟩⟩
theorem noStarT_cons {e : Expr} {es : List Expr} {env : Env} (h : noStarT (e :: es) = true) : assignEach (e :: es) env = (false, assign e env) :: assignEach es env ∧ noStarT es = true := by
  have hr : noStarT es = true := by cases e <;> first | exact h | cases h
  refine ⟨?_, hr⟩
  cases e <;> first
    | rfl
    | cases h
theorem noStarT_len : ∀ {es : List Expr} {env : Env}, noStarT es = true → (assignEach es env).length = es.length ∧ (assignEach es env).findIdx? (·.1) = none
  | [], _, _ => ⟨rfl, rfl⟩
  | e :: es, env, h => by
    obtain ⟨h1, h2⟩ := noStarT_cons (env := env) h
    obtain ⟨a, b⟩ := noStarT_len (env := env) h2
    rw [h1]
    refine ⟨by rw [List.length_cons, List.length_cons, a], ?_⟩
    rw [List.findIdx?_cons, b]
    rfl
theorem ts_cons {t : RT} {ts : RTs} {e : Expr} {es : List Expr} (hn : noStarT (e :: es) = true) (h1 : PG X e (rdTg D T C t)) (h2 : PGs X es (rdTgs D T C ts)) : PGs X (e :: es) (rdTgs D T C (.cons t ts)) := ⟨fun pins s σc H vs us Q I r z => by
  refine (pgs_cons h1 h2 (by rw [(noStarT_cons hn).1] <;> rfl)).run pins s σc H vs us Q I r ?_
  obtain ⟨ι, S, σ, Qt, ws, L, G, rv, ⟨v, rr, rfl, hw⟩, cn⟩ := z
  obtain ⟨y, ys, rfl, ry, rys⟩ := rv
  refine ⟨y, ys, rfl, ι, S, σ, _, v, L, G, ry, hw, fun ι1 S1 H1 σ1 σc1 e1 L1 G1 sm1 q1 => ?_⟩
  refine ⟨ι1, S1, σ1, Qt, rr, L1, G1, rys.ext e1, q1, fun ι2 S2 H2 σ2 σc2 e2 L2' G2 sm2 q2 => ?_⟩
  refine cn ι2 S2 H2 σ2 σc2 (e1.trans e2) L2' G2 (fun vs hv => ?_) q2
  have hv : (tgIn t vs && tgsIn ts vs) = true := hv
  rw [Bool.and_eq_true] at hv
  rw [sm2 vs hv.2, sm1 vs hv.1]⟩
/-- a tuple or a list is unpacked -/
theorem pg_any {es : List Expr} {k : Nat} {t : TGs} {n : Nat} (hc : X.calm = true) (h : PGs X es t) (hn : (assignEach es X.env).length = n) (hst : (assignEach es X.env).findIdx? (·.1) = none) : PG X (.Tuple es k pos) (fun v σ H Q => gTup X.K n t v σ H Q ∨ gLst X.K n t v σ H Q) := by
  refine ⟨fun pins s σ H v u Q I r hw => ?_⟩
  rcases hw with hw | hw
  · exact (pg_tup (pos := pos) (k := k) hc h hn hst).run pins s σ H v u Q I r hw
  · exact (pg_lst (pos := pos) (k := k) hc h hn hst).run pins s σ H v u Q I r hw
theorem t_tup {ts : RTs} {es : List Expr} {k : Nat} (o : Okx X D F T M fl C lv W c) (hn : noStarT es = true) (hl : es.length = ts.len ∧ ∀ n, ts.cnt n = ts.len) (h : PGs X es (rdTgs D T C ts)) : PG X (.Tuple es k pos) (rdTg D T C (.tup ts)) := by
  obtain ⟨l1, l2⟩ := noStarT_len (env := X.env) hn
  refine PG.imp (pg_any o.calm h (l1.trans hl.1) l2) fun v σc H Q z => ?_
  obtain ⟨ι, S, σ, Qt, w, L, G, r, ⟨xs, ex, el, hw⟩, cn⟩ := z
  obtain ⟨a, k, rfl, s⟩ := src_any L ex r
  obtain ⟨vs, hq, rv⟩ := s ι S H Ext.refl L still_self
  have fin : rdTgs D T C ts vs σc H Q := ⟨ι, S, σ, Qt, xs, L, G, rv, hw, cn⟩
  cases k
  · exact .inl ⟨a, vs, rfl, by rw [o.hK]; exact hq, by rw [rv.len, el, hl.2], fin⟩
  · exact .inr ⟨a, vs, rfl, by rw [o.hK]; exact hq, by rw [rv.len, el, hl.2], fin⟩
theorem t_sub {o' i' : RE} {e k : Expr} (hk : isSlice k = false) (ha : PE X e (rdE D T C W o')) (hb : PE X k (rdE D T C W i')) : PG X (.Subscript e k pos) (rdTg D T C (.sub o' i')) := by
  refine PG.imp (pg_sub ha hb (set_G (D := D)) (fun v => by cases k <;> first | rfl | cases hk)) fun v σc H Q z => ?_
  obtain ⟨ι, S, σ, Qt, w, L, G, r, hw, cn⟩ := z
  refine ⟨ι, S, σ, _, _, L, G, hw, fun ι1 S1 H1 v1 x1 e1 L1 r1 q1 => ?_, cnx_no⟩
  refine ⟨ι1, S1, σ, _, _, L1, G.ext e1, q1, fun ι2 S2 H2 v2 x2 e2 L2' r2 q2 => ?_, cnx_no⟩
  have e12 := e1.trans e2
  exact ⟨ι2, S2, v1, v2, w, _, L2', r1.ext e2, r2, r.ext e12, q2, fun ι3 S3 H3 e3 L3 q3 => cn ι3 S3 H3 σ σc (e12.trans e3) L3 (G.ext (e12.trans e3)) (fun _ _ => rfl) q3⟩

/-! ### comprehensions -/
def rdTs (D : Ad) (T : Tab) (C : CS) (r : REs) : TT := fun σc H Q => ∃ ι S σ Qb, Ly D ι H S ∧ RG D ι H σ σc ∧ wpTs T C r σ S Qb (fun _ _ => False) ∧ CnB D ι H Qb Q
theorem PTs.imp {es : List Expr} {t t' : TT} (h : PTs X es t) (i : ∀ σ H Q, t' σ H Q → t σ H Q) : PTs X es t' := ⟨fun pins s σ H Q I hw => h.run pins s σ H Q I (i σ H Q hw)⟩
theorem fs_nil : PTs X [] (rdTs D T C .nil) := PTs.imp pts_nil fun σc H Q z => by
  obtain ⟨ι, S, σ, Qb, L, G, hw, cn⟩ := z
  exact cn.here L (show Qb true S from hw)
theorem fs_one {r : RE} {e : Expr} (h : PT X e (rdT D T C W r)) : PTs X [e] (rdTs D T C (.cons r .nil)) := PTs.imp (pts_one h) fun σc H Q z => by
  obtain ⟨ι, S, σ, Qb, L, G, hw, cn⟩ := z
  exact ⟨ι, S, σ, Qb, _, L, G, hw, cn, cnx_no⟩
theorem not_mem_ext {ι ι' : List Addr} {H H' : Hp} {a : Addr} {o : HO} (e : Ext ι H ι' H') (h : H a = some o) (n : a ∉ ι) : a ∉ ι' := by
  obtain ⟨l, rfl, q⟩ := e.pre
  intro m
  rcases List.mem_append.mp m with m | m
  · exact n m
  · rw [q a m] at h
    cases h
theorem ext_none {ι ι' : List Addr} {H H' : Hp} {a : Addr} (e : Ext ι H ι' H') (h : H' a = none) : H a = none := by
  cases q : H a with
  | none => rfl
  | some o =>
    obtain ⟨o', e'⟩ := e.trk a o q
    rw [h] at e'
    cases e'
/-- the wish of a comprehension, turned into the hand layer's -/
theorem lc_imp {elt : RE} {tg' : RT} {it : RI} {ifs : REs} {own : List Nat} (hin : tgIn tg' own = true) (σc : L2.St) (H : Hp) (Q : VK) (z : rdE D T C W (.lc elt tg' it ifs own) σc H Q) :
    tLc (rdI D T C W it) (rdTg D T C tg') (rdTs D T C ifs) (rdE D T C W0 elt) own σc H Q := by
  obtain ⟨ι0, S0, σ, Qa, Ra, L0, G, hw, cn, cx⟩ := z
  refine ⟨ι0, S0, σ, _, Ra, L0, G, hw, fun ι1 S1 H1 xs st J e1 L1 its st1 q1 Dn hD => ?_, cx⟩
  obtain ⟨hlen, run⟩ := q1
  have hD0 : H Dn = none := ext_none e1 hD
  refine ⟨fun i m H' => m = xs.length - i ∧ i ≤ xs.length ∧ ∃ ι S accP acc, H' Dn = some (.lst acc) ∧ RVs D ι H' accP acc ∧ Dn ∉ ι ∧ Ext ι1 H1 ι H' ∧ Ly D ι H' S ∧ st S ∧ acc.length ≤ i ∧
    lcRun (fun x S2 Q2 => wpTg T C tg' x (wipeG σ own) S2 (fun σ3 S3 => wpTs T C ifs σ3 S3 (fun k S4 =>
        if k = true then wpE T C elt σ3 S4 (fun v S5 => Q2 (some v) S5) (fun _ _ => False) else Q2 .none S4) (fun _ _ => False)) (fun _ _ => False)) st (xs.drop i) accP S Qa,
    ⟨xs.length, by simp, Nat.zero_le _, ι1, S1, [], [], upd_same, .nil, not_mem_of_none L1 hD, ext_new L1 hD, ly_new L1 hD, st1, Nat.zero_le _, run⟩, ?_⟩
  rintro i m H2 ⟨rfl, hi, ι, S, accP, acc, hDn, racc, nD, e2, L2', st2, hacc, run2⟩
  by_cases hlt : i < xs.length
  · have hx : xs[i]? = some xs[i] := List.getElem?_eq_getElem hlt
    rw [List.drop_eq_getElem_cons hlt] at run2
    refine .inr ⟨its.go i _ ι S H2 e2 L2' st2 hx, _, fun H' p => ⟨xs.length - (i + 1), by omega, p⟩, fun v H3 y => ?_⟩
    obtain ⟨e3, L3, rv⟩ := its.yld i _ ι S H2 v H3 e2 L2' st2 hx y
    have hD3 := e3.out Dn _ nD hDn
    have e13 := e1.trans (e2.trans e3)
    refine ⟨ι, S, _, _, _, L3, (G.ext e13).wipe own, rv, run2, fun ι4 S4 H4 σ4 σc4 e4 L4 G4 sm q4 => ?_⟩
    refine ⟨by rw [sm own hin, wipe_wipe], ι4, S4, σ4, _, L4, G4, q4, fun ι5 S5 H5 k e5 L5 q5 => ?_⟩
    have hD4 := e4.out Dn _ nD hD3
    have nD4 := not_mem_ext e4 hD3 nD
    have hD5 := e5.out Dn _ nD4 hD4
    have nD5 := not_mem_ext e5 hD4 nD4
    have e25 := e2.trans (e3.trans (e4.trans e5))
    have racc5 := racc.ext (e3.trans (e4.trans e5))
    cases k with
    | false =>
      simp only [Bool.false_eq_true, if_false] at q5 ⊢
      obtain ⟨st5, q5⟩ := q5
      exact ⟨trivial, hlt, ι5, S5, accP, acc, hD5, racc5, nD5, e25, L5, st5, Nat.le_succ_of_le hacc, q5⟩
    | true =>
      simp only [if_true] at q5 ⊢
      refine ⟨ι5, S5, σ4, _, _, L5, G4.ext e5, q5, fun ι6 S6 H6 u y6 e6 L6 r6 q6 => ?_, cnx_no⟩
      obtain ⟨st6, q6⟩ := q6
      have hD6 := e6.out Dn _ nD5 hD5
      have nD6 := not_mem_ext e6 hD5 nD5
      have xo : Exi ι6 H6 ι6 (upd H6 Dn (.lst (acc ++ [y6]))) := exi_out hD6
      refine ⟨acc, hD6, by rw [lim_eq]; show acc.length < 16777216; have : xs.length ≤ 16777216 := hlen; omega, trivial, hlt, ι6, S6, accP ++ [u], acc ++ [y6], upd_same, ((racc5.ext e6).exi xo).app (.cons (r6.exi xo) .nil), nD6, ?_, ly_out L6 nD6 hD6, st6, ?_, q6⟩
      · refine ext_out (e25.trans e6) hD fun u' hu => ?_
        rw [hD6] at hu
        cases hu
        exact fun z => z
      · rw [List.length_append, List.length_singleton]
        omega
  · have he : i = xs.length := by omega
    subst he
    rw [List.drop_length] at run2
    refine .inl ⟨its.stop ι S H2 e2 L2' st2, ?_⟩
    have run3 : Qa (.ref S.length) (S ++ [SO.lst accP]) := run2
    refine cn (ι ++ [Dn]) (S ++ [SO.lst accP]) H2 (.ref S.length) (.ref Dn) (ext_adopt (e1.trans e2) hD0) (ly_adopt (o := .lst accP) (ho := .lst acc) L2' nD hDn ⟨acc, rfl, racc.exi ⟨fun j a h => by rw [List.getElem?_append_left (List.getElem?_eq_some_iff.mp h).1]; exact h, fun _ _ h _ => h⟩⟩) ⟨Dn, ?_, rfl⟩ run3
    rw [← L2'.len, List.getElem?_append_right (Nat.le_refl _), Nat.sub_self]
    rfl
end
end Rp
/-! # a, *b = a list or a tuple -/
namespace Rp
open PySem PySem.Spec PyProof.Rows L2
section
variable {prog : Program} {w : World} {A : Around} {E : Value → Shared → Prop} {s : Shared}
/-- what is left behind the first item, when the walk over it began -/
def StarQ (s : Shared) (x : Value) (rest : List Value) (Q : List Value → Shared → Prop) : Prop :=
  ∀ (h2 : Heap) (tk : Tok), (∀ b o, s.heap.get? b = some o → h2.get? b = some o) → Q [x, .ref h2.objs.size] { s with heap := h2.push { cls := .type "list", data := .seq rest.toArray }, toks := tk }
theorem star_tail {bad : Sem (List Value)} {x : Value} {rest : List Value} {items : Array Value} {Q : List Value → Shared → Prop} {h2 : Heap} {tk : Tok} (he : items.toList = x :: rest) (k : ∀ b o, s.heap.get? b = some o → h2.get? b = some o) (hz : items.size ≤ 16384) (h : StarQ s x rest Q) :
    wpAny (model prog w) A (if (items.toList.drop 1).length < 2 - 1 - 1 then bad else
      (do let d ← newList ((items.toList.drop 1).take ((items.toList.drop 1).length - (2 - 1 - 1))); pure (items.toList.take 1 ++ [d] ++ (items.toList.drop 1).drop ((items.toList.drop 1).length - (2 - 1 - 1))))) Q E { s with heap := h2, toks := tk } := by
  rw [he, if_neg (by simp)]
  have e1 : List.take (((x :: rest).drop 1).length - (2 - 1 - 1)) ((x :: rest).drop 1) = rest := by simp
  have e2 : List.drop (((x :: rest).drop 1).length - (2 - 1 - 1)) ((x :: rest).drop 1) = [] := by simp
  rw [e1, e2]
  have hn : rest.length + 1 = items.size := by
    have := congrArg List.length he
    simpa using this.symm
  refine wpAny_bind (wpAny_newList (wpAny_pure ?_) (by rw [sizeLine_eq]; omega))
  exact h h2 tk k
theorem star_list {l : Addr} {items : Array Value} {x : Value} {rest : List Value} {Q : List Value → Shared → Prop} (hl : s.heap.IsList l items) (hh : A.handled = none) (he : items.toList = x :: rest) (hz : items.size ≤ 16384) (h : StarQ s x rest Q) :
    wpAny (model prog w) A (unpackItems (.ref l) 2 (some 1)) Q E s := by
  have hs : 1 ≤ items.size := by
    have := congrArg List.length he
    simp at this
    omega
  have hn : l ≠ s.heap.objs.size := by
    obtain ⟨o, ho, _⟩ := hl
    exact Nat.ne_of_lt (Heap.lt_size ho)
  unfold unpackItems notIterableAtAll
  refine wpAny_bind (wpAny_bind (wpAny_specialOf hl.typeIs slot_list_iter.lookup (wpAny_pure ?_)))
  simp only [Bool.false_eq_true, if_false]
  refine wpAny_bind (wpAny_holding (wpAny_pyIter_list hl (wpAny_bind (wpAny_holding (PySem.W.kun_draw hn 1 0 _ _ ⟨_, Heap.get?_push_size _ rfl, rfl, rfl⟩ (hl.push _) (by omega) fun h1 i1 s1 => ?_)))))
  have l1 : h1.IsList l items := (hl.push _).extBut s1.extBut hn
  obtain ⟨oi, hoi, _⟩ := id i1
  obtain ⟨ol, hol, _⟩ := id l1
  rw [List.drop_zero, if_neg (show ¬ (items.toList.take 1).length < 1 by rw [he]; simp)]
  refine wpAny_bind (wpAny_holding (PySem.W.kun_collect (s := { s with heap := h1 }) (T := "list_iterator") (.inr (.inr (.inl rfl))) (Walks.list (A := A.in1) hh s.heap.objs.size l hn items) (fun j u st => st.1.typeIs) (k := 1) hs ⟨by rw [Nat.zero_add] at i1; exact i1, l1⟩ (Heap.lt_size hoi) (Heap.lt_size hol) (fun h2 tk hk => ?_) (by rw [sizeLine_eq]; omega)))
  have kk : ∀ b o, s.heap.get? b = some o → h2.get? b = some o := fun b o e => hk b o (Nat.ne_of_lt (Heap.lt_size e)) (s1.extBut b o (Nat.ne_of_lt (Heap.lt_size e)) (Heap.get?_push_of_some _ e))
  exact star_tail (s := s) he kk hz h
theorem star_tup {l : Addr} {items : Array Value} {x : Value} {rest : List Value} {Q : List Value → Shared → Prop} (hl : IsTup s.heap l items) (hh : A.handled = none) (he : items.toList = x :: rest) (hz : items.size ≤ 16384) (h : StarQ s x rest Q) :
    wpAny (model prog w) A (unpackItems (.ref l) 2 (some 1)) Q E s := by
  have hs : 1 ≤ items.size := by
    have := congrArg List.length he
    simp at this
    omega
  have hn : l ≠ s.heap.objs.size := by
    obtain ⟨o, ho, _⟩ := hl
    exact Nat.ne_of_lt (Heap.lt_size ho)
  unfold unpackItems notIterableAtAll
  refine wpAny_bind (wpAny_bind (wpAny_specialOf hl.typeIs slot_tuple_iter.lookup (wpAny_pure ?_)))
  simp only [Bool.false_eq_true, if_false]
  refine wpAny_bind (wpAny_holding (iter_tuple hl (wpAny_bind (wpAny_holding (draw_tuple hn 1 0 _ _ ⟨_, Heap.get?_push_size _ rfl, rfl, rfl⟩ (hl.push _) (by omega) fun h1 i1 s1 => ?_)))))
  have l1 : IsTup h1 l items := (hl.push _).extBut s1.extBut hn
  obtain ⟨oi, hoi, _⟩ := id i1
  obtain ⟨ol, hol, _⟩ := id l1
  rw [List.drop_zero, if_neg (show ¬ (items.toList.take 1).length < 1 by rw [he]; simp)]
  refine wpAny_bind (wpAny_holding (PySem.W.kun_collect (s := { s with heap := h1 }) (T := "tuple_iterator") (.inr (.inr (.inr rfl))) (Walks.tuple (A := A.in1) hh s.heap.objs.size l hn items) (fun j u st => st.1.typeIs) (k := 1) hs ⟨by rw [Nat.zero_add] at i1; exact i1, l1⟩ (Heap.lt_size hoi) (Heap.lt_size hol) (fun h2 tk hk => ?_) (by rw [sizeLine_eq]; omega)))
  have kk : ∀ b o, s.heap.get? b = some o → h2.get? b = some o := fun b o e => hk b o (Nat.ne_of_lt (Heap.lt_size e)) (s1.extBut b o (Nat.ne_of_lt (Heap.lt_size e)) (Heap.get?_push_of_some _ e))
  exact star_tail (s := s) he kk hz h
end
section
variable {X : Cx} {pos : Pos}
/-- a, *b = .. -/
def gStar (K : PySem.W.Frag) (i j : Nat) : TG := fun v σ H Q => ∃ a x xs, v = .ref a ∧ (SqL K H a (x :: xs) ∨ SqT K H a (x :: xs)) ∧ xs.length ≤ 16000 ∧ ∀ p, H p = none → Q ((σ.set i (some x)).set j (some (.ref p))) (upd H p (.lst xs))
theorem pg_star {i j k : Nat} {x y : Str} {p q r : Pos} (hc : X.calm = true) (hx : PG X (.Name x p) (gName i)) (hy : PG X (.Name y q) (gName j)) : PG X (.Tuple [.Name x p, .Starred (.Name y q) r] k pos) (gStar X.K i j) := by
  refine ⟨fun pins s σ H v u Q I rv hw => ?_⟩
  obtain ⟨a, z, xs, rfl, hq, hl, fin⟩ := hw
  obtain rfl : u = Value.ref a := rv
  rw [PyProof.Rows.assign_Tuple]
  refine wpAny_bind (wpAny_standAt ?_)
  show wpAny _ _ (unpack (.ref a) [(false, assign (.Name x p) X.env), (true, assign (.Name y q) X.env)]) _ _ _
  have go : ∀ its : List Value, Vals (z :: xs) its → ∀ c rest, its = c :: rest → StarQ s c rest fun vs s' => wpAny (model X.prog X.w) X.A (assignInOrder [assign (.Name x p) X.env, assign (.Name y q) X.env] vs) (fun _ s' => ∃ σ' H', Inv X pins σ' H' s' ∧ Q σ' H') X.xe s' := by
    intro its ri c rest e h2 tk kk
    subst e
    cases ri with
    | cons r1 r2 =>
      have I0 : Inv X pins σ H { s with heap := h2, toks := tk } := I.kept kk
      generalize hD : h2.objs.size = D
      have I1 : Inv X pins σ (upd H D (.lst xs)) { s with heap := h2.push { cls := .type "list", data := .seq rest.toArray }, toks := tk } := I0.laid (fun b o q => Heap.get?_push_of_some _ q) (Nat.le_of_eq hD) ⟨by rw [sizeLine_eq]; omega, _, 0, r2, by rw [← hD]; exact Heap.get?_push_size _ rfl⟩
      refine assignInOrder_cons (thn (hx.run pins _ σ _ _ _ _ I1 r1 (show gName i z σ _ (fun σ' H' => σ' = σ.set i (some z) ∧ H' = upd H D (.lst xs)) from ⟨rfl, rfl⟩)) fun _ s1 ⟨σ1, H1, I2, e1, e2⟩ => ?_)
      subst e1 e2
      refine assignInOrder_cons (thn (hy.run pins _ _ _ _ _ _ I2 (show RelV (.ref D) (.ref D) from rfl) (show gName j (.ref D) _ _ (fun σ' H' => σ' = (σ.set i (some z)).set j (some (.ref D)) ∧ H' = upd H D (.lst xs)) from ⟨rfl, rfl⟩)) fun _ s2 ⟨σ2, H2, I3, e1, e2⟩ => ?_)
      subst e1 e2
      exact wpAny_pure ⟨_, _, I3, fin D (I0.hok.fresh (Nat.le_of_eq hD))⟩
  unfold unpack
  refine wpAny_bind (wpAny_holding ?_)
  show wpAny _ _ (unpackItems (.ref a) 2 (some 1)) _ _ _
  rcases hq with hq | hq
  · obtain ⟨its, ri, ht, _⟩ := I.list hq
    have hlen := ri.length
    cases its with
    | nil => simp at hlen
    | cons c rest => exact star_list ht.isList (I.ok.hd hc) rfl (by rw [List.size_toArray, ← hlen, List.length_cons]; omega) (go _ ri c rest rfl)
  · obtain ⟨its, ri, ht, _⟩ := I.tuple hq
    have hlen := ri.length
    cases its with
    | nil => simp at hlen
    | cons c rest => exact star_tup ht (I.ok.hd hc) rfl (by rw [List.size_toArray, ← hlen, List.length_cons]; omega) (go _ ri c rest rfl)
end
section
variable {X : Cx} {D : Ad} {F : Fd} {T : Tab} {M : Nm} {fl : List String} {C : CS} {lv : Nat} {W : WX} {c : Sc} {pos : Pos}
theorem put_name {i : Nat} {x : Str} {p : Pos} (o : Okx X D F T M fl C lv W c) (h : okPut c i x = true) : PG X (.Name x p) (gName i) := by
  unfold okPut at h
  rw [Bool.and_eq_true] at h
  have hi : X.N[i]? = some x := by rw [o.hN]; exact of_decide_eq_true h.1
  have hp : Sc.put ⟨c.N, X.env.scope, c.all⟩ x = true := by rw [o.hsc]; exact h.2
  unfold Sc.put at hp
  have key : Loc X.env.scope x ∧ (X.fn x = true ∨ X.env.scope.names.lookup x = some .local) := by
    split at hp
    · exact ⟨.inl (by assumption), .inr (by assumption)⟩
    · exact ⟨.inr (by assumption), .inl (o.hfn hp x)⟩
    · cases hp
  exact pg_name o.nd hi key.1 key.2
theorem t_star {i j k : Nat} {x y : Str} {p q r : Pos} (o : Okx X D F T M fl C lv W c) (h1 : okPut c i x = true) (h2 : okPut c j y = true) : PG X (.Tuple [.Name x p, .Starred (.Name y q) r] k pos) (rdTg D T C (.tup (.cons (.name i) (.star j)))) := by
  refine PG.imp (pg_star o.calm (put_name o h1) (put_name o h2)) fun v σc H Q z => ?_
  obtain ⟨ι, S, σ, Qt, w, L, G, r, ⟨xs, ex, el, hw⟩, cn⟩ := z
  obtain ⟨u, us, rfl, hl, q⟩ : ∃ u us, xs = u :: us ∧ us.length ≤ 16000 ∧ Qt ((σ.set i (some u)).set j (some (.ref S.length))) (S ++ [.lst us]) := by
    obtain ⟨u, us, e, hw⟩ := hw
    obtain ⟨h3, h4⟩ := hw
    exact ⟨u, us, e, h3, h4⟩
  obtain ⟨a, vs, rfl, hq, rv⟩ := seq_at L ex r
  obtain ⟨z, zs, rfl, rz, rzs⟩ := rv
  refine ⟨a, z, zs, rfl, by rw [o.hK]; exact hq, by rw [rzs.len]; exact hl, fun pp hp => ?_⟩
  have e1 : Ext ι H (ι ++ [pp]) (upd H pp (.lst zs)) := ext_push L hp fun b u e => by rw [upd_ne (ne_of_none e hp)]; exact e
  have L1 : Ly D (ι ++ [pp]) (upd H pp (.lst zs)) (S ++ [.lst us]) := ly_push L hp (fun b u e => by rw [upd_ne (ne_of_none e hp)]; exact e) upd_same ⟨zs, rfl, rzs.ext e1⟩
  refine cn _ _ _ _ _ e1 L1 (((G.ext e1).set i (rz.ext e1)).set j (show RV D _ _ (.ref S.length) (.ref pp) from ⟨pp, ?_, rfl⟩)) (fun vs hv => ?_) q
  · rw [← L.len, List.getElem?_append_right (Nat.le_refl _), Nat.sub_self]
    rfl
  · have hv : (tgIn (.name i) vs && tgsIn (.star j) vs) = true := hv
    rw [Bool.and_eq_true] at hv
    have a1 := fun y => wipe_set (x := y) σc hv.1
    have a2 := fun y => wipe_set (x := y) (σc.set i (some z)) hv.2
    rw [a2, a1]
end
end Rp
/-! # Statements -/
namespace Rp
open PySem PySem.Spec PyProof.Rows L2

/-- the wishes behind a statement -/
structure CnE (D : Ad) (ι : List Addr) (H : Hp) (W : WX) (Da : En) (De : Ends) : Prop where
  nx : ∀ ι' S' H' σ' σc', Ext ι H ι' H' → Ly D ι' H' S' → RG D ι' H' σ' σc' → Da.nx σ' S' → De.nx σc' H'
  rt : Cnt D ι H Da.rt De.rt
  bk : ∀ ι' S' H' σ' σc', Ext ι H ι' H' → Ly D ι' H' S' → RG D ι' H' σ' σc' → Da.bk σ' S' → De.bk σc' H'
  ct : ∀ ι' S' H' σ' σc', Ext ι H ι' H' → Ly D ι' H' S' → RG D ι' H' σ' σc' → Da.ct σ' S' → De.ct σc' H'
  ex : ∀ ι' S' H' σ' σc' x cls d, Ext ι H ι' H' → Ly D ι' H' S' → RG D ι' H' σ' σc' → RX D ι' H' x cls d → Da.ex x σ' S' → W cls d σc' H'
theorem CnE.ext {D : Ad} {ι ι' : List Addr} {H H' : Hp} {W : WX} {Da : En} {De : Ends} (c : CnE D ι H W Da De) (e : Ext ι H ι' H') : CnE D ι' H' W Da De :=
  ⟨fun a b d f g h => c.nx a b d f g (e.trans h), c.rt.ext e, fun a b d f g h => c.bk a b d f g (e.trans h), fun a b d f g h => c.ct a b d f g (e.trans h), fun a b d f g x y z h => c.ex a b d f g x y z (e.trans h)⟩
theorem CnE.cx {D : Ad} {ι : List Addr} {H : Hp} {W : WX} {Da : En} {De : Ends} {σ : Sg} {σc : L2.St} (c : CnE D ι H W Da De) (G : RG D ι H σ σc) : CnX D ι H (fun x S1 => Da.ex x σ S1) σc W :=
  fun ι' S' H' x cls d e L r q => c.ex ι' S' H' σ σc x cls d e L (G.ext e) r q
/-- other ends ahead -/
theorem CnE.nxt {D : Ad} {ι : List Addr} {H : Hp} {W : WX} {Da : En} {De : Ends} (c : CnE D ι H W Da De) {n : Sg → Store → Prop} {n' : L2.St → Hp → Prop} (h : ∀ ι' S' H' σ' σc', Ext ι H ι' H' → Ly D ι' H' S' → RG D ι' H' σ' σc' → n σ' S' → n' σc' H') :
    CnE D ι H W { Da with nx := n } { De with nx := n' } := ⟨h, c.rt, c.bk, c.ct, c.ex⟩
/-- the ends of a loop's body -/
theorem CnE.loop {D : Ad} {ι : List Addr} {H : Hp} {W : WX} {Da : En} {De : Ends} (c : CnE D ι H W Da De) {n : Sg → Store → Prop} {n' : L2.St → Hp → Prop} (h : ∀ ι' S' H' σ' σc', Ext ι H ι' H' → Ly D ι' H' S' → RG D ι' H' σ' σc' → n σ' S' → n' σc' H') :
    CnE D ι H W { Da with nx := n, ct := n, bk := Da.nx } { De with nx := n', ct := n', bk := De.nx } := ⟨h, c.rt, c.nx, h, c.ex⟩

def rdS (D : Ad) (T : Tab) (C : CS) (W : WX) (r : RS) : TS := fun De σc H => ∃ ι S σ Da, Ly D ι H S ∧ RG D ι H σ σc ∧ wpS T C r σ S Da ∧ CnE D ι H W Da De
def rdSs (D : Ad) (T : Tab) (C : CS) (W : WX) (r : RSs) : TS := fun De σc H => ∃ ι S σ Da, Ly D ι H S ∧ RG D ι H σ σc ∧ wpSs T C r σ S Da ∧ CnE D ι H W Da De

theorem swap_no {t e : Expr} {l : Nat} {env : Env} (h : noSwap t e = true) : swapsWith e (some t) l env = pure false := by
  unfold noSwap at h
  cases e <;> first
    | rfl
    | (cases t <;> first
        | rfl
        | cases h)
theorem swap_none {e : Expr} {l : Nat} {env : Env} (h : noComp e = true) : swapsWith e none l env = pure false := by
  cases e <;> first
    | rfl
    | cases h
theorem exch_no {t e : Expr} {env : Env} (h : noExch env.scope t e = true) : swappedStores [t] e env = pure none := by
  unfold noExch at h
  cases t <;> first
    | rfl
    | (cases e <;> first
        | rfl
        | cases h
        | skip)
  rename_i ts k1 p1 vs k2 p2
  have h : (!(ts.length == 2 || ts.length == 3) || vs.all (foldedForSure 8) || (swapNames env.scope ts).length != ts.length) = true := h
  unfold swappedStores
  simp only [pure_bind]
  cases h1 : (ts.length == 2 || ts.length == 3)
  · simp
  · rw [h1] at h
    have h : (vs.all (foldedForSure 8) || (swapNames env.scope ts).length != ts.length) = true := h
    rcases Bool.or_eq_true_iff.mp h with h2 | h2
    · simp only [h2, if_true]
      split
      · rfl
      · split
        · rfl
        · split <;> rfl
    · have h3 : ∀ l, l = swapNames env.scope ts → (l.length != ts.length || l.eraseDups.length != l.length) = true := fun l e => by
        rw [e, h2] <;> rfl
      split
      · rfl
      · split
        · rfl
        · first
            | rw [if_pos (h3 _ rfl)]
            | (split
               · rfl
               · rename_i h5
                 exact absurd (h3 _ rfl) h5)

section
variable {X : Cx} {D : Ad} {F : Fd} {T : Tab} {M : Nm} {fl : List String} {C : CS} {lv : Nat} {W : WX} {c : Sc} {pos : Pos}

theorem q_pass : PS X (.Pass pos) (rdS D T C W .pass) := PS.imp ps_pass fun De σc H z => by
  obtain ⟨ι, S, σ, Da, L, G, hw, cn⟩ := z
  exact cn.nx ι S H σ σc Ext.refl L G hw
theorem q_brk : PS X (.Break pos) (rdS D T C W .brk) := PS.imp ps_break fun De σc H z => by
  obtain ⟨ι, S, σ, Da, L, G, hw, cn⟩ := z
  exact cn.bk ι S H σ σc Ext.refl L G hw
theorem q_cont : PS X (.Continue pos) (rdS D T C W .cont) := PS.imp ps_continue fun De σc H z => by
  obtain ⟨ι, S, σ, Da, L, G, hw, cn⟩ := z
  exact cn.ct ι S H σ σc Ext.refl L G hw
theorem q_doc {x : Str} {j : Nat} {p : Pos} : PS X (.Expr (.Constant (.str x) j p) pos) (rdS D T C W .doc) := PS.imp ps_doc fun De σc H z => by
  obtain ⟨ι, S, σ, Da, L, G, hw, cn⟩ := z
  exact cn.nx ι S H σ σc Ext.refl L G hw
theorem q_expr {r : RE} {e : Expr} (hs : noComp e = true) (he : PE X e (rdE D T C W r)) : PS X (.Expr e pos) (rdS D T C W (.expr r)) := PS.imp (ps_expr he (swap_none hs)) fun De σc H z => by
  obtain ⟨ι, S, σ, Da, L, G, hw, cn⟩ := z
  exact ⟨ι, S, σ, _, _, L, G, hw, fun ι1 S1 H1 v x e1 L1 r1 q1 => cn.nx ι1 S1 H1 σ σc e1 L1 (G.ext e1) q1, cn.cx G⟩
theorem q_ret {r : RE} {e : Expr} (he : PE X e (rdE D T C W r)) : PS X (.Return (some e) pos) (rdS D T C W (.ret r)) := PS.imp (ps_ret he) fun De σc H z => by
  obtain ⟨ι, S, σ, Da, L, G, hw, cn⟩ := z
  exact ⟨ι, S, σ, _, _, L, G, hw, cn.rt, cn.cx G⟩
theorem q_retN : PS X (.Return none pos) (rdS D T C W .retN) := PS.imp ps_retN fun De σc H z => by
  obtain ⟨ι, S, σ, Da, L, G, hw, cn⟩ := z
  exact cn.rt.here L (show RV D ι H .non .non from rfl) hw
theorem q_asg {t : RT} {r : RE} {tg e : Expr} (hs : noSwap tg e = true) (hx : noExch X.env.scope tg e = true) (hn : noStarT [tg] = true) (he : PE X e (rdE D T C W r)) (hg : PG X tg (rdTg D T C t)) : PS X (.Assign [tg] e pos) (rdS D T C W (.asg t r)) := by
  refine PS.imp (ps_asg he hg (swap_no hs) (exch_no hx) (by rw [(noStarT_cons hn).1] <;> rfl)) fun De σc H z => ?_
  obtain ⟨ι, S, σ, Da, L, G, hw, cn⟩ := z
  refine ⟨ι, S, σ, _, _, L, G, hw, fun ι1 S1 H1 v x e1 L1 r1 q1 => ?_, cn.cx G⟩
  exact ⟨ι1, S1, σ, _, v, L1, G.ext e1, r1, q1, fun ι2 S2 H2 σ2 σc2 e2 L2' G2 _ q2 => cn.nx ι2 S2 H2 σ2 σc2 (e1.trans e2) L2' G2 q2⟩
theorem putF_keys {f : String} {x : V} : ∀ {fs : List (String × PV)} {fs' : List (Str × V)} {v : PV}, fs'.map (·.1) = fs.map (fun p => sN p.1) → (putF (sN f) x fs').map (·.1) = (putFl f v fs).map (fun p => sN p.1)
  | [], [], v, _ => rfl
  | [], _ :: _, v, h => by cases h
  | _ :: _, [], v, h => by cases h
  | (g, w) :: fs, (g', w') :: fs', v, h => by
    have h' : g' :: fs'.map (·.1) = sN g :: fs.map (fun p => sN p.1) := h
    injection h' with h1 h2
    subst h1
    unfold putF putFl
    by_cases e : g = f
    · subst e
      rw [if_pos rfl, if_pos rfl]
      show sN g :: fs'.map (·.1) = sN g :: fs.map (fun p => sN p.1)
      rw [h2]
    · rw [if_neg (fun z => e (sN_inj z)), if_neg e]
      show sN g :: (putF (sN f) x fs').map (·.1) = sN g :: (putFl f v fs).map (fun p => sN p.1)
      rw [putF_keys h2]
end
end Rp
/-! # Statements: fields, comprehensions into names, pairs, loops -/
namespace Rp
open PySem PySem.Spec PyProof.Rows L2
section
variable {X : Cx} {D : Ad} {F : Fd} {T : Tab} {M : Nm} {fl : List String} {C : CS} {lv : Nat} {W : WX} {c : Sc} {pos : Pos}

theorem putF_vals {ι : List Addr} {H : Hp} {f : String} {v : PV} {x : V} (r : RV D ι H v x) : ∀ {fs : List (String × PV)} {fs' : List (Str × V)}, fs'.map (·.1) = fs.map (fun p => sN p.1) → RVs D ι H (fs.map (·.2)) (fs'.map (·.2)) → RVs D ι H ((putFl f v fs).map (·.2)) ((putF (sN f) x fs').map (·.2))
  | [], [], _, _ => .cons r .nil
  | [], _ :: _, h, _ => by cases h
  | _ :: _, [], h, _ => by cases h
  | (g, w) :: fs, (g', w') :: fs', h, q => by
    have h' : g' :: fs'.map (·.1) = sN g :: fs.map (fun p => sN p.1) := h
    injection h' with h1 h2
    subst h1
    obtain ⟨y, ys, e, q1, q2⟩ := q
    have e' : w' :: fs'.map (·.2) = y :: ys := e
    injection e' with e1 e2
    subst e1 e2
    unfold putF putFl
    by_cases e : g = f
    · subst e
      rw [if_pos rfl, if_pos rfl]
      exact .cons r q2
    · rw [if_neg (fun z => e (sN_inj z)), if_neg e]
      exact .cons q1 (putF_vals r h2 q2)
/-- an instance's field changed -/
theorem Ly.setFld {ι : List Addr} {H : Hp} {S : Store} (L : Ly D ι H S) {i k : Nat} {a dx : Addr} {fs : List (String × PV)} {fs' : List (Str × V)} {f : String} {v : PV} {x : V} (hi : ι[i]? = some a) (hs : S[i]? = some (.ins k fs)) (n1 : fs'.map (·.1) = fs.map (fun p => sN p.1)) (n2 : RVs D ι H (fs.map (·.2)) (fs'.map (·.2))) (r : RV D ι H v x) :
    Ext ι H ι (upd H a (.ins (D.ca k) dx (putF (sN f) x fs'))) ∧ Ly D ι (upd H a (.ins (D.ca k) dx (putF (sN f) x fs'))) (S.set i (.ins k (putFl f v fs))) :=
  ⟨ext_write L hi hs, ly_write (o' := .ins k (putFl f v fs)) (ho := .ins (D.ca k) dx (putF (sN f) x fs')) L hi hs ⟨dx, _, rfl, putF_keys n1, (putF_vals r n1 n2).ext (ext_write L hi hs)⟩⟩
theorem q_fld {r o' : RE} {f : String} {e v : Expr} {p : Pos} (o : Okx X D F T M fl C lv W c) (hf : f ∈ fl) (hs : noSwap (.Attribute e (sN f) p) v = true) (ha : PE X e (rdE D T C W o')) (hv : PE X v (rdE D T C W r)) : PS X (.Assign [.Attribute e (sN f) p] v pos) (rdS D T C W (.asg (.fld o' f) r)) := by
  refine PS.imp (ps_fld ha hv (swap_no hs)) fun De σc H z => ?_
  obtain ⟨ι, S, σ, Da, L, G, hw, cn⟩ := z
  refine ⟨ι, S, σ, _, _, L, G, hw, fun ι1 S1 H1 y y' e1 L1 r1 q1 => ?_, cn.cx G⟩
  refine ⟨ι1, S1, σ, _, _, L1, G.ext e1, q1, fun ι2 S2 H2 u u' e2 L2' r2 q2 => ?_, cnx_no⟩
  obtain ⟨a, k, fs, rfl, hs, hc, hl, q⟩ := q2
  obtain ⟨p, hi, rfl⟩ := rv_ref r2
  obtain ⟨p', dx, fs', hi', hp, n1, n2⟩ := L2'.ins hs
  rw [hi] at hi'; cases hi'
  obtain ⟨cd, hcd⟩ := Option.isSome_iff_exists.mp hc
  obtain ⟨c1, c2, c3⟩ := o.lk.ms k cd hcd
  have len : fs'.length = fs.length := by simpa using congrArg List.length n1
  obtain ⟨e3, l3⟩ := L2'.setFld (f := f) (dx := dx) hi hs n1 n2 (r1.ext e2)
  have e13 := (e1.trans e2).trans e3
  exact ⟨p, _, dx, fs', rfl, hp, by rw [o.hK]; exact c1, by rw [o.hK]; exact c3 f hf, by omega, cn.nx _ _ _ σ σc e13 l3 (G.ext e13) q⟩

/-! ### comprehensions -/
theorem ownOf_snd (N : List Str) : ∀ l : List Nat, (ownOf N l).map (·.2) = l
  | [] => rfl
  | i :: r => by
    show i :: (ownOf N r).map (·.2) = i :: r
    rw [ownOf_snd N r]
theorem takes_no {X : Cx} : Takes X W0 := fun u s' ⟨_, _, _, _, _, _, _, _, _, _, _, _, _, _, _, _, w⟩ => w.elim
theorem okx_blk (o : Okx X D F T M fl C lv W c) {s : Shared} {H : Hp} {scope : Scope} {Cc : Addr} {cl : List (Str × Addr)} {fp : List Addr} : Okx (X.blk s H scope (compEnvC scope cl Cc X.env) fp) D F T M fl C lv W0 (relSc c scope) :=
  ⟨o.hK, o.hN, by
    show relS scope X.env.scope = relS scope c.sc
    rw [o.hsc], o.nd, o.calm, o.grd, o.room, takes_no, (fun h => by cases h), o.lk⟩
theorem folded_no {e : Expr} {env : Env} (h : noSet e = true) : ∀ x, foldedSetIterable e env x = pure x := by
  intro x
  cases e <;> first
    | rfl
    | cases h
theorem s_lc {elt : RE} {tg' : RT} {it : RI} {ifs : REs} {own : List Nat} {el tg iter : Expr} {fs : List Expr} {scope : Scope} (o : Okx X D F T M fl C lv W c) (hin : tgIn tg' own = true) (hb : blkC c.N c.sc scope (ownOf c.N own) = true) (hset : noSet iter = true) (hi : PI X tg iter (rdI D T C W it))
    (hg : ∀ (s : Shared) (H : Hp) (Cc : Addr) (cl : List (Str × Addr)) (fp : List Addr), PG (X.blk s H scope (compEnvC scope cl Cc X.env) fp) tg (rdTg D T C tg')) (ht : ∀ (s : Shared) (H : Hp) (Cc : Addr) (cl : List (Str × Addr)) (fp : List Addr), PTs (X.blk s H scope (compEnvC scope cl Cc X.env) fp) fs (rdTs D T C ifs))
    (he : ∀ (s : Shared) (H : Hp) (Cc : Addr) (cl : List (Str × Addr)) (fp : List Addr), PE (X.blk s H scope (compEnvC scope cl Cc X.env) fp) el (rdE D T C W0 elt)) : PE X (.ListComp el [⟨tg, iter, fs, 0⟩] scope pos) (rdE D T C W (.lc elt tg' it ifs own)) := by
  have ok : BlkOk X.N X.env.scope scope (ownOf c.N own) := by
    rw [o.hN, o.hsc]
    exact blkOk_by hb
  refine PE.imp (pe_lc o.calm o.nd hi ok hg ht he (folded_no hset)) fun σc H Q z => ?_
  rw [ownOf_snd]
  exact lc_imp hin σc H Q z
theorem q_setlc {i : Nat} {y : Str} {py p2 : Pos} {elt : RE} {tg' : RT} {it : RI} {ifs : REs} {own : List Nat} {el tg iter : Expr} {fs : List Expr} {scope : Scope} (o : Okx X D F T M fl C lv W c) (hy : c.N[i]? = some y) (hyl : c.sc.names.lookup y = some .local) (hln : (py.line == p2.line) = true)
    (hno : (scope.names.any fun (n, k) => n == y && (k == .local || k == .cell)) = false) (hin : tgIn tg' own = true) (hb : blkC c.N c.sc scope (ownOf c.N own) = true) (hset : noSet iter = true) (hi : PI X tg iter (rdI D T C W it))
    (hg : ∀ (s : Shared) (H : Hp) (Cc : Addr) (cl : List (Str × Addr)) (fp : List Addr), PG (X.blk s H scope (compEnvC scope cl Cc X.env) fp) tg (rdTg D T C tg')) (ht : ∀ (s : Shared) (H : Hp) (Cc : Addr) (cl : List (Str × Addr)) (fp : List Addr), PTs (X.blk s H scope (compEnvC scope cl Cc X.env) fp) fs (rdTs D T C ifs))
    (he : ∀ (s : Shared) (H : Hp) (Cc : Addr) (cl : List (Str × Addr)) (fp : List Addr), PE (X.blk s H scope (compEnvC scope cl Cc X.env) fp) el (rdE D T C W0 elt)) : PS X (.Assign [.Name y py] (.ListComp el [⟨tg, iter, fs, 0⟩] scope p2) pos) (rdS D T C W (.setlc i elt tg' it ifs own)) := by
  have ok : BlkOk X.N X.env.scope scope (ownOf c.N own) := by
    rw [o.hN, o.hsc]
    exact blkOk_by hb
  have hyl' : X.env.scope.names.lookup y = some .local := by rw [o.hsc]; exact hyl
  refine ⟨fun pins s σc H De I z => ?_⟩
  refine (ps_setLc (i := i) o.calm o.nd (by rw [o.hN]; exact hy) hyl' (sw_true I.ok.kind hyl' hln hno) hi ok hg ht he (folded_no hset)).run pins s σc H De I ?_
  obtain ⟨ι, S, σ, Da, L, G, hw, cn⟩ := z
  rw [ownOf_snd]
  refine lc_imp (W := W) hin σc H _ ⟨ι, S, σ, _, _, L, G, hw, fun ι1 S1 H1 v x e1 L1 r1 q1 => ?_, cn.cx G⟩
  exact cn.nx ι1 S1 H1 _ _ e1 L1 ((G.ext e1).set i r1) q1

/-! ### pairs, two targets, augmented -/
theorem lcl_of {x : Str} (h : c.lcl x = true) : c.sc.names.lookup x = some .local := by
  unfold Sc.lcl at h
  split at h
  · assumption
  · cases h
theorem noStar_star {vs : List Expr} (h : noStar vs = true) : (vs.any fun | .Starred .. => true | _ => false) = false := by
  induction vs with
  | nil => rfl
  | cons e es ih =>
    cases e <;> first
      | cases h
      | exact ih h
theorem q_par {i j : Nat} {x y : Str} {a b : Expr} {px py pt pt2 : Pos} {kt k2 : Nat} {es : REs} (o : Okx X D F T M fl C lv W c) (hi : c.N[i]? = some x) (hj : c.N[j]? = some y) (hij : i ≠ j) (hb : parB c x y px py [a, b] = true) (hl : 2 = es.len) (ha : PA X [a, b] (rdEs D T C W es)) :
    PS X (.Assign [.Tuple [.Name x px, .Name y py] kt pt] (.Tuple [a, b] k2 pt2) pos) (rdS D T C W (.par [i, j] es)) := by
  unfold parB at hb
  simp only [Bool.and_eq_true, Bool.not_eq_true'] at hb
  obtain ⟨⟨⟨⟨⟨⟨b1, b2⟩, b3⟩, b4⟩, b5⟩, b6⟩, b7⟩ := hb
  have hx : X.env.scope.names.lookup x = some .local := by rw [o.hsc]; exact lcl_of b1
  have hy : X.env.scope.names.lookup y = some .local := by rw [o.hsc]; exact lcl_of b2
  have kx : X.env.kindOf x = some .local := hx
  have ky : X.env.kindOf y = some .local := hy
  refine ⟨fun pins s σc H De I z => ?_⟩
  have bk : X.env.blockKind = .function := by
    unfold Env.blockKind
    rw [I.ok.kind] <;> rfl
  have hw : swappedStores [.Tuple [.Name x px, .Name y py] kt pt] (.Tuple [a, b] k2 pt2) X.env = pure (some [x, y]) := by
    have st := noStar_star b5
    have b4' : (y == x) = false := by
      rw [beq_eq_false_iff_ne] at b4 ⊢
      exact fun z => b4 z.symm
    unfold swappedStores
    simp only [pure_bind]
    split
    · rename_i h
      exfalso
      revert h
      simp [bk]
    · split
      · rename_i h
        exact absurd (st.symm.trans h) Bool.false_ne_true
      · have l3 : ((x == x) && (py.line == px.line)) = true := by simp [b3]
        simp only [kx, ky, b6, b7, List.head?_cons, Option.map_some, Option.getD_some, Expr.pos, List.filterMap_cons, List.filterMap_nil, beq_self_eq_true, b3, Bool.and_self, if_true]
        simp [List.eraseDups_cons, b4, b4', beq_eq_false_iff_ne.mp b4, beq_eq_false_iff_ne.mp b4']
  refine (ps_par (i := i) (j := j) o.calm o.nd (by rw [o.hN]; exact hi) (by rw [o.hN]; exact hj) hij hx hy ha hw).run pins s σc H De I ?_
  obtain ⟨ι, S, σ, Da, L, G, hw, cn⟩ := z
  refine ⟨ι, S, σ, _, _, L, G, hw, fun ι1 S1 H1 vs xs e1 L1 r1 l1 q1 => ?_, cn.cx G⟩
  obtain ⟨v, w, rfl⟩ : ∃ v w, vs = [v, w] := by
    rw [← hl] at l1
    match vs, l1 with
    | [v, w], _ => exact ⟨v, w, rfl⟩
  obtain ⟨x', y', rfl, rx, ry⟩ := rvs2 r1
  exact ⟨x', y', rfl, cn.nx ι1 S1 H1 _ _ e1 L1 (((G.ext e1).set i rx).set j ry) q1⟩
theorem q_asg2 {t u : RT} {r : RE} {t1 t2 e : Expr} (hn : noStarT [t1, t2] = true) (he : PE X e (rdE D T C W r)) (h1 : PG X t1 (rdTg D T C t)) (h2 : PG X t2 (rdTg D T C u)) : PS X (.Assign [t1, t2] e pos) (rdS D T C W (.asg2 t u r)) := by
  refine PS.imp (ps_asg2 he h1 h2 (by rw [(noStarT_cons hn).1, (noStarT_cons (noStarT_cons (env := X.env) hn).2).1] <;> rfl) (by cases t1 <;> rfl)) fun De σc H z => ?_
  obtain ⟨ι, S, σ, Da, L, G, hw, cn⟩ := z
  refine ⟨ι, S, σ, _, _, L, G, hw, fun ι1 S1 H1 v x e1 L1 r1 q1 => ?_, cn.cx G⟩
  refine ⟨ι1, S1, σ, _, v, L1, G.ext e1, r1, q1, fun ι2 S2 H2 σ2 σc2 e2 L2' G2 _ q2 => ?_⟩
  exact ⟨ι2, S2, σ2, _, v, L2', G2, r1.ext e2, q2, fun ι3 S3 H3 σ3 σc3 e3 L3 G3 _ q3 => cn.nx ι3 S3 H3 σ3 σc3 ((e1.trans e2).trans e3) L3 G3 q3⟩
theorem ip_G (op : Operator) : PIp X op (rdV2 D (wpAug op)) := by
  intro pins s σ H x y v u Q I r1 r2 h
  obtain ⟨ι, S, a, b, Qa, L, ra, rb, hw, cn⟩ := h
  cases op with
  | Add =>
    cases a with
    | int i =>
      cases b with
      | int j =>
        cases rv_int ra; cases rv_int rb
        exact ip_add pins s σ H _ _ v u Q I r1 r2 ⟨i, j, rfl, rfl, cn.here L (show RV D ι H (.int _) (.int _) from rfl) hw⟩
      | _ => exact (show False from hw).elim
    | _ => exact (show False from hw).elim
  | Sub =>
    cases a with
    | int i =>
      cases b with
      | int j =>
        cases rv_int ra; cases rv_int rb
        exact ip_sub pins s σ H _ _ v u Q I r1 r2 ⟨i, j, rfl, rfl, cn.here L (show RV D ι H (.int _) (.int _) from rfl) hw⟩
      | _ => exact (show False from hw).elim
    | _ => exact (show False from hw).elim
  | _ => cases a <;> exact (show False from hw).elim
theorem q_aug {i : Nat} {x : Str} {op : Operator} {r : RE} {e : Expr} {p : Pos} (o : Okx X D F T M fl C lv W c) (h : okPut c i x = true) (he : PE X e (rdE D T C W r)) : PS X (.AugAssign (.Name x p) op e pos) (rdS D T C W (.aug i op r)) := by
  unfold okPut at h
  rw [Bool.and_eq_true] at h
  have hi : X.N[i]? = some x := by rw [o.hN]; exact of_decide_eq_true h.1
  have hp := h.2
  unfold Sc.put at hp
  rw [← o.hsc] at hp
  have key : Loc X.env.scope x ∧ (X.fn x = true ∨ X.env.scope.names.lookup x = some .local) := by
    split at hp
    · exact ⟨.inl (by assumption), .inr (by assumption)⟩
    · exact ⟨.inr (by assumption), .inl (o.hfn hp x)⟩
    · cases hp
  refine PS.imp (ps_aug o.nd hi key.1 he (ip_G (D := D) op) key.2) fun De σc H z => ?_
  obtain ⟨ι, S, σ, Da, L, G, ⟨x0, hx0, hw⟩, cn⟩ := z
  obtain ⟨y0, hy0, r0⟩ := G.at_ i x0 hx0
  refine ⟨y0, hy0, ι, S, σ, _, _, L, G, hw, fun ι1 S1 H1 v x e1 L1 r1 q1 => ?_, cn.cx G⟩
  refine ⟨ι1, S1, x0, v, _, L1, r0.ext e1, r1, q1, fun ι2 S2 H2 w y e2 L2' r2 q2 => ?_⟩
  exact cn.nx ι2 S2 H2 _ _ (e1.trans e2) L2' ((G.ext (e1.trans e2)).set i r2) q2
theorem q_augF {o' r : RE} {f : String} {op : Operator} {e v : Expr} {p : Pos} (o : Okx X D F T M fl C lv W c) (hf : f ∈ fl) (ha : PE X e (rdE D T C W o')) (hv : PE X v (rdE D T C W r)) : PS X (.AugAssign (.Attribute e (sN f) p) op v pos) (rdS D T C W (.augF o' f op r)) := by
  refine PS.imp (ps_fldaug ha hv (rd := rdV2 D (wpAug op)) (fun pins s σ H x y u v Q I rx ry h => ip_G (D := D) op pins s σ H x y u v Q I rx ry h)) fun De σc H z => ?_
  obtain ⟨ι, S, σ, Da, L, G, hw, cn⟩ := z
  refine ⟨ι, S, σ, _, _, L, G, hw, fun ι1 S1 H1 x x' e1 L1 r1 q1 => ?_, cn.cx G⟩
  obtain ⟨a, k, fs, v0, rfl, hs, hc, hl, q1⟩ := q1
  obtain ⟨p, hi, rfl⟩ := rv_ref r1
  obtain ⟨p', dx, fs', hi', hp, n1, n2⟩ := L1.ins hs
  rw [hi] at hi'; cases hi'
  obtain ⟨cd, hcd⟩ := Option.isSome_iff_exists.mp hc
  obtain ⟨c1, c2, c3⟩ := o.lk.ms k cd hcd
  obtain ⟨y0, hy0, r0⟩ := fld_look n1 n2 hl
  refine ⟨p, _, dx, fs', y0, rfl, hp, by rw [o.hK]; exact c1, by rw [o.hK]; exact c3 f hf, hy0, ?_⟩
  refine ⟨ι1, S1, σ, _, _, L1, G.ext e1, q1, fun ι2 S2 H2 y y' e2 L2' r2 q2 => ?_, cn.cx G |>.ext e1⟩
  refine ⟨ι2, S2, v0, y, _, L2', r0.ext e2, r2, q2, fun ι3 S3 H3 w w' e3 L3 r3 q3 => ?_⟩
  obtain ⟨fs2, hs2, hl2, q⟩ := q3
  obtain ⟨p2, dx2, fs2', hi2, hp2, m1, m2⟩ := L3.ins hs2
  rw [(e2.trans e3).get hi] at hi2; cases hi2
  have len : fs2'.length = fs2.length := by simpa using congrArg List.length m1
  obtain ⟨e4, l4⟩ := L3.setFld (f := f) (dx := dx2) ((e2.trans e3).get hi) hs2 m1 m2 r3
  have e14 := ((e1.trans e2).trans e3).trans e4
  exact ⟨dx2, fs2', hp2, by omega, cn.nx _ _ _ σ σc e14 l4 (G.ext e14) q⟩

/-! ### suites, if, while, for -/
theorem qs_nil : PSs X [] (rdSs D T C W .nil) := PSs.imp pss_nil fun De σc H z => by
  obtain ⟨ι, S, σ, Da, L, G, hw, cn⟩ := z
  exact cn.nx ι S H σ σc Ext.refl L G hw
theorem qs_cons {r : RS} {rs : RSs} {st : Stmt} {ss : List Stmt} (h1 : PS X st (rdS D T C W r)) (h2 : PSs X ss (rdSs D T C W rs)) : PSs X (st :: ss) (rdSs D T C W (.cons r rs)) := PSs.imp (pss_cons h1 h2) fun De σc H z => by
  obtain ⟨ι, S, σ, Da, L, G, hw, cn⟩ := z
  exact ⟨ι, S, σ, _, L, G, hw, cn.nxt fun ι1 S1 H1 σ1 σc1 e1 L1 G1 q1 => ⟨ι1, S1, σ1, Da, L1, G1, q1, cn.ext e1⟩⟩
theorem q_if {r : RE} {ra rb : RSs} {e : Expr} {a b : List Stmt} (he : PT X e (rdT D T C W r)) (ha : PSs X a (rdSs D T C W ra)) (hb : PSs X b (rdSs D T C W rb)) : PS X (.If e a b pos) (rdS D T C W (.ife r ra rb)) := PS.imp (ps_if he ha hb) fun De σc H z => by
  obtain ⟨ι, S, σ, Da, L, G, hw, cn⟩ := z
  refine ⟨ι, S, σ, _, _, L, G, hw, fun ι1 S1 H1 k e1 L1 q1 => ?_, cn.cx G⟩
  cases k with
  | true =>
    simp only [if_true] at q1 ⊢
    exact ⟨ι1, S1, σ, Da, L1, G.ext e1, q1, cn.ext e1⟩
  | false =>
    simp only [Bool.false_eq_true, if_false] at q1 ⊢
    exact ⟨ι1, S1, σ, Da, L1, G.ext e1, q1, cn.ext e1⟩
theorem q_whl {r : RE} {ra : RSs} {e : Expr} {a : List Stmt} (hp : PassesOwn (model X.prog X.w) X.A X.env X.xe) (he : PT X e (rdT D T C W r)) (ha : PSs X a (rdSs D T C W ra)) : PS X (.While e a [] pos) (rdS D T C W (.whl r ra)) := PS.imp (ps_while hp he ha) fun De σc H z => by
  obtain ⟨ι, S, σ, Da, L, G, ⟨Wa, ⟨m0, w0⟩, turn⟩, cn⟩ := z
  refine ⟨fun m σc' H' => ∃ ι' S' σ', Ext ι H ι' H' ∧ Ly D ι' H' S' ∧ RG D ι' H' σ' σc' ∧ Wa m σ' S', ⟨m0, ι, S, σ, Ext.refl, L, G, w0⟩, ?_⟩
  rintro m σc1 H1 ⟨ι1, S1, σ1, e1, L1, G1, w1⟩
  refine ⟨ι1, S1, σ1, _, _, L1, G1, turn m σ1 S1 w1, fun ι2 S2 H2 k e2 L2' q2 => ?_, (cn.ext e1).cx G1⟩
  cases k with
  | true =>
    simp only [if_true] at q2 ⊢
    refine ⟨_, fun σ' H' p => p, ι2, S2, σ1, _, L2', G1.ext e2, q2, (cn.ext (e1.trans e2)).loop fun ι3 S3 H3 σ3 σc3 e3 L3 G3 q3 => ?_⟩
    obtain ⟨m', hm, w3⟩ := q3
    exact ⟨m', hm, ι3, S3, σ3, (e1.trans e2).trans e3, L3, G3, w3⟩
  | false =>
    simp only [Bool.false_eq_true, if_false] at q2 ⊢
    exact cn.nx ι2 S2 H2 σ1 σc1 (e1.trans e2) L2' (G1.ext e2) q2
theorem q_for {t : RT} {it : RI} {ra : RSs} {tg iter : Expr} {a : List Stmt} (o : Okx X D F T M fl C lv W c) (hp : PassesOwn (model X.prog X.w) X.A X.env X.xe) (hset : noSet iter = true) (hi : PI X tg iter (rdI D T C W it)) (hg : PG X tg (rdTg D T C t)) (ha : PSs X a (rdSs D T C W ra)) :
    PS X (.For tg iter a [] pos) (rdS D T C W (.for_ t it ra)) := PS.imp (ps_for hp o.calm hi hg ha (folded_no hset)) fun De σc H z => by
  obtain ⟨ι, S, σ, Da, L, G, hw, cn⟩ := z
  refine ⟨ι, S, σ, _, _, L, G, hw, fun ι1 S1 H1 xs st J e1 L1 its st1 run => ?_, cn.cx G⟩
  refine ⟨fun i m σc' H' => m = xs.length - i ∧ i ≤ xs.length ∧ ∃ ι' S' σ', Ext ι1 H1 ι' H' ∧ Ly D ι' H' S' ∧ RG D ι' H' σ' σc' ∧ st S' ∧
    forRun (fun x σ2 S2 Q2 => wpTg T C t x σ2 S2 (fun σ3 S3 => wpSs T C ra σ3 S3 { Da with nx := Q2, ct := Q2, bk := Da.nx }) (fun _ _ => False)) st (xs.drop i) σ' S' Da.nx,
    ⟨xs.length, by simp, Nat.zero_le _, ι1, S1, σ, Ext.refl, L1, G.ext e1, st1, run⟩, ?_⟩
  rintro i m σc2 H2 ⟨rfl, hle, ι2, S2, σ2, e2, L2', G2, st2, run2⟩
  by_cases hlt : i < xs.length
  · have hx : xs[i]? = some xs[i] := List.getElem?_eq_getElem hlt
    rw [List.drop_eq_getElem_cons hlt] at run2
    refine .inr ⟨its.go i _ ι2 S2 H2 e2 L2' st2 hx, _, fun σ' H' p => ⟨xs.length - (i + 1), by omega, p⟩, fun v H3 y => ?_⟩
    obtain ⟨e3, L3, rv⟩ := its.yld i _ ι2 S2 H2 v H3 e2 L2' st2 hx y
    refine ⟨ι2, S2, σ2, _, _, L3, G2.ext e3, rv, run2, fun ι4 S4 H4 σ4 σc4 e4 L4 G4 _ q4 => ?_⟩
    refine ⟨ι4, S4, σ4, _, L4, G4, q4, (cn.ext ((e1.trans e2).trans (e3.trans e4))).loop fun ι5 S5 H5 σ5 σc5 e5 L5 G5 q5 => ?_⟩
    exact ⟨rfl, hlt, ι5, S5, σ5, e2.trans (e3.trans (e4.trans e5)), L5, G5, q5.1, q5.2⟩
  · have he : i = xs.length := by omega
    subst he
    rw [List.drop_length] at run2
    have run2 : Da.nx σ2 S2 := run2
    exact .inl ⟨its.stop ι2 S2 H2 e2 L2' st2, cn.nx ι2 S2 H2 σ2 σc2 (e1.trans e2) L2' G2 run2⟩
end
end Rp
/-! # max with a default -/
namespace Rp
open PySem PySem.Spec PyProof.Rows L2
section
variable {prog : Program} {w : World} {A : Around} {E : Value → Shared → Prop} {R : Result → Shared → Prop} {I : Addr} {fp wr : List Addr} {n : Nat} {P : Nat → Value → Prop} {St : Nat → Heap → Prop}
theorem max_nm : (toString "max" ++ toString ".loop" : String) = "max.loop" := by decide
/-- the walk from the second item on -/
theorem mx_loop (kw : List (Str × Value)) (Wk : Walks prog w A.in1 I fp wr n P St) (bt : Nat → Nat → Bool) (hcmp : CmpOf prog w A.in1 .Gt P bt) (S : Addr) (nS : S ∉ fp) :
    ∀ (k j : Nat) (s : Shared) (vb : Value) (c : Nat), n - (j + 1) = k → j + 1 ≤ n → St (j + 1) s.heap → P (argBest bt j) vb → s.heap.get? S = some { cls := .type "list", dict := none, data := .seq #[vb, vb] c, slots := #[] } →
    (∀ v g tk, P (argBest bt (n - 1)) v → (∀ b o, b ∉ wr → b ≠ S → s.heap.get? b = some o → g.get? b = some o) → R (.ok (.ret v)) { s with heap := g, toks := tk }) →
    codeAny (model prog w) A (.builtin "max.loop" ⟨[.ref I, .none, .ref S], kw⟩) R s := by
  have nW : S ∉ wr := fun h => nS (Wk.sub _ h)
  intro k
  induction k with
  | zero =>
    intro j s vb c hk hj st0 hb hS hR
    have full : j + 1 = n := by omega
    refine codeAny_builtin F.entry_max_loop ?_
    rw [Around.under_plainId F.plain_max_loop _]
    show wpAny _ A.in1 (seqItems? (.ref S) >>= _) _ _ s
    refine wpAny_bind (wpAny_seqItems hS rfl ?_)
    show wpAny _ A.in1 (tryCatch (pyNext (.ref I)) _ >>= _) _ _ s
    refine wpAny_bind (wpAny_tryCatch (Wk.done s _ _ (full ▸ st0) fun g tk kp => ?_))
    have hS' := kp S _ nW hS
    show wpAny _ A.in1 (updateSeq S (fun _ => #[]) >>= _) _ _ _
    refine wpAny_bind (wpAny_updateSeq hS' rfl (wpAny_bind (wpAny_letGo (wpAny_pure ?_))))
    exact hR vb _ tk (by rw [← full]; exact hb) fun b o nb nbS e => (Heap.get?_update_other _ _ (Ne.symm nbS)).trans (kp b o nb e)
  | succ k ih =>
    intro j s vb c hk hj st0 hb hS hR
    have more : j + 1 < n := by omega
    refine codeAny_builtin F.entry_max_loop ?_
    rw [Around.under_plainId F.plain_max_loop _]
    show wpAny _ A.in1 (seqItems? (.ref S) >>= _) _ _ s
    refine wpAny_bind (wpAny_seqItems hS rfl ?_)
    show wpAny _ A.in1 (tryCatch (pyNext (.ref I)) _ >>= _) _ _ s
    refine wpAny_bind (wpAny_tryCatch (Wk.item (j + 1) s _ _ more st0 fun v g tk hP st1 kp => ?_))
    have hS' := kp S _ nW hS
    show wpAny _ A.in1 (tryCatch (holding [v, v] (richCompare .Gt v vb >>= _)) _ >>= _) _ _ _
    refine wpAny_bind (wpAny_tryCatch (wpAny_holding (wpAny_bind (hcmp (j + 1) (argBest bt j) v vb _ _ _ hP hb ?_))))
    refine wpAny_bind (wpAny_holding (wpAny_truthy_bool (wpAny_bind (wpAny_letGo (wpAny_pure ?_)))))
    cases hbt : bt (j + 1) (argBest bt j) with
    | true =>
      simp only [if_true]
      refine wpAny_bind ?_
      refine wpAny_updateSeq hS' rfl (wpAny_bind (wpAny_letGo ?_))
      rw [max_nm]
      refine wpAny_pure ⟨plainId_quiet F.plain_max_loop _, ih (j + 1) _ v _ (by omega) more (Wk.frame _ _ _ st1 fun b hb' o e => ?_) (by simp only [argBest, hbt, if_true]; exact hP) (Heap.get?_update_self _ hS' rfl) fun v' g' tk' hP' kp' => ?_⟩
      · exact (Heap.get?_update_other _ _ (fun z : S = b => nS (by rw [z]; exact hb'))).trans e
      · exact hR v' g' tk' hP' fun b o nb nbS e => kp' b o nb nbS ((Heap.get?_update_other _ _ (Ne.symm nbS)).trans (kp b o nb e))
    | false =>
      simp only [Bool.false_eq_true, if_false]
      refine wpAny_bind (wpAny_letGo ?_)
      rw [max_nm]
      refine wpAny_pure ⟨plainId_quiet F.plain_max_loop _, ih (j + 1) _ vb c (by omega) more st1 (by simp only [argBest, hbt, Bool.false_eq_true, if_false]; exact hb) hS' fun v' g' tk' hP' kp' => ?_⟩
      exact hR v' g' tk' hP' fun b o nb nbS e => kp' b o nb nbS (kp b o nb e)
theorem mx_first (kw : List (Str × Value)) (Wk : Walks prog w A.in1 I fp wr n P St) (bt : Nat → Nat → Bool) (hcmp : CmpOf prog w A.in1 .Gt P bt) (S : Addr) (nS : S ∉ fp) (hn : 0 < n) {s : Shared} {c : Nat} (st0 : St 0 s.heap) (hS : s.heap.get? S = some { cls := .type "list", dict := none, data := .seq #[] c, slots := #[] })
    (hR : ∀ v g tk, P (argBest bt (n - 1)) v → (∀ b o, b ∉ wr → b ≠ S → s.heap.get? b = some o → g.get? b = some o) → R (.ok (.ret v)) { s with heap := g, toks := tk }) :
    codeAny (model prog w) A (.builtin "max.loop" ⟨[.ref I, .none, .ref S], kw⟩) R s := by
  have nW : S ∉ wr := fun h => nS (Wk.sub _ h)
  refine codeAny_builtin F.entry_max_loop ?_
  rw [Around.under_plainId F.plain_max_loop _]
  show wpAny _ A.in1 (seqItems? (.ref S) >>= _) _ _ s
  refine wpAny_bind (wpAny_seqItems hS rfl ?_)
  show wpAny _ A.in1 (tryCatch (pyNext (.ref I)) _ >>= _) _ _ s
  refine wpAny_bind (wpAny_tryCatch (Wk.item 0 s _ _ hn st0 fun v g tk hP st1 kp => ?_))
  have hS' := kp S _ nW hS
  show wpAny _ A.in1 (updateSeq S (fun _ => #[v, v]) >>= _) _ _ _
  refine wpAny_bind ?_
  refine wpAny_updateSeq hS' rfl ?_
  rw [max_nm]
  refine wpAny_pure ⟨plainId_quiet F.plain_max_loop _, mx_loop kw Wk bt hcmp S nS _ 0 _ v _ rfl hn (Wk.frame _ _ _ st1 fun b hb' o e => ?_) hP (Heap.get?_update_self _ hS' rfl) fun v' g' tk' hP' kp' => ?_⟩
  · exact (Heap.get?_update_other _ _ (fun z : S = b => nS (by rw [z]; exact hb'))).trans e
  · exact hR v' g' tk' hP' fun b o nb nbS e => kp' b o nb nbS ((Heap.get?_update_other _ _ (Ne.symm nbS)).trans (kp b o nb e))
/-- none at all: the default -/
theorem mx_none {nm : Str} {d : Value} (Wk : Walks prog w A.in1 I fp wr 0 P St) (S : Addr) (nS : S ∉ fp) {s : Shared} {c : Nat} (st0 : St 0 s.heap) (hS : s.heap.get? S = some { cls := .type "list", dict := none, data := .seq #[] c, slots := #[] })
    (hR : ∀ g tk, (∀ b o, b ∉ wr → b ≠ S → s.heap.get? b = some o → g.get? b = some o) → R (.ok (.ret d)) { s with heap := g, toks := tk }) :
    codeAny (model prog w) A (.builtin "max.loop" ⟨[.ref I, .none, .ref S], [(nm, d)]⟩) R s := by
  refine codeAny_builtin F.entry_max_loop ?_
  rw [Around.under_plainId F.plain_max_loop _]
  show wpAny _ A.in1 (seqItems? (.ref S) >>= _) _ _ s
  refine wpAny_bind (wpAny_seqItems hS rfl ?_)
  show wpAny _ A.in1 (tryCatch (pyNext (.ref I)) _ >>= _) _ _ s
  refine wpAny_bind (wpAny_tryCatch (Wk.done s _ _ st0 fun g tk kp => ?_))
  show wpAny _ A.in1 (do rule _; ret d) _ _ _
  refine wpAny_bind (wpAny_rule (wpAny_pure ?_))
  exact hR g tk fun b o nb _ e => kp b o nb e
end
section
variable {prog : Program} {w : World} {A : Around} {E : Value → Shared → Prop} {s : Shared}
theorem call_tree_kw {id : String} {b : Builtin} {args : List Value} {kw : List (Str × Value)} {Q : Value → Shared → Prop} (hk : builtinKind id = none) (hp : plainId id = true) (hb : entryFor table id = some b) (ha : argsOk id ⟨args, kw⟩)
    (hc : wpAny (model prog w) A.in1 (b ⟨args, kw⟩) (fun fin s' => match fin with
      | .done f => (match (Except.ok f : Result) with | .ok (.ret v) => Q v s' | .ok _ => False | .error e => E e s')
      | .again c' => c'.quiet = true ∧ codeAny (model prog w) A c' (fun r s' => match r with | .ok (.ret v) => Q v s' | .ok _ => False | .error e => E e s') s') E s) :
    wpAny (model prog w) A (call (.builtin id) args kw) Q E s := by
  refine wpAny_call (codeAny_call_builtin hp hb ?_)
  simp only [checkBuiltinCall, hk]
  cases sg : Manifest.signature? id with
  | none => exact wpAny_pure hc
  | some sig =>
    simp only [argsOk, sg] at ha
    have h2 : Bind.checkArgs id sig ⟨args, kw⟩ = pure () := ha
    show wpAny _ A.in1 (Bind.checkArgs id sig ⟨args, kw⟩) _ _ s
    rw [h2]
    exact wpAny_pure hc
theorem args_maxD (a d : Value) : argsOk "max" ⟨[a], [(Str.ofString "default", d)]⟩ := by
  unfold argsOk
  kernel_rfl
theorem bind_maxD (d : Value) : Builtin.Builtins.bindParams "max" ["key", "default"] 0 ⟨[], [(Str.ofString "default", d)]⟩ = pure [none, some d] := by kernel_rfl
/-- max(list, default=d) of numbers -/
theorem max_dflt (hh : A.handled = none) {l : Addr} {its : List Value} {ns : List Int} {d : Value} {Q : Value → Shared → Prop} (hl : s.heap.IsList l its.toArray) (hi : IntsAre its ns)
    (h0 : ns = [] → ∀ g tk, (∀ b o, s.heap.get? b = some o → g.get? b = some o) → Q d { s with heap := g, toks := tk })
    (h1 : ns ≠ [] → ∀ g tk m t, (∀ b o, s.heap.get? b = some o → g.get? b = some o) → m ∈ ns → (∀ a ∈ ns, a ≤ m) → Q (.int m t) { s with heap := g, toks := tk }) :
    wpAny (model prog w) A (call (.builtin "max") [.ref l] [(Str.ofString "default", d)]) Q E s := by
  refine call_tree_kw F.kind_max F.plain_max F.entry_max (args_maxD _ _) ?_
  show wpAny _ A.in1 (Builtin.Builtins.bindParams "max" ["key", "default"] 0 ⟨[], [(Str.ofString "default", d)]⟩ >>= _) _ _ s
  refine wpAny_bind (wpAny_of_eq (bind_maxD d) ?_)
  refine wpAny_bind (wpAny_pure ?_)
  have hlt : l < s.heap.objs.size := by
    obtain ⟨o, e, _⟩ := id hl
    exact Heap.lt_size e
  refine wpAny_bind (wpAny_pyIter_list hl ?_)
  refine wpAny_bind (wpAny_newObj_type ?_)
  rw [max_nm]
  generalize hg : s.heap.push { cls := .type "list_iterator", data := .fields #[.ref l, .int 0 0] } = g1
  have k1 : ∀ b o, s.heap.get? b = some o → g1.get? b = some o := fun b o e => by rw [← hg]; exact Heap.get?_push_of_some _ e
  have it1 : g1.IsListIter s.heap.objs.size l 0 := by rw [← hg]; exact ⟨_, Heap.get?_push_size _ rfl, rfl, rfl⟩
  have sz1 : g1.objs.size = s.heap.objs.size + 1 := by rw [← hg, Heap.size_push]
  have l1 : g1.IsList l its.toArray := by
    obtain ⟨o, e, r⟩ := hl
    exact ⟨o, k1 _ o e, r⟩
  have Wk := Walks.list (prog := prog) (w := w) (A := A.in1) hh s.heap.objs.size l (Nat.ne_of_lt hlt) its.toArray
  have nS : g1.objs.size ∉ [s.heap.objs.size, l] := by
    rw [sz1]
    intro z
    rcases List.mem_cons.mp z with z | z
    · exact absurd z (Nat.ne_of_gt (Nat.lt_succ_self _))
    · rw [List.mem_singleton] at z
      exact absurd z (Nat.ne_of_gt (Nat.lt_succ_of_lt hlt))
  refine wpAny_pure ⟨plainId_quiet F.plain_max_loop _, ?_⟩
  have st0 : ∀ o, (g1.push o).IsListIter s.heap.objs.size l 0 ∧ (g1.push o).IsList l its.toArray := fun o => by
    obtain ⟨u, e, r⟩ := it1
    obtain ⟨u2, e2, r2⟩ := l1
    exact ⟨⟨u, Heap.get?_push_of_some _ e, r⟩, ⟨u2, Heap.get?_push_of_some _ e2, r2⟩⟩
  have old : ∀ o b u, s.heap.get? b = some u → b ∉ [s.heap.objs.size] ∧ b ≠ g1.objs.size ∧ (g1.push o).get? b = some u := fun o b u e => by
    have hb := Heap.lt_size e
    refine ⟨fun z => absurd (List.mem_singleton.mp z) (Nat.ne_of_lt hb), ?_, Heap.get?_push_of_some _ (k1 b u e)⟩
    rw [sz1]
    exact Nat.ne_of_lt (Nat.lt_succ_of_lt hb)
  have hlen : its.length = ns.length := by
    have := hi.length
    omega
  cases ns with
  | nil =>
    have e0 : its = [] := List.length_eq_zero_iff.mp hlen
    subst e0
    refine mx_none Wk g1.objs.size nS (st0 _) (Heap.get?_push_size _ rfl) fun g tk kp => ?_
    exact h0 rfl g tk fun b o e => (fun q => kp b o q.1 q.2.1 q.2.2) (old { cls := .type "list", data := .seq #[] } b o e)
  | cons n0 r =>
    have pos : 0 < its.toArray.size := by
      rw [List.size_toArray, hlen]
      exact Nat.succ_pos _
    have val : ∀ (i : Nat) (v : Value), its.toArray[i]? = some v → ∃ t, v = Value.int ((n0 :: r).getD i 0) t := fun i v e => hi.int_at i v (by simpa using e)
    refine mx_first _ Wk _ (CmpOf.ints_gt (fun i => (n0 :: r).getD i 0) val) g1.objs.size nS pos (st0 _) (Heap.get?_push_size _ rfl) fun v g tk hP kp => ?_
    obtain ⟨t, rfl⟩ := val _ _ hP
    obtain ⟨b1, b2⟩ := argBest_gt (fun i => (n0 :: r).getD i 0) (its.toArray.size - 1)
    have hsz : its.toArray.size = (n0 :: r).length := by rw [List.size_toArray, hlen]
    refine h1 (by simp) g tk _ t (fun b o e => (fun q => kp b o q.1 q.2.1 q.2.2) (old { cls := .type "list", data := .seq #[] } b o e)) ?_ fun a ha => ?_
    · exact PySem.getD_mem (by omega)
    · obtain ⟨j, hj, rfl⟩ := mem_getD ha
      exact b2 j (by omega)
end
section
variable {X : Cx} {D : Ad} {F : Fd} {T : Tab} {M : Nm} {fl : List String} {C : CS} {lv : Nat} {W : WX} {c : Sc} {pos : Pos}
theorem ks_is {ks : List String} {b : Blt} {vs ws : List PV} {S : Store} {Q : QV} (h : wpBltK b vs ks ws S Q) : b = .max ∧ ks = ["default"] ∧ ∃ x z, vs = [x] ∧ ws = [z] ∧ ∃ ns : List Int, lstOf S x = some (ns.map .int) ∧ Q (if ns = [] then z else .int (maxI ns)) S := by
  unfold wpBltK at h
  split at h
  · refine ⟨rfl, rfl, ?_⟩
    match vs, h with
    | [x], h =>
      match ws, h with
      | [z], h => exact ⟨x, z, rfl, rfl, h⟩
      | [], h => exact h.elim
      | _ :: _ :: _, h => exact h.elim
    | [], h => exact h.elim
    | _ :: _ :: _, h => exact h.elim
  · exact h.elim
theorem s_bltK {b : Blt} {es kes : REs} {ks : List String} {x : Str} {as : List Expr} {kws : List Keyword} {p : Pos} (o : Okx X D F T M fl C lv W c) (hb0 : b = .max) (hx : okGl c b.nm x = true) (hb : (M.nb.any (· == b.nm)) = true) (ha : PA X as (rdEs D T C W es)) (hn : noStar as = true) (hne : (!as.isEmpty) = true)
    (hk : PK X kws (rdEs D T C W kes)) (hnm : namesOf kws = ks.map fun k => some (sN k)) : PE X (.Call (.Name x p) as kws pos) (rdE D T C W (.bltK b es ks kes)) := by
  subst hb0
  obtain ⟨e, hg, hd, hnn⟩ := gl_of o hx
  subst e
  obtain ⟨y, hy, e⟩ := List.any_eq_true.mp hb
  have e : y = Blt.max.nm := eq_of_beq e
  subst e
  have hm := o.lk.nb _ hy
  refine ⟨fun pins st σc H Q I z => ?_⟩
  obtain ⟨ι, S, σ, Qa, Ra, L, G, hw, cn, cx⟩ := z
  obtain ⟨k1, k2, k3⟩ := kw_names (env := X.env) (pos := pos) hnm
  have hv := boot_blt .max
  cases as with
  | nil => cases hne
  | cons a as =>
    refine wpAny_Call_Name_kw (ld_blt I hg hm hv ?_ hnn hd)
    refine callWith_kw (thn (es_run ha I L G hw cx pos) fun us s1 h1 => ?_) (by rw [(noStar_cons hn).1] <;> rfl) (noStar_any hn) k1 k3
    obtain ⟨xs, H1, ι1, S1, vs, I1, rx, e1, L1, r1, l1, q1⟩ := h1
    refine thn (ks_run hk I1 L1 (G.ext e1) q1 (cx.ext e1) pos) fun u2 s2 h2 => ?_
    obtain ⟨ys, H2, ι2, S2, ws, I2, ry, e2, L2', r2, l2, q2⟩ := h2
    obtain ⟨_, rfl, v, z, rfl, rfl, ns, hl, q⟩ := ks_is q2
    obtain ⟨x', rfl, rv⟩ := rvs1 (r1.ext e2)
    obtain ⟨z', rfl, rz⟩ := rvs1 r2
    obtain ⟨u, rfl, ru⟩ := rx.one
    obtain ⟨u', rfl, ru'⟩ := ry.one
    rw [k2]
    obtain ⟨a', ws', rfl, hq, t⟩ := lst_at L2' hl rv
    have t' := t.ints
    subst t'
    rw [← o.hK] at hq
    obtain ⟨its, rits, hli, _⟩ := I2.list hq
    cases ru
    have c2 := cn.ext (e1.trans e2)
    refine max_dflt (I2.ok.hd o.calm) hli.isList rits.ints (fun e g tk kp => ?_) fun e g tk m t kp h1 h2 => ?_
    · rw [if_pos e] at q
      exact ⟨z', H2, I2.kept kp, ru', c2.here L2' rz q⟩
    · rw [if_neg e, ← maxI_uniq h1 h2] at q
      exact ⟨.int m, H2, I2.kept kp, ⟨_, rfl⟩, c2.here L2' (show RV D ι2 H2 (.int m) (.int m) from rfl) q⟩
end
end Rp
/-! # The look is enough: expressions -/
namespace Rp
open PySem PySem.Spec PyProof.Rows L2
section
variable {D : Ad} {F : Fd} {T : Tab} {M : Nm} {C : CS} {lv : Nat}
theorem pt_no {X : Cx} {W : WX} {r : RE} {e : Expr} (h : ∀ σ S Qb Ra, ¬ wpT T C r σ S Qb Ra) : PT X e (rdT D T C W r) := ⟨fun pins s σc H Q I z => by
  obtain ⟨ι, S, σ, Qb, Ra, L, G, hw, _⟩ := z
  exact (h _ _ _ _ hw).elim⟩
theorem pe_no {X : Cx} {W : WX} {r : RE} {e : Expr} (h : ∀ σ S Qb Ra, ¬ wpE T C r σ S Qb Ra) : PE X e (rdE D T C W r) := ⟨fun pins s σc H Q I z => by
  obtain ⟨ι, S, σ, Qb, Ra, L, G, hw, _⟩ := z
  exact (h _ _ _ _ hw).elim⟩
/-- what is shown of a tree -/
def SE (D : Ad) (F : Fd) (T : Tab) (M : Nm) (C : CS) (lv : Nat) (r : RE) : Prop := ∀ {X : Cx} {c : Sc} {W : WX} {e : Expr}, Okx X D F T M M.fl C lv W c → okE M T c r e = true → PE X e (rdE D T C W r) ∧ PT X e (rdT D T C W r)
def SEs (D : Ad) (F : Fd) (T : Tab) (M : Nm) (C : CS) (lv : Nat) (r : REs) : Prop := ∀ {X : Cx} {c : Sc} {W : WX} {es : List Expr}, Okx X D F T M M.fl C lv W c → okEs M T c r es = true →
  (noStar es = true → PA X es (rdEs D T C W r)) ∧ (∀ pos, PW X (.BoolOp .And es pos) (rdAnd D T C W r)) ∧ (∀ pos, PW X (.BoolOp .Or es pos) (rdOr D T C W r)) ∧ (∀ pos, PE X (.BoolOp .And es pos) (rdAndV D T C W r)) ∧ (∀ pos, PE X (.BoolOp .Or es pos) (rdOrV D T C W r)) ∧ PTs X es (rdTs D T C r)
def SKs (D : Ad) (F : Fd) (T : Tab) (M : Nm) (C : CS) (lv : Nat) (r : REs) : Prop := ∀ {X : Cx} {c : Sc} {W : WX} {ks : List Keyword}, Okx X D F T M M.fl C lv W c → okKs M T c r ks = true → PK X ks (rdEs D T C W r)
def SO' (D : Ad) (F : Fd) (T : Tab) (M : Nm) (C : CS) (lv : Nat) (r : RO) : Prop := ∀ {X : Cx} {c : Sc} {W : WX} {e : Option Expr}, Okx X D F T M M.fl C lv W c → okO M T c r e = true → PO X e (rdO D T C W r)
def SI (D : Ad) (F : Fd) (T : Tab) (M : Nm) (C : CS) (lv : Nat) (r : RI) : Prop := ∀ {X : Cx} {c : Sc} {W : WX} {tg e : Expr}, Okx X D F T M M.fl C lv W c → tupIt r tg = true → okI M T c r e = true → PI X tg e (rdI D T C W r)
def ST (D : Ad) (F : Fd) (T : Tab) (M : Nm) (C : CS) (lv : Nat) (r : RT) : Prop := ∀ {X : Cx} {c : Sc} {W : WX} {e : Expr}, Okx X D F T M M.fl C lv W c → okT M T c r e = true → PG X e (rdTg D T C r)
def STs (D : Ad) (F : Fd) (T : Tab) (M : Nm) (C : CS) (lv : Nat) (r : RTs) : Prop := ∀ {X : Cx} {c : Sc} {W : WX} {es : List Expr}, Okx X D F T M M.fl C lv W c → noStarT es = true → okTs M T c r es = true → PGs X es (rdTgs D T C r) ∧ es.length = r.len ∧ ∀ n, r.cnt n = r.len

theorem e_loc {i : Nat} : SE D F T M C lv (.loc i) := by
  intro X c W e o h
  cases e with
  | Name x p => exact ⟨s_loc o h, t_val o (s_loc o h) (fun _ => rfl) fun _ _ _ _ z => z⟩
  | _ => cases h
theorem e_const {v : PV} : SE D F T M C lv (.const v) := by
  intro X c W e o h
  cases e with
  | Constant k j p => exact ⟨s_const h, t_val o (s_const h) (fun _ => rfl) fun _ _ _ _ z => z⟩
  | _ => cases h
theorem e_glob {x : String} {v : PV} : SE D F T M C lv (.glob x v) := by
  intro X c W e o h
  cases e with
  | Name y p =>
    have h' : (okGl c x y && M.gv.any fun p => p.1 == x && PV.eqb p.2 v) = true := h
    rw [Bool.and_eq_true] at h'
    exact ⟨s_glob o h'.1 h'.2, pt_no fun _ _ _ _ z => z⟩
  | _ => cases h
theorem e_bin {op : Operator} {a b : RE} (ha : SE D F T M C lv a) (hb : SE D F T M C lv b) : SE D F T M C lv (.bin op a b) := by
  intro X c W e o h
  cases e with
  | BinOp l op' r p =>
    have h' : (decide (op' = op) && okE M T c a l && okE M T c b r) = true := h
    simp only [Bool.and_eq_true, decide_eq_true_eq] at h'
    obtain ⟨⟨rfl, h1⟩, h2⟩ := h'
    exact ⟨s_bin o (ha o h1).1 (hb o h2).1, pt_no fun _ _ _ _ z => z⟩
  | _ => cases h
theorem e_neg {a : RE} (ha : SE D F T M C lv a) : SE D F T M C lv (.neg a) := by
  intro X c W e o h
  cases e with
  | UnaryOp u x p =>
    cases u with
    | USub => exact ⟨s_neg (ha o h).1, pt_no fun _ _ _ _ z => z⟩
    | _ => cases h
  | _ => cases h
theorem e_not {a : RE} (ha : SE D F T M C lv a) : SE D F T M C lv (.not a) := by
  intro X c W e o h
  cases e with
  | UnaryOp u x p =>
    cases u with
    | Not => exact ⟨s_not o (ha o h).1, t_not (ha o h).2⟩
    | _ => cases h
  | _ => cases h
theorem e_cmp {op : CmpOp} {a b : RE} (ha : SE D F T M C lv a) (hb : SE D F T M C lv b) : SE D F T M C lv (.cmp op a b) := by
  intro X c W e o h
  cases e with
  | Compare l ops rs p =>
    match ops, rs, h with
    | [o'], [r], h =>
      have h' : (decide (o' = op) && !behindInMarks op r && okE M T c a l && okE M T c b r) = true := h
      simp only [Bool.and_eq_true, decide_eq_true_eq, Bool.not_eq_true'] at h'
      obtain ⟨⟨⟨rfl, h0⟩, h1⟩, h2⟩ := h'
      exact ⟨s_cmp o h0 (ha o h1).1 (hb o h2).1, t_cmp o h0 (ha o h1).1 (hb o h2).1⟩
    | [], _, h => cases h
    | [_], [], h => cases h
    | [_], _ :: _ :: _, h => cases h
    | _ :: _ :: _, _, h => cases h
  | _ => cases h
theorem e_chain {op op' : CmpOp} {a b d : RE} (ha : SE D F T M C lv a) (hb : SE D F T M C lv b) (hd : SE D F T M C lv d) : SE D F T M C lv (.chain op op' a b d) := by
  intro X c W e o h
  cases e with
  | Compare l ops rs p =>
    match ops, rs, h with
    | [o1, o2], [r, t], h =>
      have h' : (decide (o1 = op) && decide (o2 = op') && !lastMarks [op, op'] [r, t] && okE M T c a l && okE M T c b r && okE M T c d t) = true := h
      simp only [Bool.and_eq_true, decide_eq_true_eq, Bool.not_eq_true'] at h'
      obtain ⟨⟨⟨⟨⟨rfl, rfl⟩, h0⟩, h1⟩, h2⟩, h3⟩ := h'
      exact ⟨s_chain o h0 (ha o h1).1 (hb o h2).1 (hd o h3).1, t_chain o h0 (ha o h1).1 (hb o h2).1 (hd o h3).1⟩
    | [], _, h => cases h
    | [_], _, h => cases h
    | [_, _], [], h => cases h
    | [_, _], [_], h => cases h
    | [_, _], _ :: _ :: _ :: _, h => cases h
    | _ :: _ :: _ :: _, _, h => cases h
  | _ => cases h
theorem e_and {es : REs} (hs : SEs D F T M C lv es) : SE D F T M C lv (.and es) := by
  intro X c W e o h
  cases e with
  | BoolOp op vs p =>
    cases op with
    | And => exact ⟨PE.imp ((hs o h).2.2.2.1 p) fun _ _ _ z => z, t_and ((hs o h).2.1 p)⟩
    | Or => cases h
  | _ => cases h
theorem e_or {es : REs} (hs : SEs D F T M C lv es) : SE D F T M C lv (.or es) := by
  intro X c W e o h
  cases e with
  | BoolOp op vs p =>
    cases op with
    | Or => exact ⟨PE.imp ((hs o h).2.2.2.2.1 p) fun _ _ _ z => z, t_or ((hs o h).2.2.1 p)⟩
    | And => cases h
  | _ => cases h
theorem e_ite {d a b : RE} (hd : SE D F T M C lv d) (ha : SE D F T M C lv a) (hb : SE D F T M C lv b) : SE D F T M C lv (.ite d a b) := by
  intro X c W e o h
  cases e with
  | IfExp t x y p =>
    have h' : (okE M T c d t && okE M T c a x && okE M T c b y) = true := h
    simp only [Bool.and_eq_true] at h'
    exact ⟨s_ite (hd o h'.1.1).2 (ha o h'.1.2).1 (hb o h'.2).1, t_ite (hd o h'.1.1).2 (ha o h'.1.2).2 (hb o h'.2).2⟩
  | _ => cases h
theorem e_tup {es : REs} (hs : SEs D F T M C lv es) : SE D F T M C lv (.tup es) := by
  intro X c W e o h
  cases e with
  | Tuple vs k p =>
    have h' : (okEs M T c es vs && noStar vs && decide (vs.length ≤ 1000)) = true := h
    simp only [Bool.and_eq_true, decide_eq_true_eq] at h'
    exact ⟨s_tup h'.2 (okEs_len h'.1.1) ((hs o h'.1.1).1 h'.1.2), pt_no fun _ _ _ _ z => z⟩
  | _ => cases h
theorem e_lst {es : REs} (hs : SEs D F T M C lv es) : SE D F T M C lv (.lst es) := by
  intro X c W e o h
  cases e with
  | List vs p =>
    have h' : (okEs M T c es vs && noStar vs && decide (vs.length ≤ 1000)) = true := h
    simp only [Bool.and_eq_true, decide_eq_true_eq] at h'
    exact ⟨s_lst h'.2 (okEs_len h'.1.1) ((hs o h'.1.1).1 h'.1.2), pt_no fun _ _ _ _ z => z⟩
  | _ => cases h
theorem e_call {f : Nat} {s : String} {es : REs} {ks : List String} {kes : REs} {arr : List (Nat ⊕ PV)} (hs : SEs D F T M C lv es) (hk : SKs D F T M C lv kes) : SE D F T M C lv (.call f s es ks kes arr) := by
  intro X c W e o h
  cases e with
  | Call g as kws p =>
    cases g with
    | Name x q =>
      have h' : (okGl c s x && M.gf.any (fun p => p.1 == s && p.2 == f) && okEs M T c es as && noStar as && okKs M T c kes kws && decide (namesOf kws = ks.map fun k => some (sN k)) && (kws.isEmpty || !as.isEmpty) && M.has f false as.length ks arr) = true := h
      simp only [Bool.and_eq_true, decide_eq_true_eq] at h'
      obtain ⟨⟨⟨⟨⟨⟨⟨h1, h2⟩, h3⟩, h4⟩, h5⟩, h6⟩, h7⟩, h8⟩ := h'
      have z := s_call (pos := p) (p := q) o h1 h2 (okEs_len h3) ((hs o h3).1 h4) h4 (hk o h5) (okKs_len h5) h6 h7 h8
      exact ⟨z, t_val o z (fun _ => rfl) fun _ _ _ _ z => z⟩
    | _ => cases h
  | _ => cases h
theorem e_make {d : Nat} {s : String} {es : REs} {ks : List String} {kes : REs} {arr : List (Nat ⊕ PV)} (hs : SEs D F T M C lv es) (hk : SKs D F T M C lv kes) : SE D F T M C lv (.make d s es ks kes arr) := by
  intro X c W e o h
  cases e with
  | Call g as kws p =>
    cases g with
    | Name x q =>
      have h' : (okGl c s x && M.gc.any (fun p => p.1 == s && p.2 == d) && okEs M T c es as && noStar as && okKs M T c kes kws && decide (namesOf kws = ks.map fun k => some (sN k)) && (kws.isEmpty || !as.isEmpty) && (match (T.cls[d]?).bind (·.ini) with
        | some f => M.has f true as.length ks arr
        | .none => false)) = true := h
      simp only [Bool.and_eq_true, decide_eq_true_eq] at h'
      obtain ⟨⟨⟨⟨⟨⟨⟨h1, h2⟩, h3⟩, h4⟩, h5⟩, h6⟩, h7⟩, h8⟩ := h'
      cases hf : (T.cls[d]?).bind (·.ini) with
      | none => rw [hf] at h8; cases h8
      | some f =>
        rw [hf] at h8
        exact ⟨s_make o h1 h2 (okEs_len h3) ((hs o h3).1 h4) h4 (hk o h5) (okKs_len h5) h6 h7 (fun g hg => by rw [hf] at hg; cases hg; exact h8) ⟨f, hf⟩, pt_no fun _ _ _ _ z => z⟩
    | _ => cases h
  | _ => cases h
theorem e_blt {b : Blt} {es : REs} (hs : SEs D F T M C lv es) : SE D F T M C lv (.blt b es) := by
  intro X c W e o h
  cases e with
  | Call g as kws p =>
    cases g with
    | Name x q =>
      cases kws with
      | nil =>
        have h' : (okGl c b.nm x && M.nb.any (· == b.nm) && okEs M T c es as && noStar as && !as.isEmpty) = true := h
        simp only [Bool.and_eq_true] at h'
        obtain ⟨⟨⟨⟨h1, h2⟩, h3⟩, h4⟩, h5⟩ := h'
        have z := s_blt (pos := p) (p := q) o h1 h2 ((hs o h3).1 h4) h4 h5
        exact ⟨z, t_val o z (fun _ => rfl) fun _ _ _ _ z => z⟩
      | cons _ _ => cases h
    | _ => cases h
  | _ => cases h
theorem e_bltK {b : Blt} {es kes : REs} {ks : List String} (hs : SEs D F T M C lv es) (hk : SKs D F T M C lv kes) : SE D F T M C lv (.bltK b es ks kes) := by
  intro X c W e o h
  cases e with
  | Call g as kws p =>
    cases g with
    | Name x q =>
      have h' : (decide (b = .max) && okGl c b.nm x && M.nb.any (· == b.nm) && okEs M T c es as && noStar as && !as.isEmpty && okKs M T c kes kws && decide (namesOf kws = ks.map fun k => some (sN k))) = true := h
      simp only [Bool.and_eq_true, decide_eq_true_eq] at h'
      obtain ⟨⟨⟨⟨⟨⟨⟨h0, h1⟩, h2⟩, h3⟩, h4⟩, h5⟩, h6⟩, h7⟩ := h'
      exact ⟨s_bltK o h0 h1 h2 ((hs o h3).1 h4) h4 h5 (hk o h6) h7, pt_no fun _ _ _ _ z => z⟩
    | _ => cases h
  | _ => cases h
theorem e_meth {a : RE} {m : String} {b : Option BM} {es : REs} {ks : List String} {kes : REs} {arr : List (Nat ⊕ PV)} (ha : SE D F T M C lv a) (hs : SEs D F T M C lv es) (hk : SKs D F T M C lv kes) : SE D F T M C lv (.meth a m b es ks kes arr) := by
  intro X c W e o h
  cases e with
  | Call g as kws p =>
    cases g with
    | Attribute e' x q =>
      have h' : (strB (sN m) x && notSuper e' && (q.endLine == p.line) && okE M T c a e' && okEs M T c es as && noStar as && okKs M T c kes kws && decide (namesOf kws = ks.map fun k => some (sN k)) && (kws.isEmpty || !as.isEmpty) &&
        decide (as.length + kws.length < 20) && (T.cls.all fun d => match d.ms.lookup m with
          | some f => M.has f true as.length ks arr
          | .none => true) && (match (generalizing := false) b with
          | some b' => b'.nm == m && kws.isEmpty
          | .none => true)) = true := h
      simp only [Bool.and_eq_true, decide_eq_true_eq] at h'
      obtain ⟨⟨⟨⟨⟨⟨⟨⟨⟨⟨⟨h1, h2⟩, h3⟩, h4⟩, h5⟩, h6⟩, h7⟩, h8⟩, h9⟩, h10⟩, h11⟩, h12⟩ := h'
      have e1 : sN m = x := of_decide_eq_true h1
      subst e1
      have z := s_meth (pos := p) o h2 h3 (ha o h4).1 (okEs_len h5) ((hs o h5).1 h6) h6 (hk o h7) (okKs_len h7) h8 h9 h10 h11 h12
      exact ⟨z, t_val o z (fun _ => rfl) fun _ _ _ _ z => z⟩
    | _ => cases h
  | _ => cases h
theorem e_fld {a : RE} {f : String} (ha : SE D F T M C lv a) : SE D F T M C lv (.fld a f) := by
  intro X c W e o h
  cases e with
  | Attribute e' x p =>
    have h' : (strB (sN f) x && notSuper e' && M.fl.contains f && okE M T c a e') = true := h
    simp only [Bool.and_eq_true] at h'
    obtain ⟨⟨⟨h1, h2⟩, h3⟩, h4⟩ := h'
    have e1 : sN f = x := of_decide_eq_true h1
    subst e1
    have z := s_fld (pos := p) o (by simpa using h3) h2 (ha o h4).1
    exact ⟨z, t_val o z (fun _ => rfl) fun _ _ _ _ z => z⟩
  | _ => cases h
theorem e_sub {a i : RE} (ha : SE D F T M C lv a) (hi : SE D F T M C lv i) : SE D F T M C lv (.sub a i) := by
  intro X c W e o h
  cases e with
  | Subscript e' k p =>
    have h' : (!isSlice k && okE M T c a e' && okE M T c i k) = true := h
    simp only [Bool.and_eq_true, Bool.not_eq_true'] at h'
    have z := s_sub (pos := p) o h'.1.1 (ha o h'.1.2).1 (hi o h'.2).1
    exact ⟨z, t_val o z (fun _ => rfl) fun _ _ _ _ z => z⟩
  | _ => cases h
theorem e_slice {a : RE} {lo hi : RO} (ha : SE D F T M C lv a) (hl : SO' D F T M C lv lo) (hh : SO' D F T M C lv hi) : SE D F T M C lv (.slice a lo hi none) := by
  intro X c W e o h
  cases e with
  | Subscript e' k p =>
    cases k with
    | Slice l h1 st p2 =>
      cases st with
      | none =>
        have h' : (okE M T c a e' && okO M T c lo l && okO M T c hi h1) = true := h
        simp only [Bool.and_eq_true] at h'
        exact ⟨s_slice o (ha o h'.1.1).1 (hl o h'.1.2) (hh o h'.2), pt_no fun _ _ _ _ z => z⟩
      | some _ => cases h
    | _ => cases h
  | _ => cases h
theorem e_step {a : RE} {st : Int} (ha : SE D F T M C lv a) : SE D F T M C lv (.step a st) := by
  intro X c W e o h
  cases e with
  | Subscript e' k p =>
    cases k with
    | Slice l h1 s2 p2 =>
      cases l with
      | some _ => cases h1 <;> cases s2 <;> cases h
      | none =>
        cases h1 with
        | some _ => cases s2 <;> cases h
        | none =>
          cases s2 with
          | none => cases h
          | some u =>
            have h' : (stepOk st u && okE M T c a e') = true := h
            rw [Bool.and_eq_true] at h'
            exact ⟨s_step o h'.1 (ha o h'.2).1, pt_no fun _ _ _ _ z => z⟩
    | _ => cases h
  | _ => cases h
theorem e_eqO {neg : Bool} {a b : RE} (ha : SE D F T M C lv a) (hb : SE D F T M C lv b) : SE D F T M C lv (.eqO neg a b) := by
  intro X c W e o h
  cases e with
  | Compare l ops rs p =>
    match ops, rs, h with
    | [o'], [r], h =>
      have h' : (decide (o' = if neg = true then .NotEq else .Eq) && !behindInMarks o' r && okE M T c a l && okE M T c b r && T.cls.all fun d => match d.ms.lookup "__eq__" with
        | some f => M.has f true 1 [] [.inl 0]
        | .none => true) = true := h
      simp only [Bool.and_eq_true, decide_eq_true_eq, Bool.not_eq_true'] at h'
      obtain ⟨⟨⟨⟨h0, h1⟩, h2⟩, h3⟩, h4⟩ := h'
      exact ⟨s_eqO (pos := p) o h0 h1 h4 (ha o h2).1 (hb o h3).1, t_eqO (pos := p) o h0 h1 h4 (ha o h2).1 (hb o h3).1⟩
    | [], _, h => cases h
    | [_], [], h => cases h
    | [_], _ :: _ :: _, h => cases h
    | _ :: _ :: _, _, h => cases h
  | _ => cases h
theorem e_bltO {b : Blt} {a : RE} (ha : SE D F T M C lv a) (hs : SEs D F T M C lv (.cons a .nil)) : SE D F T M C lv (.bltO b a) := by
  intro X c W e o h
  cases e with
  | Call g as kws p =>
    cases g with
    | Name x q =>
      cases kws with
      | cons _ _ => cases as with
        | nil => cases h
        | cons y ys => cases ys <;> cases h
      | nil =>
        match as, h with
        | [e], h =>
          have h' : (decide (b = .len) && okGl c b.nm x && M.nb.any (· == b.nm) && okE M T c a e && noStar [e] && T.cls.all fun d => match d.ms.lookup "__len__" with
            | some f => M.has f true 0 [] []
            | .none => true) = true := h
          simp only [Bool.and_eq_true, decide_eq_true_eq] at h'
          obtain ⟨⟨⟨⟨⟨rfl, h1⟩, h2⟩, h3⟩, h4⟩, h5⟩ := h'
          have hes : okEs M T c (.cons a .nil) [e] = true := by
            show (okE M T c a e && true) = true
            rw [h3] <;> rfl
          exact ⟨s_lenO o h1 h2 ((hs o hes).1 h4) h4 h5, pt_no fun _ _ _ _ z => z⟩
        | [], h => cases h
        | _ :: _ :: _, h => cases h
    | _ => cases as with
      | nil => cases kws <;> cases h
      | cons y ys => cases ys <;> cases kws <;> cases h
  | _ => cases h
theorem rngArg_is {r : Expr} {y : Str} {e : Expr} (h : rngArg r = some (y, e)) : ∃ q p, r = .Call (.Name y q) [e] [] p := by
  unfold rngArg at h
  split at h
  · cases h
    exact ⟨_, _, rfl⟩
  · cases h
theorem e_lenR {a : RE} (ha : SE D F T M C lv a) (hs : SEs D F T M C lv (.cons a .nil)) : SE D F T M C lv (.lenR a) := by
  intro X c W e o h
  cases e with
  | Call g as kws p =>
    cases g with
    | Name x q =>
      cases kws with
      | cons _ _ => cases as with
        | nil => cases h
        | cons y ys => cases ys <;> cases h
      | nil =>
        match as, h with
        | [r], h =>
          have h' : (okGl c "len" x && M.nb.any (· == "len") && M.nb.any (· == "range") && (match (generalizing := false) rngArg r with
            | some (y, e) => okGl c "range" y && okE M T c a e && noStar [e]
            | .none => false)) = true := h
          rw [Bool.and_eq_true, Bool.and_eq_true, Bool.and_eq_true] at h'
          obtain ⟨⟨⟨h1, h2⟩, h4⟩, h3⟩ := h'
          cases er : rngArg r with
          | none => rw [er] at h3; cases h3
          | some ye =>
            obtain ⟨y, e1⟩ := ye
            rw [er] at h3
            have h3 : (okGl c "range" y && okE M T c a e1 && noStar [e1]) = true := h3
            rw [Bool.and_eq_true, Bool.and_eq_true] at h3
            obtain ⟨q2, p2, rfl⟩ := rngArg_is er
            have hes : okEs M T c (.cons a .nil) [e1] = true := by
              show (okE M T c a e1 && true) = true
              rw [h3.1.2] <;> rfl
            exact ⟨s_lenR o h1 h2 h3.1.1 h4 ((hs o hes).1 h3.2) h3.2, pt_no fun _ _ _ _ z => z⟩
        | [], h => cases h
        | _ :: _ :: _, h => cases h
    | _ => cases as with
      | nil => cases kws <;> cases h
      | cons y ys => cases ys <;> cases kws <;> cases h
  | _ => cases h
theorem e_gty {n : BT} : SE D F T M C lv (.gty n) := by
  intro X c W e o h
  cases e with
  | Name x p =>
    have h' : (okGl c n.nm x && decide (n ≠ .non) && M.nb.any (· == n.nm)) = true := h
    simp only [Bool.and_eq_true, decide_eq_true_eq] at h'
    exact ⟨s_gty o h'.1.1 h'.1.2 (by simpa using h'.2), pt_no fun _ _ _ _ z => z⟩
  | _ => cases h
theorem e_rev {a : RE} {st : Int} (ha : SE D F T M C lv a) : SE D F T M C lv (.slice a .none .none (some st)) := by
  intro X c W e o h
  cases e with
  | Subscript e' k p =>
    cases k with
    | Slice l h1 s2 p2 =>
      cases l with
      | some _ => cases s2 <;> cases h
      | none =>
        cases h1 with
        | some _ => cases s2 <;> cases h
        | none =>
          cases s2 with
          | none => cases h
          | some u =>
            cases u with
            | UnaryOp uo x q =>
              cases uo with
              | USub =>
                cases x with
                | Constant k j q2 =>
                  cases k with
                  | int n =>
                    have h' : (n == 1 && okE M T c a e') = true := h
                    rw [Bool.and_eq_true] at h'
                    have e1 : n = 1 := eq_of_beq h'.1
                    subst e1
                    exact ⟨s_rev o (ha o h'.2).1, pt_no fun _ _ _ _ z => z⟩
                  | _ => cases h
                | _ => cases h
              | _ => cases h
            | _ => cases h
    | _ => cases h
  | _ => cases h
theorem e_dic {ks vs : REs} : SE D F T M C lv (.dic ks vs) := by
  intro X c W e o h
  cases e <;> cases h
theorem e_rv1 {a l : RE} {hi : RO} {st : Int} : SE D F T M C lv (.slice a (.some l) hi (some st)) := by
  intro X c W e o h
  cases e <;> cases h
theorem e_rv2 {a l : RE} {st : Int} : SE D F T M C lv (.slice a .none (.some l) (some st)) := by
  intro X c W e o h
  cases e <;> cases h
theorem lc_parts {el tg : Expr} {gs : List Comprehension} {scope : Scope} {p : Pos} {elt : RE} {t : RT} {it : RI} {ifs : REs} {own : List Nat} {c : Sc} (h : okE M T c (.lc elt t it ifs own) (.ListComp el gs scope p) = true) :
    ∃ tg iter fs, gs = [⟨tg, iter, fs, 0⟩] ∧ blkC c.N c.sc scope (ownOf c.N own) = true ∧ tgIn t own = true ∧ tupIt it tg = true ∧ noSet iter = true ∧ okI M T c it iter = true ∧ okT M T (relSc c scope) t tg = true ∧ okEs M T (relSc c scope) ifs fs = true ∧ okE M T (relSc c scope) elt el = true := by
  match gs, h with
  | [⟨tg, iter, fs, z⟩], h =>
    have h' : (z == 0 && blkC c.N c.sc scope (ownOf c.N own) && tgIn t own && tupIt it tg && noSet iter && okI M T c it iter && okT M T (relSc c scope) t tg && okEs M T (relSc c scope) ifs fs && okE M T (relSc c scope) elt el) = true := h
    simp only [Bool.and_eq_true, beq_iff_eq] at h'
    obtain ⟨⟨⟨⟨⟨⟨⟨⟨rfl, h1⟩, h2⟩, h3⟩, h4⟩, h5⟩, h6⟩, h7⟩, h8⟩ := h'
    exact ⟨tg, iter, fs, rfl, h1, h2, h3, h4, h5, h6, h7, h8⟩
  | [], h => cases h
  | ⟨_, _, _, _⟩ :: _ :: _, h => cases h
theorem e_lc {elt : RE} {t : RT} {it : RI} {ifs : REs} {own : List Nat} (he : SE D F T M C lv elt) (ht : ST D F T M C lv t) (hi : SI D F T M C lv it) (hf : SEs D F T M C lv ifs) : SE D F T M C lv (.lc elt t it ifs own) := by
  intro X c W e o h
  cases e with
  | ListComp el gs scope p =>
    obtain ⟨tg, iter, fs, rfl, h1, h2, h3, h4, h5, h6, h7, h8⟩ := lc_parts (tg := el) h
    exact ⟨s_lc o h2 h1 h4 (hi o h3 h5) (fun s H Cc cl fp => ht (okx_blk o) h6) (fun s H Cc cl fp => (hf (okx_blk o) h7).2.2.2.2.2) (fun s H Cc cl fp => (he (okx_blk o) h8).1), pt_no fun _ _ _ _ z => z⟩
  | _ => cases h

/-! ### rows -/
theorem es_nil : SEs D F T M C lv .nil := by
  intro X c W es o h
  cases es with
  | nil => exact ⟨fun _ => s_nil, fun _ => t_and_nil, fun _ => t_or_nil, fun _ => ⟨fun pins s σc H Q I z => by obtain ⟨ι, S, σ, Qb, Ra, L, G, hw, _⟩ := z; exact (show False from hw).elim⟩, fun _ => ⟨fun pins s σc H Q I z => by obtain ⟨ι, S, σ, Qb, Ra, L, G, hw, _⟩ := z; exact (show False from hw).elim⟩, fs_nil⟩
  | cons _ _ => cases h
theorem es_cons {r : RE} {rs : REs} (hr : SE D F T M C lv r) (hs : SEs D F T M C lv rs) : SEs D F T M C lv (.cons r rs) := by
  intro X c W es o h
  cases es with
  | nil => cases h
  | cons e es =>
    have h' : (okE M T c r e && okEs M T c rs es) = true := h
    rw [Bool.and_eq_true] at h'
    obtain ⟨p1, p2⟩ := hr o h'.1
    obtain ⟨q1, q2, q3, q4, q5, q6⟩ := hs o h'.2
    refine ⟨fun n => s_cons n p1 (q1 (noStar_cons (env := X.env) n).2), fun pos => t_and_cons p2 (q2 pos), fun pos => t_or_cons p2 (q3 pos), fun pos => ?_, fun pos => ?_, ?_⟩
    · cases rs with
      | nil =>
        cases es with
        | nil => exact s_and_one p1
        | cons _ _ => cases h'.2
      | cons r2 rs2 =>
        cases es with
        | nil => cases h'.2
        | cons e2 es2 => exact s_and_cons o p1 (q4 pos)
    · cases rs with
      | nil =>
        cases es with
        | nil => exact s_or_one p1
        | cons _ _ => cases h'.2
      | cons r2 rs2 =>
        cases es with
        | nil => cases h'.2
        | cons e2 es2 => exact s_or_cons o p1 (q5 pos)
    · cases rs with
      | nil =>
        cases es with
        | nil => exact fs_one p2
        | cons _ _ => cases h'.2
      | cons r2 rs2 => exact ⟨fun pins s σc H Q I z => by obtain ⟨ι, S, σ, Qb, L, G, hw, _⟩ := z; exact (show False from hw).elim⟩
theorem k_nil : SKs D F T M C lv .nil := by
  intro X c W es o h
  cases es with
  | nil => exact sk_nil
  | cons _ _ => cases h
theorem k_cons {r : RE} {rs : REs} (hr : SE D F T M C lv r) (hs : SKs D F T M C lv rs) : SKs D F T M C lv (.cons r rs) := by
  intro X c W es o h
  cases es with
  | nil => cases h
  | cons e es =>
    obtain ⟨nm, e, kp⟩ := e
    have h' : (okE M T c r e && okKs M T c rs es) = true := h
    rw [Bool.and_eq_true] at h'
    exact sk_cons (hr o h'.1).1 (hs o h'.2)
theorem o_none : SO' D F T M C lv .none := by
  intro X c W e o h
  cases e with
  | none => exact so_none
  | some _ => cases h
theorem o_some {r : RE} (hr : SE D F T M C lv r) : SO' D F T M C lv (.some r) := by
  intro X c W e o h
  cases e with
  | none => cases h
  | some e => exact so_some (hr o h).1

/-! ### what is walked; targets -/
theorem it_val {r : RE} (hr : SE D F T M C lv r) : SI D F T M C lv (.val r) := by
  intro X c W tg e o _ h
  exact i_val o (hr o h).1
theorem it_range {es : REs} (hs : SEs D F T M C lv es) : SI D F T M C lv (.range es) := by
  intro X c W tg e o _ h
  cases e with
  | Call g as kws p =>
    cases g with
    | Name x q =>
      cases kws with
      | nil =>
        have h' : (okGl c "range" x && M.nb.any (· == "range") && okEs M T c es as && noStar as && (as.length == 1 || as.length == 2)) = true := h
        simp only [Bool.and_eq_true] at h'
        obtain ⟨⟨⟨⟨h1, h2⟩, h3⟩, h4⟩, h5⟩ := h'
        obtain ⟨e1, hg, _, _⟩ := gl_of o h1
        obtain ⟨y, hy, ey⟩ := List.any_eq_true.mp h2
        have ey : y = "range" := eq_of_beq ey
        subst ey e1
        have hm := o.lk.nb _ hy
        match as, h3, h4, h5 with
        | [a], h3, h4, h5 => exact i_range1 o hg hm h4 (okEs_len h3) ((hs o h3).1 h4)
        | [a, b], h3, h4, h5 => exact i_range2 o hg hm h4 (okEs_len h3) ((hs o h3).1 h4)
        | [], _, _, h5 => cases h5
        | _ :: _ :: _ :: _, _, _, h5 => simp at h5
      | cons _ _ => cases h
    | _ => cases h
  | _ => cases h
theorem tup_is {t : Expr} (h : isTup t = true) : ∃ es k p, t = .Tuple es k p := by
  cases t <;> first
    | exact ⟨_, _, _, rfl⟩
    | cases h
theorem it_enum {r : RE} (hr : SE D F T M C lv r) : SI D F T M C lv (.enum r) := by
  intro X c W tg e o ht h
  obtain ⟨es, k, tp, rfl⟩ := tup_is ht
  cases e with
  | Call g as kws p =>
    cases g with
    | Name x q =>
      match as, kws, h with
      | [a], [], h =>
        have h' : (okGl c "enumerate" x && M.nb.any (· == "enumerate") && okE M T c r a && noStar [a]) = true := h
        simp only [Bool.and_eq_true] at h'
        obtain ⟨⟨⟨h1, h2⟩, h3⟩, h4⟩ := h'
        obtain ⟨e1, hg, _, _⟩ := gl_of o h1
        obtain ⟨y, hy, ey⟩ := List.any_eq_true.mp h2
        have ey : y = "enumerate" := eq_of_beq ey
        subst ey e1
        exact i_enum o hg (o.lk.nb _ hy) h4 (hr o h3).1
      | [], _, h => cases h
      | [_], _ :: _, h => cases h
      | _ :: _ :: _, _, h => cases h
    | _ => cases h
  | _ => cases h
theorem zipKw_is {st : Bool} {ks : List Keyword} (h : zipKw st ks = true) : (st = false ∧ ks = []) ∨ (st = true ∧ ∃ j p kp, ks = [⟨some (sN "strict"), .Constant (.bool true) j p, kp⟩]) := by
  cases st with
  | false => exact .inl ⟨rfl, List.isEmpty_iff.mp h⟩
  | true =>
    match ks, h with
    | [⟨kn, kv, kp⟩], h =>
      have h' : (decide (kn = some (sN "strict")) && isYes kv) = true := h
      simp only [Bool.and_eq_true, decide_eq_true_eq] at h'
      obtain ⟨rfl, h2⟩ := h'
      cases kv with
      | Constant kc j q2 =>
        cases kc with
        | bool bb =>
          cases bb with
          | true => exact .inr ⟨rfl, j, q2, kp, rfl⟩
          | false => cases h2
        | _ => cases h2
      | _ => cases h2
    | [], h => cases h
    | ⟨_, _, _⟩ :: _ :: _, h => cases h
theorem it_zip {a b : RE} {st : Bool} (ha : SE D F T M C lv a) (hb : SE D F T M C lv b) : SI D F T M C lv (.zip a b st) := by
  intro X c W tg e o ht h
  obtain ⟨es, k, tp, rfl⟩ := tup_is ht
  cases e with
  | Call g as kws p =>
    cases g with
    | Name x q =>
      match as, h with
      | [u, v], h =>
        have h' : (okGl c "zip" x && M.nb.any (· == "zip") && okE M T c a u && okE M T c b v && noStar [u, v] && zipKw st kws) = true := h
        simp only [Bool.and_eq_true] at h'
        obtain ⟨⟨⟨⟨⟨h1, h2⟩, h3⟩, h4⟩, h5⟩, h6⟩ := h'
        obtain ⟨e1, hg, _, _⟩ := gl_of o h1
        obtain ⟨y, hy, ey⟩ := List.any_eq_true.mp h2
        have ey : y = "zip" := eq_of_beq ey
        subst ey e1
        rcases zipKw_is h6 with ⟨rfl, rfl⟩ | ⟨rfl, j, p2, kp, rfl⟩
        · exact i_zip o hg (o.lk.nb _ hy) h5 (ha o h3).1 (hb o h4).1
        · exact i_zipS o hg (o.lk.nb _ hy) h5 (ha o h3).1 (hb o h4).1
      | [], h => cases h
      | [_], h => cases h
      | _ :: _ :: _ :: _, h => cases h
    | _ => cases h
  | _ => cases h
theorem g_name {i : Nat} : ST D F T M C lv (.name i) := by
  intro X c W e o h
  cases e with
  | Name x p => exact t_name o h
  | _ => cases h
theorem g_sub {a i : RE} (ha : SE D F T M C lv a) (hi : SE D F T M C lv i) : ST D F T M C lv (.sub a i) := by
  intro X c W e o h
  cases e with
  | Subscript e' k p =>
    have h' : (!isSlice k && okE M T c a e' && okE M T c i k) = true := h
    simp only [Bool.and_eq_true, Bool.not_eq_true'] at h'
    exact t_sub h'.1.1 (ha o h'.1.2).1 (hi o h'.2).1
  | _ => cases h
theorem g_fld {a : RE} {f : String} : ST D F T M C lv (.fld a f) := by
  intro X c W e o h
  cases e <;> cases h
theorem okT_tup {c : Sc} {ts : RTs} {es : List Expr} {k : Nat} {p : Pos} (h : okT M T c (.tup ts) (.Tuple es k p) = true) :
    (∃ i j x p1 y p2 r, ts = .cons (.name i) (.star j) ∧ es = [.Name x p1, .Starred (.Name y p2) r] ∧ okPut c i x = true ∧ okPut c j y = true) ∨ (okTs M T c ts es && noStarT es) = true := by
  unfold okT at h
  split at h
  all_goals first
    | (rename_i e1 e2
       cases e1
       done)
    | (rename_i e1 e2
       cases e1
       cases e2
       first
        | exact .inr h
        | (rw [Bool.and_eq_true] at h
           exact .inl ⟨_, _, _, _, _, _, _, rfl, rfl, h.1, h.2⟩))
    | exact .inr h
    | cases h
theorem g_tup {ts : RTs} (hs : STs D F T M C lv ts) : ST D F T M C lv (.tup ts) := by
  intro X c W e o h
  cases e with
  | Tuple es k p =>
    rcases okT_tup h with ⟨i, j, x, p1, y, p2, r, rfl, rfl, h1, h2⟩ | h'
    · exact t_star o h1 h2
    · rw [Bool.and_eq_true] at h'
      obtain ⟨q1, q2⟩ := hs o h'.2 h'.1
      exact t_tup o h'.2 q2 q1
  | _ => cases ts with
    | cons t r => cases t <;> cases r <;> cases h
    | _ => cases h
theorem gs_nil : STs D F T M C lv .nil := by
  intro X c W es o _ h
  cases es with
  | nil => exact ⟨ts_nil, rfl, fun _ => rfl⟩
  | cons _ _ => cases h
theorem gs_cons {t : RT} {ts : RTs} (ht : ST D F T M C lv t) (hs : STs D F T M C lv ts) : STs D F T M C lv (.cons t ts) := by
  intro X c W es o hn h
  cases es with
  | nil => cases h
  | cons e es =>
    have h' : (okT M T c t e && okTs M T c ts es) = true := h
    rw [Bool.and_eq_true] at h'
    obtain ⟨q1, q2⟩ := hs o (noStarT_cons (env := X.env) hn).2 h'.2
    exact ⟨ts_cons hn (ht o h'.1) q1, by rw [List.length_cons, q2.1]; rfl, fun n => by show ts.cnt (n - 1) + 1 = _; rw [q2.2]; rfl⟩
theorem gs_star {i : Nat} : STs D F T M C lv (.star i) := by
  intro X c W es o hn h
  cases es <;> cases h

mutual
theorem sndE : ∀ r : RE, SE D F T M C lv r
  | .loc i => e_loc
  | .const v => e_const
  | .glob x v => e_glob
  | .bin op a b => e_bin (sndE a) (sndE b)
  | .neg a => e_neg (sndE a)
  | .cmp op a b => e_cmp (sndE a) (sndE b)
  | .chain op op' a b d => e_chain (sndE a) (sndE b) (sndE d)
  | .and es => e_and (sndEs es)
  | .or es => e_or (sndEs es)
  | .not a => e_not (sndE a)
  | .ite d a b => e_ite (sndE d) (sndE a) (sndE b)
  | .tup es => e_tup (sndEs es)
  | .lst es => e_lst (sndEs es)
  | .dic ks vs => e_dic
  | .call f x es ks kes arr => e_call (sndEs es) (sndKs kes)
  | .make d x es ks kes arr => e_make (sndEs es) (sndKs kes)
  | .blt b es => e_blt (sndEs es)
  | .bltK b es ks kes => e_bltK (sndEs es) (sndKs kes)
  | .meth a m b es ks kes arr => e_meth (sndE a) (sndEs es) (sndKs kes)
  | .fld a f => e_fld (sndE a)
  | .sub a i => e_sub (sndE a) (sndE i)
  | .slice a lo hi .none => e_slice (sndE a) (sndO lo) (sndO hi)
  | .slice a .none .none (some st) => e_rev (sndE a)
  | .slice a (.some _) _ (some st) => e_rv1
  | .slice a .none (.some _) (some st) => e_rv2
  | .step a st => e_step (sndE a)
  | .gty n => e_gty
  | .eqO neg a b => e_eqO (sndE a) (sndE b)
  | .lenR a => e_lenR (sndE a) (es_cons (sndE a) es_nil)
  | .bltO b a => e_bltO (sndE a) (es_cons (sndE a) es_nil)
  | .lc elt t it ifs own => e_lc (sndE elt) (sndTg t) (sndI it) (sndEs ifs)
theorem sndEs : ∀ r : REs, SEs D F T M C lv r
  | .nil => es_nil
  | .cons r rs => es_cons (sndE r) (sndEs rs)
theorem sndKs : ∀ r : REs, SKs D F T M C lv r
  | .nil => k_nil
  | .cons r rs => k_cons (sndE r) (sndKs rs)
theorem sndO : ∀ r : RO, SO' D F T M C lv r
  | .none => o_none
  | .some r => o_some (sndE r)
theorem sndI : ∀ r : RI, SI D F T M C lv r
  | .val r => it_val (sndE r)
  | .range es => it_range (sndEs es)
  | .enum r => it_enum (sndE r)
  | .zip a b st => it_zip (sndE a) (sndE b)
theorem sndTg : ∀ r : RT, ST D F T M C lv r
  | .name i => g_name
  | .tup ts => g_tup (sndTgs ts)
  | .sub a i => g_sub (sndE a) (sndE i)
  | .fld a f => g_fld
theorem sndTgs : ∀ r : RTs, STs D F T M C lv r
  | .nil => gs_nil
  | .cons t ts => gs_cons (sndTg t) (sndTgs ts)
  | .star i => gs_star
end
end
end Rp
/-! # The look is enough: statements -/
namespace Rp
open PySem PySem.Spec PyProof.Rows L2
section
variable {D : Ad} {F : Fd} {T : Tab} {M : Nm} {C : CS} {lv : Nat}
def SS (D : Ad) (F : Fd) (T : Tab) (M : Nm) (C : CS) (lv : Nat) (r : RS) : Prop := ∀ {X : Cx} {c : Sc} {W : WX} {s : Stmt}, Okx X D F T M M.fl C lv W c → PassesOwn (model X.prog X.w) X.A X.env X.xe → okS M T c r s = true → PS X s (rdS D T C W r)
def SSs (D : Ad) (F : Fd) (T : Tab) (M : Nm) (C : CS) (lv : Nat) (r : RSs) : Prop := ∀ {X : Cx} {c : Sc} {W : WX} {s : List Stmt}, Okx X D F T M M.fl C lv W c → PassesOwn (model X.prog X.w) X.A X.env X.xe → okSs M T c r s = true → PSs X s (rdSs D T C W r)

theorem n_asg {t : RT} {r : RE} : SS D F T M C lv (.asg t r) := by
  intro X c W s o hp h
  have gen : ∀ {tg v : Expr} {p : Pos}, (okT M T c t tg && noStarT [tg] && noSwap tg v && noExch c.sc tg v && okE M T c r v) = true → PS X (.Assign [tg] v p) (rdS D T C W (.asg t r)) := fun {tg v p} h' => by
    simp only [Bool.and_eq_true] at h'
    obtain ⟨⟨⟨⟨h1, h2⟩, h3⟩, h4⟩, h5⟩ := h'
    exact q_asg h3 (by rw [o.hsc]; exact h4) h2 (sndE r o h5).1 (sndTg t o h1)
  cases s with
  | Assign ts v p =>
    match ts, h with
    | [tg], h =>
      cases t with
      | fld o' f =>
        cases tg with
        | Attribute e x q =>
          have h' : (strB (sN f) x && M.fl.contains f && noSwap (.Attribute e x q) v && okE M T c o' e && okE M T c r v) = true := h
          simp only [Bool.and_eq_true] at h'
          obtain ⟨⟨⟨⟨h1, h2⟩, h3⟩, h4⟩, h5⟩ := h'
          have e1 : sN f = x := of_decide_eq_true h1
          subst e1
          exact q_fld o (by simpa using h2) h3 (sndE o' o h4).1 (sndE r o h5).1
        | _ => exact gen h
      | _ => exact gen h
    | [], h => cases t <;> cases h
    | t1 :: _ :: _, h =>
      cases t <;> first
        | (cases h; done)
        | (cases t1 <;> cases h)
  | _ => cases t <;> cases h
theorem n_setlc {i : Nat} {elt : RE} {t : RT} {it : RI} {ifs : REs} {own : List Nat} : SS D F T M C lv (.setlc i elt t it ifs own) := by
  intro X c W s o hp h
  cases s with
  | Assign ts v p =>
    match ts, h with
    | [tg], h =>
      cases tg with
      | Name y py =>
        cases v with
        | ListComp el gs scope p2 =>
          have h' : (decide (c.N[i]? = some y) && c.lcl y && (py.line == p2.line) && !(scope.names.any fun (n, k) => n == y && (k == .local || k == .cell)) && okE M T c (.lc elt t it ifs own) (.ListComp el gs scope p2)) = true := h
          simp only [Bool.and_eq_true, decide_eq_true_eq, Bool.not_eq_true'] at h'
          obtain ⟨⟨⟨⟨h1, h2⟩, h3⟩, h4⟩, h5⟩ := h'
          obtain ⟨tg, iter, fs, rfl, k1, k2, k3, k4, k5, k6, k7, k8⟩ := lc_parts (tg := el) h5
          exact q_setlc o h1 (lcl_of h2) h3 h4 k2 k1 k4 (sndI it o k3 k5) (fun s H Cc cl fp => sndTg t (okx_blk o) k6) (fun s H Cc cl fp => (sndEs ifs (okx_blk o) k7).2.2.2.2.2) (fun s H Cc cl fp => (sndE elt (okx_blk o) k8).1)
        | _ => cases h
      | _ => cases h
    | [], h => cases h
    | t1 :: _ :: _, h =>
      cases t1 <;> first
        | (cases h; done)
        | (cases v <;> cases h)
  | _ => cases h
theorem n_asg2 {t u : RT} {r : RE} : SS D F T M C lv (.asg2 t u r) := by
  intro X c W s o hp h
  cases s with
  | Assign ts v p =>
    match ts, h with
    | [t1, t2], h =>
      have h' : (okT M T c t t1 && okT M T c u t2 && noStarT [t1, t2] && okE M T c r v) = true := h
      simp only [Bool.and_eq_true] at h'
      obtain ⟨⟨⟨h1, h2⟩, h3⟩, h4⟩ := h'
      exact q_asg2 h3 (sndE r o h4).1 (sndTg t o h1) (sndTg u o h2)
    | [], h => cases h
    | [_], h => cases h
    | _ :: _ :: _ :: _, h => cases h
  | _ => cases h
theorem n_par {is : List Nat} {es : REs} : SS D F T M C lv (.par is es) := by
  intro X c W s o hp h
  cases s with
  | Assign ts v p =>
    match ts, h with
    | [tg], h =>
      have h' : (parS c is tg v && okEs M T c es (tupOf v)) = true := h
      rw [Bool.and_eq_true] at h'
      obtain ⟨h1, h5⟩ := h'
      unfold parS at h1
      split at h1
      · simp only [Bool.and_eq_true, decide_eq_true_eq, Bool.not_eq_true', beq_eq_false_iff_ne] at h1
        obtain ⟨⟨⟨h1, h2⟩, h3⟩, h4⟩ := h1
        refine q_par o h1 h2 h3 h4 (okEs_len h5) ((sndEs es o h5).1 ?_)
        unfold parB at h4
        simp only [Bool.and_eq_true] at h4
        exact h4.1.1.2
      · cases h1
    | [], h => cases h
    | _ :: _ :: _, h => cases h
  | _ => cases h
theorem n_aug {i : Nat} {op : Operator} {r : RE} : SS D F T M C lv (.aug i op r) := by
  intro X c W s o hp h
  cases s with
  | AugAssign t op' v p =>
    cases t with
    | Name x q =>
      have h' : (decide (op' = op) && okPut c i x && okE M T c r v) = true := h
      simp only [Bool.and_eq_true, decide_eq_true_eq] at h'
      obtain ⟨⟨rfl, h1⟩, h2⟩ := h'
      exact q_aug o h1 (sndE r o h2).1
    | _ => cases h
  | _ => cases h
theorem n_augF {a : RE} {f : String} {op : Operator} {r : RE} : SS D F T M C lv (.augF a f op r) := by
  intro X c W s o hp h
  cases s with
  | AugAssign t op' v p =>
    cases t with
    | Attribute e x q =>
      have h' : (decide (op' = op) && strB (sN f) x && M.fl.contains f && okE M T c a e && okE M T c r v) = true := h
      simp only [Bool.and_eq_true, decide_eq_true_eq] at h'
      obtain ⟨⟨⟨⟨rfl, h1⟩, h2⟩, h3⟩, h4⟩ := h'
      have e1 : sN f = x := of_decide_eq_true h1
      subst e1
      exact q_augF o (by simpa using h2) (sndE a o h3).1 (sndE r o h4).1
    | _ => cases h
  | _ => cases h
theorem n_expr {r : RE} : SS D F T M C lv (.expr r) := by
  intro X c W s o hp h
  cases s with
  | Expr v p =>
    have h' : (noComp v && okE M T c r v) = true := h
    rw [Bool.and_eq_true] at h'
    exact q_expr h'.1 (sndE r o h'.2).1
  | _ => cases h
theorem n_doc : SS D F T M C lv .doc := by
  intro X c W s o hp h
  cases s with
  | Expr v p =>
    cases v with
    | Constant k j q =>
      cases k with
      | str x => exact q_doc
      | _ => cases h
    | _ => cases h
  | _ => cases h
theorem n_ret {r : RE} : SS D F T M C lv (.ret r) := by
  intro X c W s o hp h
  cases s with
  | Return v p =>
    cases v with
    | some v => exact q_ret (sndE r o h).1
    | none => cases h
  | _ => cases h
theorem n_retN : SS D F T M C lv .retN := by
  intro X c W s o hp h
  cases s with
  | Return v p =>
    cases v with
    | none => exact q_retN
    | some v => cases h
  | _ => cases h
theorem n_if {r : RE} {a b : RSs} (ha : SSs D F T M C lv a) (hb : SSs D F T M C lv b) : SS D F T M C lv (.ife r a b) := by
  intro X c W s o hp h
  cases s with
  | If v x y p =>
    have h' : (okE M T c r v && okSs M T c a x && okSs M T c b y) = true := h
    simp only [Bool.and_eq_true] at h'
    exact q_if (sndE r o h'.1.1).2 (ha o hp h'.1.2) (hb o hp h'.2)
  | _ => cases h
theorem n_whl {r : RE} {a : RSs} (ha : SSs D F T M C lv a) : SS D F T M C lv (.whl r a) := by
  intro X c W s o hp h
  cases s with
  | While v x y p =>
    cases y with
    | nil =>
      have h' : (okE M T c r v && okSs M T c a x) = true := h
      rw [Bool.and_eq_true] at h'
      exact q_whl hp (sndE r o h'.1).2 (ha o hp h'.2)
    | cons _ _ => cases h
  | _ => cases h
theorem n_for {t : RT} {it : RI} {a : RSs} (ha : SSs D F T M C lv a) : SS D F T M C lv (.for_ t it a) := by
  intro X c W s o hp h
  cases s with
  | For tg iter x y p =>
    cases y with
    | nil =>
      have h' : (tupIt it tg && noSet iter && okI M T c it iter && okT M T c t tg && okSs M T c a x) = true := h
      simp only [Bool.and_eq_true] at h'
      obtain ⟨⟨⟨⟨h1, h2⟩, h3⟩, h4⟩, h5⟩ := h'
      exact q_for o hp h2 (sndI it o h1 h3) (sndTg t o h4) (ha o hp h5)
    | cons _ _ => cases h
  | _ => cases h
theorem n_brk : SS D F T M C lv .brk := by
  intro X c W s o hp h
  cases s with
  | Break p => exact q_brk
  | _ => cases h
theorem n_cont : SS D F T M C lv .cont := by
  intro X c W s o hp h
  cases s with
  | Continue p => exact q_cont
  | _ => cases h
theorem n_pass : SS D F T M C lv .pass := by
  intro X c W s o hp h
  cases s with
  | Pass p => exact q_pass
  | _ => cases h
theorem ns_nil : SSs D F T M C lv .nil := by
  intro X c W s o hp h
  cases s with
  | nil => exact qs_nil
  | cons _ _ => cases h
theorem ns_cons {r : RS} {rs : RSs} (h1 : SS D F T M C lv r) (h2 : SSs D F T M C lv rs) : SSs D F T M C lv (.cons r rs) := by
  intro X c W s o hp h
  cases s with
  | nil => cases h
  | cons s ss =>
    have h' : (okS M T c r s && okSs M T c rs ss) = true := h
    rw [Bool.and_eq_true] at h'
    exact qs_cons (h1 o hp h'.1) (h2 o hp h'.2)
mutual
theorem sndS : ∀ r : RS, SS D F T M C lv r
  | .asg t e => n_asg
  | .setlc i elt t it ifs own => n_setlc
  | .asg2 t u e => n_asg2
  | .par is es => n_par
  | .aug i op e => n_aug
  | .augF a f op e => n_augF
  | .expr e => n_expr
  | .doc => n_doc
  | .ret e => n_ret
  | .retN => n_retN
  | .ife e a b => n_if (sndSs a) (sndSs b)
  | .whl e a => n_whl (sndSs a)
  | .for_ t it a => n_for (sndSs a)
  | .brk => n_brk
  | .cont => n_cont
  | .pass => n_pass
theorem sndSs : ∀ r : RSs, SSs D F T M C lv r
  | .nil => ns_nil
  | .cons s ss => ns_cons (sndS s) (sndSs ss)
end
end
end Rp
/-! # The defs of a text; the law's call -/
namespace Rp
open PySem PySem.Spec PyProof.Rows L2

/-- a def of the table, as the written part has it -/
def DefAt (D : Ad) (F : Fd) (M : Nm) (T : Tab) (f : Nat) (d : FDef) : Prop :=
  ∃ (nm qual : Str) (params : Arguments) (body : List Stmt) (scope : Scope) (dV kV doc pm cdv ct oc : Value) (an od : Option Addr) (osl : Array (Option Value)),
    F.fd f = PySem.W.fnOf nm qual params body scope dV kV doc pm an cdv ct ∧ D.K.lookup (D.fa f) = some ⟨oc, od, .func (F.fd f), osl⟩ ∧ PySem.W.codeIn D.K cdv qual = true ∧
      C8.scC (d.N.map sN) ((d.N.map sN).take d.np) scope = true ∧ d.np ≤ d.N.length ∧ okSs M T ⟨d.N.map sN, scope, true⟩ d.body body = true
/-- what stands at the text's top, whatever is called -/
structure Top (D : Ad) (F : Fd) (mg : Str → Option Value) (T : Tab) (M : Nm) : Prop where
  gf : ∀ x f, (x, f) ∈ M.gf → mg (sN x) = some (.ref (D.fa f)) ∧ PySem.W.keepIn D.K (.ref (D.fa f)) = true
  gc : ∀ x c, (x, c) ∈ M.gc → mg (sN x) = some (.ref (D.ca c)) ∧ ∀ f, (T.cls[c]?).bind (·.ini) = some f → Mk D.K (D.ca c) (D.fa f)
  gv : ∀ x v, (x, v) ∈ M.gv → ∃ u y, mg (sN x) = some u ∧ RelV y u ∧ ∀ ι H, RV D ι H v y
  nb : ∀ x ∈ M.nb, mg (sN x) = none
  sh : ∀ s ∈ M.shapes, ∀ d, T.fns[s.f]? = some d → ShOk D F s d
  ms : ∀ c cd, T.cls[c]? = some cd → Cls D.K (D.ca c) ∧ (∀ m f, cd.ms.lookup m = some f → Meth D.K (D.ca c) (sN m) (D.fa f)) ∧ ∀ g ∈ M.fl, NoAttr D.K (D.ca c) (sN g)
  is : IsF D T
  df : ∀ f d, T.fns[f]? = some d → DefAt D F M T f d

theorem start_rg {D : Ad} {ι : List Addr} {H : Hp} {n : Nat} {N : List Str} {vs : List PV} {xs : List V} (hn : N.length = n) (r : RVs D ι H vs xs) : RG D ι H (startG n vs) (L2.start N xs) := by
  have hl := r.len
  refine ⟨?_, fun i v h => ?_⟩
  · unfold startG L2.start
    rw [List.length_append, List.length_append, List.length_map, List.length_map, List.length_replicate, List.length_replicate, hl, hn]
  · unfold startG at h
    unfold L2.start
    by_cases hi : i < vs.length
    · rw [List.getElem?_append_left (by rw [List.length_map]; exact hi), List.getElem?_map] at h
      rw [List.getElem?_append_left (by rw [List.length_map, hl]; exact hi), List.getElem?_map]
      cases e : vs[i]? with
      | none => rw [e] at h; cases h
      | some u =>
        rw [e] at h
        cases h
        obtain ⟨x, ex, rx⟩ := r.get e
        exact ⟨x, by rw [ex] <;> rfl, rx⟩
    · rw [List.getElem?_append_right (by rw [List.length_map]; omega)] at h
      have := List.mem_of_getElem? h
      rw [List.mem_replicate] at this
      cases this.2
theorem inn_of {T : Tab} : ∀ (k f : Nat) (vs : List PV) (S : Store) (Q : QV) (R : QX), wpCall T k f vs S Q R → ∃ d, T.fns[f]? = some d
  | 0, _, _, _, _, _, h => h.elim
  | k + 1, f, vs, S, Q, R, h => by
    obtain ⟨d, hd, _⟩ := h
    exact ⟨d, hd⟩
section
variable {P : Program} {w : World} {D : Ad} {F : Fd} {mg : Str → Option Value} {base : Heap} {T : Tab} {M : Nm}
/-- every def keeps its wish, however deep -/
theorem defs_ok (t : Top D F mg T M) : ∀ k f d, T.fns[f]? = some d → GFn P w D.K mg base (2 * k) (D.fa f) (F.fd f) ((d.N.map sN).take d.np) (spC D (wpCall T k) f)
  | 0, f, d, hd => ⟨fun vs H Q E h => by obtain ⟨_, _, _, _, _, _, _, hc, _⟩ := h; exact hc.elim, fun A outer s H args us vs Q E _ _ _ _ _ h => by obtain ⟨_, _, _, _, _, _, _, hc, _⟩ := h; exact hc.elim⟩
  | k + 1, f, d, hd => by
    have ih := defs_ok t k
    obtain ⟨nm, qual, params, body, scope, dV, kV, doc, pm, cdv, ct, oc, an, od, osl, e1, lk, cd, sc, hnp, ok⟩ := t.df f d hd
    rw [e1] at lk ⊢
    have S := C8.fnScope_by sc
    have len : ∀ vs H Q E, spC D (wpCall T (k + 1)) f vs H Q E → vs.length = ((d.N.map sN).take d.np).length := fun xs H Q E h => by
      obtain ⟨ι, S0, vs, Qa, Ra, L, r, hc, _⟩ := h
      obtain ⟨d', hd', hl, _⟩ := hc
      rw [hd] at hd'
      cases hd'
      rw [r.len, hl, List.length_take, List.length_map]
      omega
    refine gfn_of (lv := 2 * k + 1) lk cd S len fun A outer s H xs Q E room grd h => ?_
    obtain ⟨ι, S0, vs, Qa, Ra, L, r, hc, cn, cx⟩ := h
    obtain ⟨d', hd', hl, hw⟩ := hc
    rw [hd] at hd'
    cases hd'
    have LK : Lk P w D F mg base T M M.fl (wpCall T k) (2 * k) := ⟨inn_of k, ih, t.gf, t.gc, t.gv, t.nb, t.sh, t.ms, t.is⟩
    have o : Okx (cxOf (L2.CX P w) P w D.K mg base (d.N.map sN) qual scope (D.fa f) cdv A outer s H E) D F T M M.fl (wpCall T k) (2 * k) (fun cls dd _ H' => E cls dd H') ⟨d.N.map sN, scope, true⟩ :=
      ⟨rfl, rfl, rfl, S.nd, rfl, grd, room, takes_of rfl rfl rfl rfl, fun _ _ => rfl, LK⟩
    refine ⟨rdSs D T (wpCall T k) (fun cls dd _ H' => E cls dd H') d.body, sndSs d.body o (passes_of rfl) ok, ι, S0, _, _, L, start_rg (List.length_map _) r, hw, ?_⟩
    exact ⟨fun ι' S' H' σ' σc' e L' G q => cn ι' S' H' .non .non e L' rfl q, cn, fun _ _ _ _ _ _ _ _ q => q.elim, fun _ _ _ _ _ _ _ _ q => q.elim, fun ι' S' H' σ' σc' x cls dd e L' G rx q => cx ι' S' H' x cls dd e L' rx q⟩
end
end Rp
/-! # The law's call, from a promise that wants no guards -/
namespace Rp
open PySem PySem.Spec PyProof.Rows L2

theorem law_run {P : Program} {w : World} {K : PySem.W.Frag} {mg mb : Str → Option Value} {k : Nat} {fa a : Addr} {fd : FuncData} {x : Str} {sp : Sp} {s : Shared} {vs : List Value} {ns : List Int} (KI : K.In s.heap) (glob : s.heap.Ns mainGlobals mg) (blt : s.heap.Ns builtinsNs mb) (std : ∀ y : Str, y ≠ "__name__" → mb y = bootBuiltins y) (lim0 : s.heap.NoLimit) (gens : s.gens = #[])
    (at_ : s.heap.get? a = some { cls := .type "list", data := .seq vs.toArray }) (inz : IntsAre vs ns) (short : ns.length ≤ sizeLine) (room : Room k callerA) (F : ∀ base : Heap, K.In base → base.Ns mainGlobals mg → GFn P w K mg base k fa fd [x] sp) (bind : ∀ (s : Shared) (u : Value), BindsTo s fd ⟨[u], []⟩ [(x, u)])
    (hs : ∀ H : Hp, Only H → SqL K H a (ns.map V.int) → sp [.ref a] H (fun v _ => v = .bl true) fun _ _ _ => False) :
    codeAny (model P w) callerA (.call (.ref fa) ⟨[.ref a], []⟩) (fun r s' => r = .ok (.ret (.bool true)) ∧ OldK s.heap s'.heap ∧ s'.os = s.os ∧ AllBare s'.gens) s := by
  have lens := inz.length
  have go : ∀ H : Hp, Only H → SqL K H a (ns.map V.int) → HOk P w H s.heap → (∀ b, H b ≠ none → b = a ∧ K.lookup a = none) →
      codeAny (model P w) callerA (.call (.ref fa) ⟨[.ref a], []⟩) (fun r s' => r = .ok (.ret (.bool true)) ∧ OldK s.heap s'.heap ∧ s'.os = s.os ∧ AllBare s'.gens) s := by
    intro H only sq hok one
    have noDict : ∀ {b : Addr} {o : Obj} {es : Array DictEntry} {ep : Nat}, s.heap.get? b = some o → o.data = .dict es ep → H b = none := fun {b o es ep} e d => by
      cases q : H b with
      | none => rfl
      | some u =>
        obtain ⟨rfl, _⟩ := one b (by rw [q]; simp)
        rw [at_] at e
        cases e
        exact nomatch (show Data.seq vs.toArray _ = Data.dict es ep from d)
    have ns' : ∀ {b : Addr} {m : Str → Option Value}, s.heap.Ns b m → (hidT s.heap H).Ns b m := fun {b m} h => by
      obtain ⟨o, es, ep, e, d, r⟩ := h
      exact ⟨o, es, ep, hidT_get e (noDict e d), d, r⟩
    have kb : K.In (hidT s.heap H) := fun b o e => hidT_get (KI b o e) (by
      cases q : H b with
      | none => rfl
      | some u =>
        obtain ⟨rfl, hn⟩ := one b (by rw [q]; simp)
        rw [hn] at e
        cases e)
    have md : Mod K mg (hidT s.heap H) := ⟨kb, ns' glob, ⟨mb, ns' blt, std⟩, by
      obtain ⟨mc, h1, h2⟩ := lim0
      exact ⟨mc, ns' h1, h2⟩⟩
    have nil : ∀ b : Addr, b ∉ ([] : List Addr) := fun b z => absurd z (by simp)
    have e0 : Env0 P w K mg (hidT s.heap H) callerA [] s H := ⟨rfl, md, fun b o e => of_hidT e, Nat.le_of_eq (hidT_size _ _), trivial, fun b hb => absurd hb (nil b), hok, .of_eq gens⟩
    refine codeAny_mono ((F _ kb (ns' glob)).run callerA [] s H ⟨[.ref a], []⟩ [.ref a] [.ref a] _ _ room rfl e0 (bind s (.ref a)) (.cons rfl .nil) (hs H only sq)) fun r s' h => ?_
    match r, h with
    | .error e, h =>
      obtain ⟨_, _, _, _, _, _, _, _, _, _, _, _, h⟩ := h
      exact h.elim
    | .ok .next, h => exact False.elim h
    | .ok .brk, h => exact False.elim h
    | .ok .cont, h => exact False.elim h
    | .ok (.ret u), h =>
      obtain ⟨v, H', os, bare, un, hok', ru, q⟩ := h
      have q : v = .bl true := q
      subst q
      obtain rfl : u = Value.bool true := ru
      refine ⟨rfl, OldK.of_keep fun b o e => ?_, os, bare⟩
      rcases only b with q | ⟨ob, xs, q⟩
      · exact un.keep b o e q (nil b) (by simp)
      · obtain ⟨e1, _⟩ := hok b _ q
        obtain ⟨e2, _⟩ := hok' b _ (un.frzs b ob _ q)
        rw [e] at e1
        cases e1
        exact e2
  have vi := vals_ints inz
  cases hk : K.lookup a with
  | some o =>
    have e := KI a o hk
    rw [at_] at e
    cases e
    exact go (fun _ => none) (fun _ => .inl rfl) (.inr ⟨_, vs.toArray, _, hk, rfl, rfl, rfl, by rw [List.size_toArray, lens]; exact short, by simpa using vi⟩) (fun b u z => nomatch (show (none : Option HO) = some u from z)) (fun b z => absurd rfl z)
  | none =>
    refine go (fun b => if b = a then some (.frz { cls := .type "list", data := .seq vs.toArray } (.lst (ns.map V.int))) else none) (fun b => ?_) (.inl (.inr ⟨_, if_pos rfl⟩)) (fun b u z => ?_) fun b z => ⟨?_, hk⟩
    · by_cases h : b = a
      · exact .inr ⟨_, _, if_pos h⟩
      · exact .inl (if_neg h)
    · by_cases h : b = a
      · have z := (if_pos h).symm.trans z
        cases z
        subst h
        exact ⟨at_, by rw [List.length_map]; exact short, vs, _, vi, at_⟩
      · exact nomatch (if_neg h).symm.trans z
    · by_cases h : b = a
      · exact h
      · exact absurd (if_neg h) z
/-- the walk of the law's def -/
theorem law_walk {l : PySem.W.OpenLaw} {n : Nat} {q : Program} {loose : List Str} {XP : (Str → Option Value) → Heap → Prop} {YP : World → Heap → Prop} {d : DefRec} {K : Params → PySem.W.Frag} {x : Str} (hn : l.most = some n) (hn2 : n ≤ sizeLine) (hdf : d.params.defaults = []) (hY : ∀ (w : World) (h : Heap), YP w h → (K w.params).In h)
    (G : ∀ (w : World) (mg : Str → Option Value) (fa : Addr) (h : Heap), (K w.params).In h → h.Ns mainGlobals mg → mg d.name = some (.ref fa) →
      ∃ (k : Nat) (fd : FuncData) (sp : Sp), Room k callerA ∧ (∀ (s : Shared) (u : Value), BindsTo s fd ⟨[u], []⟩ [(x, u)]) ∧ (∀ base : Heap, (K w.params).In base → base.Ns mainGlobals mg → GFn l.prog w (K w.params) mg base k fa fd [x] sp) ∧
        ∀ (H : Hp) (a : Addr) (ns : List Int), ns.length ≤ n → Only H → SqL (K w.params) H a (ns.map V.int) → sp [.ref a] H (fun v _ => v = .bl true) fun _ _ _ => False) :
    PySem.W.WalkO q loose XP YP l.row.toRowW d [] (fun f vs => PySem.call f vs) := by
  refine Att.attach_call hn hdf fun w s0 s1 mg mb fa o pm cd doc a vs ns B Y ho hd hcd hmg hobj hints hlen hg => ?_
  have KI := hY w _ Y
  obtain ⟨k, fd, sp, room, bind, F, hs⟩ := G w mg fa _ KI B.T.g hmg
  exact law_run KI B.T.g B.T.b B.T.builtins B.T.nolimit hg hobj hints (Nat.le_trans hlen hn2) room F bind fun H only sq => hs H a ns hlen only sq
/-- the law's promise out of its plain law -/
theorem law_sp {D : Ad} {T : Tab} {k f : Nat} {H : Hp} {a : Addr} {ns : List Int} (only : Only H) (sq : SqL D.K H a (ns.map V.int)) (h : wpCall T k f [.scr (ns.map .int)] [] (fun v _ => v = .bl true) (fun _ _ => False)) :
    spC D (wpCall T k) f [.ref a] H (fun v _ => v = .bl true) fun _ _ _ => False := by
  have sf : SqF D.K H a (ns.map V.int) := by
    rcases sq with (q | ⟨o, q⟩) | q
    · rcases only a with z | ⟨o, xs, z⟩
      · rw [q] at z; cases z
      · rw [q] at z; cases z
    · exact .inl ⟨o, q⟩
    · exact .inr (.inr q)
  refine ⟨[], [], [.scr (ns.map .int)], _, _, ⟨rfl, .nil, fun i o h => by simp at h⟩, .cons ⟨a, _, rfl, sf, RVs.of_ints ns⟩ .nil, h, fun ι' S' H' v x e L r q => ?_, fun _ _ _ _ _ _ _ _ _ q => q.elim⟩
  have q : v = .bl true := q
  subst q
  exact r
end Rp
/-! # The facts of a text's classes, as its top has them -/
namespace Rp
open PySem PySem.Spec PyProof.Rows L2

theorem lookup_all {α β : Type} [BEq α] [LawfulBEq α] {P : α → β → Prop} : ∀ {l : List (α × β)}, (∀ p ∈ l, P p.1 p.2) → ∀ m f, l.lookup m = some f → P m f
  | [], _, m, f, h => by cases h
  | (a, b) :: r, hp, m, f, h => by
    rw [List.lookup_cons] at h
    split at h
    · rename_i e
      have e := eq_of_beq e
      subst e
      cases h
      exact hp (m, b) (List.mem_cons_self ..)
    · exact lookup_all (fun p hq => hp p (List.mem_cons_of_mem _ hq)) m f h
theorem kit_own {K : PySem.W.Frag} {t : Value} {C : Addr} {b : Bool} (ic : PySem.W.isClsIn K C = true) (ty : PySem.W.typeIn K (.ref C) = some (.type "type")) (s : PySem.W.subIn K t (.ref C) = some b) (ne : (t == .ref C) = false) : PySem.W.kitOne K t (.ref C) = some b := by
  unfold PySem.W.kitOne PySem.W.kitCls
  rw [ne]
  have ic : (PySem.W.clsIn K C).isSome = true := ic
  simp only [Bool.false_eq_true, if_false, ic, ty]
  simpa using s
theorem kit_self {K : PySem.W.Frag} {C : Addr} : PySem.W.kitOne K (.ref C) (.ref C) = some true := by
  unfold PySem.W.kitOne
  rw [if_pos (by simp)]
theorem kit_bt {K : PySem.W.Frag} {C : Addr} {b : BT} {r : Bool} (hb : b ≠ .non) (s : PySem.W.subIn K (.ref C) (.type b.nm) = some r) : PySem.W.kitOne K (.ref C) (.type b.nm) = some r := by
  have hm : PySem.W.kitMeta b.nm = true := by
    cases b <;> first | exact absurd rfl hb | decide +kernel
  unfold PySem.W.kitOne PySem.W.kitCls
  have ne : (Value.ref C == Value.type b.nm) = false := by
    cases b <;> rfl
  rw [ne]
  simp only [Bool.false_eq_true, if_false, hm, if_true]
  exact s
/-- a class's facts -/
structure CF (K : PySem.W.Frag) (C : Addr) : Prop where
  cl : Cls K C
  ca : PySem.W.findIn K (.ref C) "__class__" = some (some (.builtin "object.__class__"))
  mo : PySem.W.mroIn K C (.type "object") = some true
  ic : PySem.W.isClsIn K C = true
  ty : PySem.W.typeIn K (.ref C) = some (.type "type")
  ci : ∀ b : BT, b ≠ .non → PySem.W.subIn K (.ref C) (.type b.nm) = some false
  ib : ∀ b : BT, PySem.W.subIn K (.type b.nm) (.ref C) = some false
theorem cf_mk {K : PySem.W.Frag} {C : Addr} (pg : PySem.W.plainGet K C Str.empty = true) (hd : PySem.W.hasDictIn K C = true) (po : PySem.W.plainOver K C = true) (sa : PySem.W.findIn K (.ref C) "__setattr__" = some (some (.builtin "object.__setattr__")))
    (ca : PySem.W.findIn K (.ref C) "__class__" = some (some (.builtin "object.__class__"))) (mo : PySem.W.mroIn K C (.type "object") = some true) (ic : PySem.W.isClsIn K C = true) (ty : PySem.W.typeIn K (.ref C) = some (.type "type"))
    (c1 : PySem.W.subIn K (.ref C) (.type "int") = some false) (c2 : PySem.W.subIn K (.ref C) (.type "bool") = some false) (c3 : PySem.W.subIn K (.ref C) (.type "str") = some false) (c4 : PySem.W.subIn K (.ref C) (.type "tuple") = some false) (c5 : PySem.W.subIn K (.ref C) (.type "list") = some false) (c6 : PySem.W.subIn K (.ref C) (.type "dict") = some false)
    (b0 : PySem.W.subIn K (.type "NoneType") (.ref C) = some false) (b1 : PySem.W.subIn K (.type "int") (.ref C) = some false) (b2 : PySem.W.subIn K (.type "bool") (.ref C) = some false) (b3 : PySem.W.subIn K (.type "str") (.ref C) = some false) (b4 : PySem.W.subIn K (.type "tuple") (.ref C) = some false) (b5 : PySem.W.subIn K (.type "list") (.ref C) = some false) (b6 : PySem.W.subIn K (.type "dict") (.ref C) = some false) : CF K C :=
  ⟨⟨pg, hd, po, sa⟩, ca, mo, ic, ty, fun b hb => by cases b <;> first | exact absurd rfl hb | assumption, fun b => by cases b <;> assumption⟩
/-- what isinstance asks, of all classes at once -/
theorem isf_mk {D : Ad} {T : Tab} (cf : ∀ c cd, T.cls[c]? = some cd → CF D.K (D.ca c)) (hn : T.cls = [] ∨ (PySem.W.specialIn D.K (.builtin "object.__class__") "__get__" = some (some (.builtin "getset_descriptor.__get__")) ∧ PySem.W.takesIn D.K (.builtin "object.__class__") = some true))
    (up : ∀ (c : Nat) (cd : CDef), T.cls[c]? = some cd → cd.up = [c]) (ii : ∀ c d cd cd', T.cls[c]? = some cd → T.cls[d]? = some cd' → c ≠ d → D.ca c ≠ D.ca d ∧ PySem.W.subIn D.K (.ref (D.ca c)) (.ref (D.ca d)) = some false)
    (ne : ∀ (c : Nat) (cd : CDef), T.cls[c]? = some cd → (cd.ms.lookup "__eq__").isSome = true → PySem.W.findIn D.K (.ref (D.ca c)) "__ne__" = some (some (.builtin "object.__ne__"))) : IsF D T :=
  ⟨fun c cd h => (cf c cd h).cl, fun c cd h => ⟨(cf c cd h).ca, (cf c cd h).mo⟩, hn, fun c cd b h hb => kit_bt hb ((cf c cd h).ci b hb), fun c b h => by
      obtain ⟨cd, e⟩ := Option.isSome_iff_exists.mp h
      exact kit_own (cf c cd e).ic (cf c cd e).ty ((cf c cd e).ib b) rfl, ne, fun c d cd e h => by
      obtain ⟨cd', e'⟩ := Option.isSome_iff_exists.mp h
      rw [up c cd e]
      by_cases q : c = d
      · subst q
        rw [kit_self]
        simp
      · obtain ⟨h1, h2⟩ := ii c d cd cd' e e' q
        rw [kit_own (cf d cd' e').ic (cf d cd' e').ty h2 (by simpa using h1)]
        simp
        exact Ne.symm q⟩
end Rp
/-! # Plain laws: the tools -/
namespace Rp
open PySem

/-- a def's body, over the calls' wish -/
def bodyC (T : Tab) (C : CS) : CS := fun f vs S Q R => ∃ d, T.fns[f]? = some d ∧ vs.length = d.np ∧ wpSs T C d.body (startG d.N.length vs) S { nx := fun _ S' => Q .non S', rt := Q, ex := fun x _ S' => R x S' }
theorem call_body {T : Tab} {k : Nat} : wpCall T (k + 1) = bodyC T (wpCall T k) := rfl

/-! ### the store -/
theorem items_ref {S : Store} {i : Nat} {xs : List PV} (h : S[i]? = some (.lst xs)) : itemsOf S (.ref i) = some xs := by
  simp only [itemsOf]
  rw [h]
theorem lst_ref {S : Store} {i : Nat} {xs : List PV} (h : S[i]? = some (.lst xs)) : lstOf S (.ref i) = some xs := by
  simp only [lstOf]
  rw [h]
theorem lt_of_at {S : Store} {i : Nat} {o : SO} (h : S[i]? = some o) : i < S.length := (List.getElem?_eq_some_iff.mp h).1
theorem set_at {S : Store} {i : Nat} {o o' : SO} (h : S[i]? = some o) : (S.set i o')[i]? = some o' := by
  rw [List.getElem?_set_self (lt_of_at h)]
theorem set_ne {S : Store} {i j : Nat} {o' : SO} {x : Option SO} (n : i ≠ j) (h : S[j]? = x) : (S.set i o')[j]? = x := by
  rw [List.getElem?_set_ne n]
  exact h
theorem app_at {S : Store} {l : Store} {i : Nat} {o : SO} (h : S[i]? = some o) : (S ++ l)[i]? = some o := by
  rw [List.getElem?_append_left (lt_of_at h)]
  exact h
theorem app_new {S : Store} {o : SO} : (S ++ [o])[S.length]? = some o := by
  rw [List.getElem?_append_right (Nat.le_refl _), Nat.sub_self]
  rfl
/-- all that stood stands, but at the places of B; new things may stand behind -/
structure Kp (B : Nat → Prop) (S S' : Store) : Prop where
  len : S.length ≤ S'.length
  at_ : ∀ i o, ¬ B i → S[i]? = some o → S'[i]? = some o
theorem Kp.refl {B : Nat → Prop} {S : Store} : Kp B S S := ⟨Nat.le_refl _, fun _ _ _ h => h⟩
theorem Kp.trans {B : Nat → Prop} {S S1 S2 : Store} (a : Kp B S S1) (b : Kp B S1 S2) : Kp B S S2 := ⟨Nat.le_trans a.len b.len, fun i o n h => b.at_ i o n (a.at_ i o n h)⟩
theorem Kp.imp {B B' : Nat → Prop} {S S' : Store} (a : Kp B S S') (h : ∀ i, B i → B' i) : Kp B' S S' := ⟨a.len, fun i o n e => a.at_ i o (fun z => n (h i z)) e⟩
theorem Kp.app {B : Nat → Prop} {S S' l : Store} (a : Kp B S S') : Kp B S (S' ++ l) := ⟨by rw [List.length_append]; exact Nat.le_trans a.len (Nat.le_add_right _ _), fun i o n h => app_at (a.at_ i o n h)⟩
/-- a place that is new, or among B, is stored -/
theorem Kp.set {B : Nat → Prop} {S S' : Store} {p : Nat} {o' : SO} (a : Kp B S S') (h : S.length ≤ p ∨ B p) : Kp B S (S'.set p o') := ⟨by rw [List.length_set]; exact a.len, fun i o n e => by
  refine set_ne (fun z => ?_) (a.at_ i o n e)
  subst z
  rcases h with h | h
  · exact absurd (lt_of_at e) (by omega)
  · exact n h⟩
abbrev no : Nat → Prop := fun _ => False
theorem Kp.no {B : Nat → Prop} {S S' : Store} (a : Kp Rp.no S S') : Kp B S S' := a.imp fun _ z => z.elim

/-! ### rows of numbers -/
abbrev nums (ns : List Int) : List PV := ns.map PV.int
theorem nums_app (a b : List Int) : nums (a ++ b) = nums a ++ nums b := List.map_append
theorem idx_last {α : Type} {L : List α} {b : α} : idx (L ++ [b]) (-1) = some b := by
  have l : (L ++ [b]).length = L.length + 1 := by simp
  have h : (0 : Int) ≤ ((L ++ [b]).length : Int) + -1 := by omega
  have e : (((L ++ [b]).length : Int) + -1).toNat = L.length := by omega
  unfold idx
  rw [if_neg (by decide), if_pos h, e, List.getElem?_append_right (Nat.le_refl _), Nat.sub_self]
  rfl
theorem idx_lastN {L : List Int} {b : Int} : idx (nums (L ++ [b])) (-1) = some (.int b) := by
  rw [nums_app]
  exact idx_last
theorem idx_some {α : Type} {xs : List α} {k : Int} (h0 : 0 ≤ k) (h1 : k < xs.length) : ∃ v, v ∈ xs ∧ idx xs k = some v := by
  have h : k.toNat < xs.length := by omega
  refine ⟨xs[k.toNat], List.getElem_mem h, ?_⟩
  unfold idx
  rw [if_pos h0, List.getElem?_eq_getElem h]
theorem idx_nat {α : Type} {xs : List α} {k : Nat} : idx xs (k : Int) = xs[k]? := by
  unfold idx
  rw [if_pos (Int.natCast_nonneg k)]
  rfl
theorem dats_int {S : Store} : ∀ ns : List Int, Dats S (nums ns) (ns.map .int)
  | [] => .nil
  | n :: ns => .cons (.int n) (dats_int ns)
theorem dats_bl {S : Store} : ∀ ns : List Bool, Dats S (ns.map .bl) (ns.map .bool)
  | [] => .nil
  | n :: ns => .cons (.bl n) (dats_bl ns)
theorem can_ints : ∀ ns : List Int, PyData.canLayAll0 (ns.map .int) = true
  | [] => rfl
  | n :: ns => can_ints ns
theorem dep_ints : ∀ ns : List Int, PyData.depthAll (ns.map .int) = 0
  | [] => rfl
  | n :: ns => by
    show max 0 (PyData.depthAll (ns.map .int)) = 0
    rw [dep_ints ns] <;> rfl
theorem shaped_ints (ns : List Int) : SeqAt.shaped (.list (ns.map .int)) = true := by
  have e : PyData.depth (.list (ns.map .int)) = 1 := by
    show PyData.depthAll (ns.map .int) + 1 = 1
    rw [dep_ints ns]
  have e2 : PyData.canLay0 (.list (ns.map .int)) = true := can_ints ns
  unfold SeqAt.shaped
  rw [e, e2] <;> rfl
theorem recv_lst {T : Tab} {S : Store} {i : Nat} {xs : List PV} {m : String} {b : BM} (h : S[i]? = some (.lst xs)) : recv T S (.ref i) m (some b) = some (.inr b) := by
  have e1 : methOf T S (.ref i) m = none := by
    simp only [methOf]
    rw [h]
  have e2 : isLst S (.ref i) = true := by
    simp only [isLst]
    rw [h]
  unfold recv
  rw [e1]
  simp only [e2, if_true]
theorem app_ok {T : Tab} {S : Store} {i : Nat} {xs : List PV} {A : Nat → Prop} {B : BM → Prop} (h : S[i]? = some (.lst xs)) (q : B .append) : onRecv (recv T S (.ref i) "append" (some .append)) A B := onRecv_blt (recv_lst h) q
theorem pop_ok {T : Tab} {S : Store} {i : Nat} {xs : List PV} {A : Nat → Prop} {B : BM → Prop} (h : S[i]? = some (.lst xs)) (q : B .pop) : onRecv (recv T S (.ref i) "pop" (some .pop)) A B := onRecv_blt (recv_lst h) q
instance {x : Int} : Decidable (fit x) := by
  unfold fit
  infer_instance
theorem fit_of {x : Int} (h0 : 0 ≤ x) (h1 : x < 2 ^ 64) : fit x := ⟨by omega, h1⟩
theorem fit_mod {x m : Int} (h1 : 0 < m) (h2 : m < 2 ^ 62) : fit (x % m) := by
  have a := Int.emod_nonneg x (Int.ne_of_gt h1)
  have b := Int.emod_lt_of_pos x h1
  unfold fit
  constructor <;> omega

/-! ### tests -/
theorem iteD {p : Prop} [Decidable p] {A B : Prop} (h1 : p → A) (h2 : ¬ p → B) : if decide p = true then A else B := by
  by_cases h : p
  · rw [if_pos (decide_eq_true h)]
    exact h1 h
  · rw [if_neg (by simpa using h)]
    exact h2 h
theorem iteN {p : Prop} [Decidable p] {A B : Prop} (h1 : ¬ p → A) (h2 : p → B) : if (!decide p) = true then A else B := by
  by_cases h : p
  · rw [if_neg (by simpa using h)]
    exact h2 h
  · rw [if_pos (by simpa using h)]
    exact h1 h
theorem iteB {b : Bool} {A B : Prop} (h1 : b = true → A) (h2 : b = false → B) : if b = true then A else B := by
  cases b with
  | true => exact h1 rfl
  | false => exact h2 rfl
theorem iteT {b : Bool} {A B : Prop} (h : b = true) (h1 : A) : if b = true then A else B := by
  rw [if_pos h]
  exact h1
theorem iteF {b : Bool} {A B : Prop} (h : b = false) (h1 : B) : if b = true then A else B := by
  rw [if_neg (by rw [h]; decide)]
  exact h1

/-! ### loops -/
/-- a for by its word: what holds with the items that are left -/
theorem for_by {turn : PV → Sg → Store → (Sg → Store → Prop) → Prop} {st : Store → Prop} {Q : Sg → Store → Prop} (P : List PV → Sg → Store → Prop) (hst : ∀ r σ S, P r σ S → st S) (hd : ∀ σ S, P [] σ S → Q σ S)
    (hs : ∀ x r σ S (K : Sg → Store → Prop), P (x :: r) σ S → (∀ σ' S', P r σ' S' → K σ' S') → turn x σ S K) : ∀ (xs : List PV) σ S, P xs σ S → forRun turn st xs σ S Q
  | [], σ, S, h => hd σ S h
  | x :: r, σ, S, h => hs x r σ S _ h fun σ' S' h' => ⟨hst r σ' S' h', for_by P hst hd hs r σ' S' h'⟩
/-- a comprehension by its word: the items made, those left -/
theorem lc_by {step : PV → Store → (Option PV → Store → Prop) → Prop} {st : Store → Prop} {Q : QV} (P : List PV → List PV → Store → Prop) (hst : ∀ a r S, P a r S → st S) (hd : ∀ a S, P a [] S → Q (.ref S.length) (S ++ [.lst a]))
    (hs : ∀ x a r S (K : Option PV → Store → Prop), P a (x :: r) S → (∀ v S', P (match v with | .none => a | some y => a ++ [y]) r S' → K v S') → step x S K) : ∀ (xs acc : List PV) S, P acc xs S → lcRun step st xs acc S Q
  | [], acc, S, h => hd acc S h
  | x :: r, acc, S, h => hs x acc r S _ h fun v S' h' => ⟨hst _ r S' h', lc_by P hst hd hs r _ S' h'⟩
/-- a comprehension that neither calls nor keeps out: a map -/
theorem lc_map {step : PV → Store → (Option PV → Store → Prop) → Prop} {st : Store → Prop} {Q : QV} {S : Store} (f : PV → PV) (hst : st S) : ∀ (xs acc : List PV), (∀ x ∈ xs, ∀ K : Option PV → Store → Prop, K (some (f x)) S → step x S K) → Q (.ref S.length) (S ++ [.lst (acc ++ xs.map f)]) → lcRun step st xs acc S Q
  | [], acc, _, h => by
    rw [List.map_nil, List.append_nil] at h
    exact h
  | x :: r, acc, hs, h => hs x (List.mem_cons_self ..) _ ⟨hst, lc_map f hst r (acc ++ [f x]) (fun y hy => hs y (List.mem_cons_of_mem _ hy)) (by simpa using h)⟩
/-- .. that keeps some -/
theorem lc_filterMap {step : PV → Store → (Option PV → Store → Prop) → Prop} {st : Store → Prop} {Q : QV} {S : Store} (f : PV → Option PV) (hst : st S) : ∀ (xs acc : List PV), (∀ x ∈ xs, ∀ K : Option PV → Store → Prop, K (f x) S → step x S K) → Q (.ref S.length) (S ++ [.lst (acc ++ xs.filterMap f)]) → lcRun step st xs acc S Q
  | [], acc, _, h => by
    rw [List.filterMap_nil, List.append_nil] at h
    exact h
  | x :: r, acc, hs, h => hs x (List.mem_cons_self ..) _ ⟨hst, lc_filterMap f hst r _ (fun y hy => hs y (List.mem_cons_of_mem _ hy)) (by
      cases e : f x with
      | none => simpa [List.filterMap_cons, e] using h
      | some y => simpa [List.filterMap_cons, e] using h)⟩
/-- .. of which each item is some right one -/
theorem lc_some {step : PV → Store → (Option PV → Store → Prop) → Prop} {st : Store → Prop} {Q : QV} {S : Store} (P : PV → Prop) (hst : st S) : ∀ (xs acc : List PV), (∀ x ∈ xs, ∀ K : Option PV → Store → Prop, (∀ y, P y → K (some y) S) → step x S K) →
    (∀ ys : List PV, ys.length = xs.length → (∀ y ∈ ys, P y) → Q (.ref S.length) (S ++ [.lst (acc ++ ys)])) → lcRun step st xs acc S Q
  | [], acc, _, h => by
    have h := h [] rfl (by simp)
    rw [List.append_nil] at h
    exact h
  | x :: r, acc, hs, h => hs x (List.mem_cons_self ..) _ fun y hy => ⟨hst, lc_some P hst r (acc ++ [y]) (fun z hz => hs z (List.mem_cons_of_mem _ hz)) fun ys hl hp => by
      have := h (y :: ys) (by simp [hl]) (fun z hz => by
        rw [List.mem_cons] at hz
        rcases hz with hz | hz
        · rw [hz]; exact hy
        · exact hp z hz)
      simpa using this⟩
theorem nums_of : ∀ {ys : List PV}, (∀ y ∈ ys, ∃ i, y = .int i) → ∃ ns, ys = nums ns
  | [], _ => ⟨[], rfl⟩
  | y :: ys, h => by
    obtain ⟨i, rfl⟩ := h y (List.mem_cons_self ..)
    obtain ⟨ns, rfl⟩ := nums_of fun z hz => h z (List.mem_cons_of_mem _ hz)
    exact ⟨i :: ns, rfl⟩
theorem enum_mem {x : PV} : ∀ {xs : List PV} {i : Int}, x ∈ enumL i xs → ∃ j y, y ∈ xs ∧ x = .tup [.int j, y]
  | [], _, h => by simp [enumL] at h
  | y :: ys, i, h => by
    rw [enumL, List.mem_cons] at h
    rcases h with h | h
    · exact ⟨i, y, List.mem_cons_self .., h⟩
    · obtain ⟨j, z, hz, e⟩ := enum_mem h
      exact ⟨j, z, List.mem_cons_of_mem _ hz, e⟩
theorem enum_len : ∀ {xs : List PV} {i : Int}, (enumL i xs).length = xs.length
  | [], _ => rfl
  | y :: ys, i => by rw [enumL, List.length_cons, List.length_cons, enum_len]
theorem nums_mem {x : PV} {ns : List Int} (h : x ∈ nums ns) : ∃ i, i ∈ ns ∧ x = .int i := by
  obtain ⟨i, hi, e⟩ := List.mem_map.mp h
  exact ⟨i, hi, e.symm⟩
theorem cut_map {α β : Type} {f : α → β} {xs : List α} {lo hi : Option Int} : cutL (xs.map f) lo hi = (cutL xs lo hi).map f := by
  unfold cutL
  rw [List.map_take, List.map_drop, List.length_map]
theorem bnd_neg {n d : Nat} {v : Int} (h : v < 0) : bnd n d (some v) = (v + (n : Int)).toNat := if_pos h
theorem bnd_pos {n d : Nat} {v : Int} (h : 0 ≤ v) : bnd n d (some v) = min v.toNat n := if_neg (by omega)
theorem bnd_no {n d : Nat} : bnd n d none = d := rfl
theorem cut_init {α : Type} {xs : List α} : cutL xs none (some (-1)) = xs.dropLast := by
  unfold cutL
  rw [bnd_neg (by decide), bnd_no, List.drop_zero, List.dropLast_eq_take]
  congr 1
  omega
theorem cut_from {α : Type} {xs : List α} {k : Int} (h : 0 ≤ k) : cutL xs (some k) none = xs.drop k.toNat := by
  unfold cutL
  rw [bnd_pos h, bnd_no, List.take_of_length_le (by rw [List.length_drop]; omega)]
  by_cases q : k.toNat ≤ xs.length
  · rw [Nat.min_eq_left q]
  · rw [Nat.min_eq_right (by omega), List.drop_eq_nil_of_le (Nat.le_refl _), List.drop_eq_nil_of_le (by omega)]
theorem cut_to {α : Type} {xs : List α} {k : Int} (h : 0 ≤ k) : cutL xs none (some k) = xs.take k.toNat := by
  unfold cutL
  rw [bnd_pos h, bnd_no, List.drop_zero, Nat.sub_zero]
  by_cases q : k.toNat ≤ xs.length
  · rw [Nat.min_eq_left q]
  · rw [Nat.min_eq_right (by omega), List.take_of_length_le (Nat.le_refl _), List.take_of_length_le (by omega)]
theorem cut_both {α : Type} {xs : List α} {j k : Int} (h : 0 ≤ j) (hk : 0 ≤ k) : cutL xs (some j) (some k) = (xs.drop j.toNat).take (k.toNat - j.toNat) := by
  unfold cutL
  rw [bnd_pos h, bnd_pos hk]
  by_cases q : j.toNat ≤ xs.length
  · rw [Nat.min_eq_left q]
    by_cases r : k.toNat ≤ xs.length
    · rw [Nat.min_eq_left r]
    · rw [Nat.min_eq_right (by omega), List.take_of_length_le (by rw [List.length_drop]; omega), List.take_of_length_le (by rw [List.length_drop]; omega)]
  · have e : min j.toNat xs.length = xs.length := Nat.min_eq_right (by omega)
    rw [e, List.drop_eq_nil_of_le (Nat.le_refl _), List.drop_eq_nil_of_le (by omega : xs.length ≤ j.toNat)]
    simp
theorem cut_len {α : Type} {xs : List α} {lo hi : Option Int} : (cutL xs lo hi).length ≤ xs.length := by
  unfold cutL
  rw [List.length_take, List.length_drop]
  omega
theorem cut63 {α : Type} {xs : List α} : (cutL xs none (some 63)).length ≤ 63 := by
  rw [cut_to (by decide), List.length_take]
  exact Nat.min_le_left ..
theorem zipL_nums : ∀ {a b : List Int}, zipL (nums a) (nums b) = (a.zip b).map fun p => PV.tup [.int p.1, .int p.2]
  | [], _ => by rw [List.zip_nil_left]; rfl
  | _ :: _, [] => rfl
  | x :: a, y :: b => by
    show PV.tup [.int x, .int y] :: zipL (nums a) (nums b) = _
    rw [zipL_nums]
    rfl
/-- none, or a number -/
def optP : Option Int → PV
  | none => .non
  | some i => .int i
theorem still_same {S : Store} {v : PV} : still S v S := by cases v <;> first | rfl | trivial
theorem rng_len (lo : Int) (n : Nat) : (rngL lo n).length = n := by
  induction n generalizing lo with
  | zero => rfl
  | succ n ih => rw [rngL, List.length_cons, ih]
theorem rng_mem {x : PV} : ∀ {n : Nat} {lo : Int}, x ∈ rngL lo n → ∃ i, x = .int i ∧ lo ≤ i ∧ i < lo + n
  | 0, _, h => by simp [rngL] at h
  | n + 1, lo, h => by
    rw [rngL, List.mem_cons] at h
    rcases h with h | h
    · exact ⟨lo, h, by omega, by omega⟩
    · obtain ⟨i, e, h1, h2⟩ := rng_mem h
      exact ⟨i, e, by omega, by omega⟩
/-- the rows behind the n-th -/
def drp : Nat → RSs → RSs
  | 0, r => r
  | n + 1, .cons _ r => drp n r
  | _ + 1, .nil => .nil
/-! ### rows of pairs -/
abbrev prs (ps : List (Int × Int)) : List PV := ps.map fun p => PV.tup [.int p.1, .int p.2]
abbrev pds (ps : List (Int × Int)) : List PyData := ps.map fun p => PyData.tuple [.int p.1, .int p.2]
theorem dats_prs {S : Store} : ∀ ps : List (Int × Int), Dats S (prs ps) (pds ps)
  | [] => .nil
  | p :: ps => .cons (.tup (.cons (.int p.1) (.cons (.int p.2) .nil))) (dats_prs ps)
theorem can_prs : ∀ ps : List (Int × Int), PyData.canLayAll0 (pds ps) = true
  | [] => rfl
  | p :: ps => can_prs ps
theorem dep_prs : ∀ ps : List (Int × Int), PyData.depthAll (pds ps) ≤ 1
  | [] => by decide
  | p :: ps => by
    show max 1 (PyData.depthAll (pds ps)) ≤ 1
    have := dep_prs ps
    omega
theorem shaped_prs (ps : List (Int × Int)) : SeqAt.shaped (.list (pds ps)) = true ∧ SeqAt.shaped (.tuple (pds ps)) = true := by
  have e2 : PyData.canLay0 (.list (pds ps)) = true := can_prs ps
  have e3 : PyData.canLay0 (.tuple (pds ps)) = true := can_prs ps
  have d1 : PyData.depth (.list (pds ps)) ≤ 2 := by
    have := dep_prs ps
    show PyData.depthAll (pds ps) + 1 ≤ 2
    omega
  have d2 : PyData.depth (.tuple (pds ps)) ≤ 2 := d1
  unfold SeqAt.shaped
  rw [e2, e3]
  constructor <;> (simp; omega)
theorem pickL_len {α : Type} (xs : List α) {st : Int} (h : st ≠ 0) : (pickL xs st).length ≤ xs.length := by
  unfold pickL
  refine Nat.le_trans (List.length_filterMap_le ..) ?_
  refine sliceRange_length_le _ _ _ _ (fun hp => ?_) fun hp => ?_
  all_goals simp only [sliceBounds, Option.getD_some] at hp ⊢
  · rw [if_pos hp, if_pos hp]
    exact ⟨by omega, by omega⟩
  · rw [if_neg hp, if_neg hp]
    exact ⟨by omega, by omega⟩
theorem pick_mem {α : Type} {xs : List α} {st : Int} {v : α} (h : v ∈ pickL xs st) : v ∈ xs := by
  unfold pickL at h
  obtain ⟨i, _, e⟩ := List.mem_filterMap.mp h
  exact List.mem_of_getElem? e
theorem eqv_nums (ns : List Int) : PyData.eqv (.list (ns.map .int)) (.list (ns.map .int)) = true := PySem.SeqAt.eqv_refl _ (can_ints ns)
theorem eqv_prs (ps : List (Int × Int)) : PyData.eqv (.tuple (pds ps)) (.tuple (pds ps)) = true := PySem.SeqAt.eqv_refl _ (can_prs ps)
end Rp
namespace Rp
namespace Lw
open PySem PySem.Spec PyProof.Rows
/-- turns_of -/
def nn0 : List String := ["pieces", "found", "at", "beats", "speed"]
def bb0_0 : RSs := (.cons (.expr (.meth (.loc 1) "append" (some .append) (.cons (.tup (.cons (.loc 2) (.cons (.loc 4) .nil))) .nil) [] .nil [])) .nil)
def bb0_1 : RSs := (.cons (.ife (.or (.cons (.cmp .Eq (.loc 1) (.lst .nil)) (.cons (.cmp .NotEq (.sub (.sub (.loc 1) (.neg (.const (.int 1)))) (.const (.int 1))) (.loc 4)) .nil))) bb0_0 .nil) (.cons (.aug 2 .Add (.loc 3)) .nil))
def bb0 : RSs := (.cons (.asg (.name 1) (.lst .nil)) (.cons (.asg (.name 2) (.const (.int 0))) (.cons (.for_ (.tup (.cons (.name 3) (.cons (.name 4) .nil))) (.val (.loc 0)) bb0_1) (.cons (.ret (.loc 1)) .nil))))
/-- pieces_by -/
def nn1 : List String := ["turns", "end", "first", "later", "found", "at", "speed"]
def bb1_0 : RSs := (.cons (.expr (.meth (.loc 4) "append" (some .append) (.cons (.tup (.cons (.bin .Sub (.loc 5) (.sub (.loc 2) (.const (.int 0)))) (.cons (.sub (.loc 2) (.const (.int 1))) .nil))) .nil) [] .nil [])) (.cons (.asg (.name 2) (.tup (.cons (.loc 5) (.cons (.loc 6) .nil)))) .nil))
def bb1 : RSs := (.cons (.asg (.tup (.cons (.name 2) (.star 3))) (.loc 0)) (.cons (.asg (.name 4) (.lst .nil)) (.cons (.for_ (.tup (.cons (.name 5) (.cons (.name 6) .nil))) (.val (.loc 3)) bb1_0) (.cons (.ret (.blt .tuple (.cons (.bin .Add (.loc 4) (.lst (.cons (.tup (.cons (.blt .max (.cons (.const (.int 1)) (.cons (.bin .Sub (.loc 1) (.sub (.loc 2) (.const (.int 0)))) .nil))) (.cons (.sub (.loc 2) (.const (.int 1))) .nil))) .nil))) .nil))) .nil))))
/-- Road.__init__ -/
def nn2 : List String := ["self", "pieces"]
def bb2 : RSs := (.cons (.asg (.fld (.loc 0) "pieces") (.loc 1)) .nil)
/-- Road.__eq__ -/
def nn3 : List String := ["self", "other"]
def bb3 : RSs := (.cons (.ret (.and (.cons (.blt .isinstance (.cons (.loc 1) (.cons (.glob "Road" (.cls 0)) .nil))) (.cons (.cmp .Eq (.call 0 "turns_of" (.cons (.fld (.loc 1) "pieces") .nil) [] .nil [.inl 0]) (.call 0 "turns_of" (.cons (.fld (.loc 0) "pieces") .nil) [] .nil [.inl 0])) .nil)))) .nil)
/-- Road.__len__ -/
def nn4 : List String := ["self", "beats", "speed"]
def bb4 : RSs := (.cons (.ret (.lenR (.blt .sum (.cons (.lc (.loc 1) (.tup (.cons (.name 1) (.cons (.name 2) .nil))) (.val (.fld (.loc 0) "pieces")) .nil [1, 2]) .nil)))) .nil)
/-- Road.speed_at -/
def nn5 : List String := ["self", "beat", "left", "beats", "speed"]
def bb5_0 : RSs := (.cons (.ret (.loc 4)) .nil)
def bb5_1 : RSs := (.cons (.ife (.cmp .Lt (.loc 2) (.loc 3)) bb5_0 .nil) (.cons (.aug 2 .Sub (.loc 3)) .nil))
def bb5 : RSs := (.cons (.asg (.name 2) (.loc 1)) (.cons (.for_ (.tup (.cons (.name 3) (.cons (.name 4) .nil))) (.val (.fld (.loc 0) "pieces")) bb5_1) (.cons (.ret (.sub (.sub (.fld (.loc 0) "pieces") (.neg (.const (.int 1)))) (.const (.int 1)))) .nil)))
/-- Road.sum_of -/
def nn6 : List String := ["self", "first", "last", "found", "at", "beats", "speed"]
def bb6_0 : RSs := (.cons (.aug 3 .Add (.bin .Mult (.loc 6) (.blt .max (.cons (.const (.int 0)) (.cons (.bin .Sub (.blt .min (.cons (.loc 2) (.cons (.bin .Add (.loc 4) (.loc 5)) .nil))) (.blt .max (.cons (.loc 1) (.cons (.loc 4) .nil)))) .nil))))) (.cons (.aug 4 .Add (.loc 5)) .nil))
def bb6 : RSs := (.cons (.asg2 (.name 3) (.name 4) (.const (.int 0))) (.cons (.for_ (.tup (.cons (.name 5) (.cons (.name 6) .nil))) (.val (.fld (.loc 0) "pieces")) bb6_0) (.cons (.ret (.bin .Add (.loc 3) (.bin .Mult (.sub (.sub (.fld (.loc 0) "pieces") (.neg (.const (.int 1)))) (.const (.int 1))) (.blt .max (.cons (.const (.int 0)) (.cons (.bin .Sub (.loc 2) (.blt .max (.cons (.loc 1) (.cons (.loc 4) .nil)))) .nil)))))) .nil)))
/-- Road.fetched -/
def nn7 : List String := ["self", "begin", "size", "wait", "here", "left", "at", "beats", "speed"]
def bb7_0 : RSs := (.cons (.aug 5 .Sub (.bin .Mult (.loc 8) (.bin .Sub (.loc 6) (.loc 4)))) (.cons (.asg (.name 4) (.loc 6)) .nil))
def bb7_1 : RSs := (.cons (.ret (.bin .Sub (.loc 4) (.bin .FloorDiv (.neg (.loc 5)) (.loc 8)))) .nil)
def bb7_2 : RSs := (.cons (.ife (.cmp .Lt (.loc 4) (.loc 6)) bb7_1 .nil) .nil)
def bb7_3 : RSs := (.cons (.aug 6 .Add (.loc 7)) (.cons (.ife (.and (.cons (.cmp .Lt (.loc 4) (.loc 6)) (.cons (.cmp .Gt (.loc 5) (.bin .Mult (.loc 8) (.bin .Sub (.loc 6) (.loc 4)))) .nil))) bb7_0 bb7_2) .nil))
def bb7 : RSs := (.cons (.asg (.name 4) (.bin .Add (.loc 1) (.loc 3))) (.cons (.asg (.name 5) (.loc 2)) (.cons (.asg (.name 6) (.const (.int 0))) (.cons (.for_ (.tup (.cons (.name 7) (.cons (.name 8) .nil))) (.val (.slice (.fld (.loc 0) "pieces") .none (.some (.neg (.const (.int 1)))) .none)) bb7_3) (.cons (.ret (.bin .Sub (.loc 4) (.bin .FloorDiv (.neg (.loc 5)) (.sub (.sub (.fld (.loc 0) "pieces") (.neg (.const (.int 1)))) (.const (.int 1)))))) .nil)))))
/-- known -/
def nn8 : List String := ["speeds", "speed"]
def bb8 : RSs := (.cons (.ret (.make 0 "Road" (.cons (.call 1 "pieces_by" (.cons (.call 0 "turns_of" (.cons (.lc (.tup (.cons (.const (.int 1)) (.cons (.loc 1) .nil))) (.name 1) (.val (.loc 0)) .nil [1]) .nil) [] .nil [.inl 0]) (.cons (.blt .len (.cons (.loc 0) .nil)) .nil)) [] .nil [.inl 0, .inl 1]) .nil) [] .nil [.inl 0])) .nil)
/-- _law_deck -/
def nn9 : List String := ["_law_script", "_law_cells", "_law_seed", "_law_cell"]
def bb9_0 : RSs := (.cons (.asg (.name 2) (.bin .Mod (.bin .Add (.bin .Add (.bin .Mult (.loc 2) (.const (.int 69621))) (.bin .Mod (.loc 3) (.const (.int 2147483587)))) (.const (.int 13))) (.const (.int 2147483629)))) .nil)
def bb9 : RSs := (.cons (.asg (.name 1) (.blt .list (.cons (.slice (.loc 0) .none (.some (.const (.int 63))) .none) .nil))) (.cons (.asg (.name 2) (.const (.int 23))) (.cons (.for_ (.name 3) (.val (.loc 1)) bb9_0) (.cons (.ret (.lst (.cons (.slice (.loc 1) .none .none (some (-1))) (.cons (.loc 2) (.cons (.const (.int 0)) .nil))))) .nil))))
/-- _law_draw -/
def nn10 : List String := ["_law_deck_here", "_law_ways", "_law_cell", "_law_number"]
def bb10_0 : RSs := (.cons (.expr (.meth (.sub (.loc 0) (.const (.int 0))) "append" (some .append) (.cons (.bin .FloorDiv (.loc 2) (.loc 1)) .nil) [] .nil [])) (.cons (.ret (.bin .Mod (.loc 2) (.loc 1))) .nil))
def bb10_1 : RSs := (.cons (.asg (.name 2) (.meth (.sub (.loc 0) (.const (.int 0))) "pop" (some .pop) .nil [] .nil [])) (.cons (.ife (.cmp .GtE (.loc 2) (.bin .Pow (.const (.int 10)) (.const (.int 18)))) bb10_0 .nil) .nil))
def bb10 : RSs := (.cons (.asg (.sub (.loc 0) (.const (.int 2))) (.bin .Add (.sub (.loc 0) (.const (.int 2))) (.const (.int 1)))) (.cons (.asg (.name 2) (.sub (.loc 0) (.const (.int 1)))) (.cons (.ife (.cmp .NotEq (.sub (.loc 0) (.const (.int 0))) (.lst .nil)) bb10_1 .nil) (.cons (.asg (.name 3) (.bin .Mod (.bin .Mult (.bin .Add (.bin .Add (.bin .Mod (.loc 2) (.const (.int 2147483629))) (.bin .Mult (.const (.int 104729)) (.sub (.loc 0) (.const (.int 2))))) (.const (.int 41))) (.const (.int 48271))) (.const (.int 2147483647)))) (.cons (.asg (.name 3) (.bin .Mod (.bin .Add (.bin .Add (.bin .Mult (.loc 3) (.loc 3)) (.bin .Mult (.const (.int 69621)) (.sub (.loc 0) (.const (.int 2))))) (.const (.int 3))) (.const (.int 2147483587)))) (.cons (.ret (.bin .Mod (.bin .FloorDiv (.bin .Mod (.bin .Mult (.loc 3) (.bin .Add (.bin .FloorDiv (.loc 3) (.const (.int 7))) (.const (.int 39373)))) (.const (.int 2147483563))) (.const (.int 64))) (.loc 1))) .nil))))))
/-- _law_great -/
def nn11 : List String := ["_law_deck_here", "_law_found", "_law_k", "_law_beats", "_law_speed"]
def bb11_0 : RSs := (.cons (.asg (.name 3) (.sub (.lst (.cons (.const (.int 50)) (.cons (.bin .Add (.const (.int 1)) (.call 10 "_law_draw" (.cons (.loc 0) (.cons (.const (.int 50)) .nil)) [] .nil [.inl 0, .inl 1])) (.cons (.const (.int 49)) .nil)))) (.call 10 "_law_draw" (.cons (.loc 0) (.cons (.const (.int 3)) .nil)) [] .nil [.inl 0, .inl 1]))) (.cons (.asg (.name 4) (.sub (.lst (.cons (.const (.int 0)) (.cons (.bin .Mult (.const (.int 2)) (.call 10 "_law_draw" (.cons (.loc 0) (.cons (.const (.int 501)) .nil)) [] .nil [.inl 0, .inl 1])) (.cons (.const (.int 2)) (.cons (.const (.int 1000)) (.cons (.bin .Mult (.const (.int 2)) (.call 10 "_law_draw" (.cons (.loc 0) (.cons (.const (.int 6)) .nil)) [] .nil [.inl 0, .inl 1])) .nil)))))) (.call 10 "_law_draw" (.cons (.loc 0) (.cons (.const (.int 5)) .nil)) [] .nil [.inl 0, .inl 1]))) (.cons (.expr (.meth (.loc 1) "append" (some .append) (.cons (.tup (.cons (.loc 3) (.cons (.loc 4) .nil))) .nil) [] .nil [])) .nil)))
def bb11 : RSs := (.cons (.asg (.name 1) (.lst .nil)) (.cons (.for_ (.name 2) (.range (.cons (.const (.int 12)) .nil)) bb11_0) (.cons (.ret (.blt .tuple (.cons (.bin .Add (.slice (.loc 1) .none (.some (.neg (.const (.int 1)))) .none) (.lst (.cons (.tup (.cons (.sub (.sub (.loc 1) (.neg (.const (.int 1)))) (.const (.int 0))) (.cons (.blt .max (.cons (.const (.int 2)) (.cons (.sub (.sub (.loc 1) (.neg (.const (.int 1)))) (.const (.int 1))) .nil))) .nil))) .nil))) .nil))) .nil)))
/-- _law_trip -/
def nn12 : List String := ["_law_deck_here", "_law_road", "_law_found", "_law_at", "_law_k", "_law_size", "_law_waited", "_law_ended_at"]
def bb12_0 : RSs := (.cons (.expr (.meth (.loc 2) "append" (some .append) (.cons (.tup (.cons (.loc 3) (.cons (.loc 5) (.cons (.loc 6) (.cons (.loc 7) .nil))))) .nil) [] .nil [])) (.cons (.asg (.name 3) (.loc 7)) .nil))
def bb12_1 : RSs := (.cons (.asg (.name 5) (.sub (.lst (.cons (.const (.int 1)) (.cons (.bin .Add (.const (.int 1)) (.call 10 "_law_draw" (.cons (.loc 0) (.cons (.const (.int 1000)) .nil)) [] .nil [.inl 0, .inl 1])) (.cons (.bin .Add (.const (.int 1)) (.call 10 "_law_draw" (.cons (.loc 0) (.cons (.const (.int 9999)) .nil)) [] .nil [.inl 0, .inl 1])) .nil)))) (.call 10 "_law_draw" (.cons (.loc 0) (.cons (.const (.int 3)) .nil)) [] .nil [.inl 0, .inl 1]))) (.cons (.asg (.name 6) (.sub (.lst (.cons (.const (.int 0)) (.cons (.call 10 "_law_draw" (.cons (.loc 0) (.cons (.const (.int 12)) .nil)) [] .nil [.inl 0, .inl 1]) (.cons (.const (.int 400)) .nil)))) (.call 10 "_law_draw" (.cons (.loc 0) (.cons (.const (.int 3)) .nil)) [] .nil [.inl 0, .inl 1]))) (.cons (.asg (.name 7) (.meth (.loc 1) "fetched" .none (.cons (.loc 3) (.cons (.loc 5) .nil)) ["wait"] (.cons (.loc 6) .nil) [.inl 0, .inl 1, .inl 2])) (.cons (.ife (.or (.cons (.cmp .Eq (.loc 2) (.lst .nil)) (.cons (.cmp .Lt (.loc 7) (.const (.int 9900))) .nil))) bb12_0 .nil) .nil))))
def bb12 : RSs := (.cons (.asg (.name 2) (.lst .nil)) (.cons (.asg (.name 3) (.sub (.lst (.cons (.const (.int 0)) (.cons (.call 10 "_law_draw" (.cons (.loc 0) (.cons (.const (.int 600)) .nil)) [] .nil [.inl 0, .inl 1]) (.cons (.const (.int 600)) .nil)))) (.call 10 "_law_draw" (.cons (.loc 0) (.cons (.const (.int 3)) .nil)) [] .nil [.inl 0, .inl 1]))) (.cons (.for_ (.name 4) (.range (.cons (.const (.int 12)) .nil)) bb12_1) (.cons (.ret (.loc 2)) .nil))))
/-- _law_trip_right -/
def nn13 : List String := ["_law_road", "_law_trip_here", "_law_at", "_law_size", "_law_waited", "_law_ended_at"]
def bb13_0 : RSs := (.cons (.ret (.const (.bl false))) .nil)
def bb13_1 : RSs := (.cons (.ret (.const (.bl false))) .nil)
def bb13_2 : RSs := (.cons (.ret (.const (.bl false))) .nil)
def bb13_3 : RSs := (.cons (.ife (.or (.cons (.cmp .LtE (.loc 5) (.bin .Add (.loc 2) (.loc 4))) (.cons (.cmp .Lt (.meth (.loc 0) "sum_of" .none (.cons (.bin .Add (.loc 2) (.loc 4)) (.cons (.loc 5) .nil)) [] .nil [.inl 0, .inl 1]) (.loc 3)) .nil))) bb13_2 .nil) (.cons (.ife (.or (.cons (.cmp .GtE (.meth (.loc 0) "sum_of" .none (.cons (.bin .Add (.loc 2) (.loc 4)) (.cons (.bin .Sub (.loc 5) (.const (.int 1))) .nil)) [] .nil [.inl 0, .inl 1]) (.loc 3)) (.cons (.cmp .Lt (.meth (.loc 0) "fetched" .none (.cons (.loc 2) (.cons (.bin .Add (.loc 3) (.const (.int 1))) .nil)) ["wait"] (.cons (.loc 4) .nil) [.inl 0, .inl 1, .inl 2]) (.loc 5)) .nil))) bb13_1 .nil) (.cons (.ife (.or (.cons (.cmp .Lt (.meth (.loc 0) "fetched" .none (.cons (.bin .Add (.loc 2) (.const (.int 1))) (.cons (.loc 3) .nil)) ["wait"] (.cons (.loc 4) .nil) [.inl 0, .inl 1, .inl 2]) (.loc 5)) (.cons (.cmp .NotEq (.meth (.loc 0) "fetched" .none (.cons (.bin .Add (.loc 2) (.loc 4)) (.cons (.loc 3) .nil)) [] .nil [.inl 0, .inl 1, .inr (.int 0)]) (.loc 5)) .nil))) bb13_0 .nil) .nil)))
def bb13 : RSs := (.cons (.for_ (.tup (.cons (.name 2) (.cons (.name 3) (.cons (.name 4) (.cons (.name 5) .nil))))) (.val (.loc 1)) bb13_3) (.cons (.ret (.const (.bl true))) .nil))
/-- _law_together_right -/
def nn14 : List String := ["_law_road", "_law_trip_here", "_law_sizes", "_law_start", "_law_at", "_law_size", "_law_first", "_law_begun_at", "_law_waited", "_law_ended_at"]
def bb14_0 : RSs := (.cons (.ret (.const (.bl false))) .nil)
def bb14_1 : RSs := (.cons (.asg (.name 4) (.meth (.loc 0) "fetched" .none (.cons (.loc 4) (.cons (.loc 5) .nil)) [] .nil [.inl 0, .inl 1, .inr (.int 0)])) .nil)
def bb14 : RSs := (.cons (.setlc 2 (.blt .min (.cons (.loc 5) (.cons (.const (.int 1500)) .nil))) (.tup (.cons (.name 7) (.cons (.name 5) (.cons (.name 8) (.cons (.name 9) .nil))))) (.val (.slice (.loc 1) .none (.some (.const (.int 6))) .none)) .nil [7, 5, 8, 9]) (.cons (.asg (.name 3) (.sub (.sub (.loc 1) (.const (.int 0))) (.const (.int 0)))) (.cons (.asg (.name 4) (.loc 3)) (.cons (.for_ (.name 5) (.val (.loc 2)) bb14_1) (.cons (.ife (.cmp .Lt (.loc 4) (.meth (.loc 0) "fetched" .none (.cons (.loc 3) (.cons (.blt .sum (.cons (.loc 2) .nil)) .nil)) [] .nil [.inl 0, .inl 1, .inr (.int 0)])) bb14_0 .nil) (.cons (.asg (.name 6) (.meth (.loc 0) "fetched" .none (.cons (.loc 3) (.cons (.sub (.loc 2) (.const (.int 0))) .nil)) [] .nil [.inl 0, .inl 1, .inr (.int 0)])) (.cons (.ret (.cmp .Eq (.meth (.loc 0) "fetched" .none (.cons (.loc 3) (.cons (.meth (.loc 0) "sum_of" .none (.cons (.loc 3) (.cons (.loc 6) .nil)) [] .nil [.inl 0, .inl 1]) .nil)) [] .nil [.inl 0, .inl 1, .inr (.int 0)]) (.loc 6))) .nil)))))))
/-- _law_turned_right -/
def nn15 : List String := ["_law_pieces", "_law_trip_here", "_law_small", "_law_road", "_law_thrice", "_law_halves", "_law_at", "_law_size", "_law_waited", "_law_ended_at", "_law_some", "_law_later", "_law_due", "_law_beats", "_law_speed"]
def bb15_0 : RSs := (.cons (.ret (.const (.bl false))) .nil)
def bb15_1 : RSs := (.cons (.ret (.const (.bl false))) .nil)
def bb15_2 : RSs := (.cons (.par [10, 11] (.cons (.bin .Add (.const (.int 1)) (.bin .Mod (.loc 7) (.const (.int 3000)))) (.cons (.bin .Mod (.loc 8) (.const (.int 200))) .nil))) (.cons (.asg (.name 12) (.meth (.loc 3) "fetched" .none (.cons (.bin .Mod (.loc 6) (.const (.int 300))) (.cons (.loc 10) .nil)) ["wait"] (.cons (.loc 11) .nil) [.inl 0, .inl 1, .inl 2])) (.cons (.ife (.cmp .NotEq (.meth (.loc 4) "fetched" .none (.cons (.bin .Mod (.loc 6) (.const (.int 300))) (.cons (.bin .Mult (.const (.int 3)) (.loc 10)) .nil)) ["wait"] (.cons (.loc 11) .nil) [.inl 0, .inl 1, .inl 2]) (.loc 12)) bb15_1 .nil) (.cons (.ife (.cmp .NotEq (.bin .FloorDiv (.bin .Add (.meth (.loc 5) "fetched" .none (.cons (.bin .Mult (.const (.int 2)) (.bin .Mod (.loc 6) (.const (.int 300)))) (.cons (.loc 10) .nil)) ["wait"] (.cons (.bin .Mult (.const (.int 2)) (.loc 11)) .nil) [.inl 0, .inl 1, .inl 2]) (.const (.int 1))) (.const (.int 2))) (.loc 12)) bb15_0 .nil) .nil))))
def bb15 : RSs := (.cons (.asg (.name 2) (.bin .Add (.blt .tuple (.cons (.lc (.tup (.cons (.bin .Add (.const (.int 1)) (.bin .FloorDiv (.loc 13) (.const (.int 2)))) (.cons (.bin .Mult (.bin .FloorDiv (.loc 14) (.const (.int 6))) (.const (.int 2))) .nil))) (.tup (.cons (.name 13) (.cons (.name 14) .nil))) (.val (.slice (.loc 0) .none (.some (.neg (.const (.int 1)))) .none)) .nil [13, 14]) .nil)) (.tup (.cons (.tup (.cons (.const (.int 9)) (.cons (.const (.int 2)) .nil))) .nil)))) (.cons (.asg (.name 3) (.make 0 "Road" (.cons (.blt .tuple (.cons (.lc (.tup (.cons (.blt .min (.cons (.const (.int 25)) (.cons (.loc 13) .nil))) (.cons (.loc 14) .nil))) (.tup (.cons (.name 13) (.cons (.name 14) .nil))) (.val (.loc 2)) .nil [13, 14]) .nil)) .nil) [] .nil [.inl 0])) (.cons (.asg (.name 4) (.make 0 "Road" (.cons (.blt .tuple (.cons (.lc (.tup (.cons (.loc 13) (.cons (.bin .Mult (.const (.int 3)) (.loc 14)) .nil))) (.tup (.cons (.name 13) (.cons (.name 14) .nil))) (.val (.fld (.loc 3) "pieces")) .nil [13, 14]) .nil)) .nil) [] .nil [.inl 0])) (.cons (.asg (.name 5) (.make 0 "Road" (.cons (.blt .tuple (.cons (.lc (.tup (.cons (.bin .Mult (.const (.int 2)) (.loc 13)) (.cons (.bin .FloorDiv (.loc 14) (.const (.int 2))) .nil))) (.tup (.cons (.name 13) (.cons (.name 14) .nil))) (.val (.fld (.loc 3) "pieces")) .nil [13, 14]) .nil)) .nil) [] .nil [.inl 0])) (.cons (.for_ (.tup (.cons (.name 6) (.cons (.name 7) (.cons (.name 8) (.cons (.name 9) .nil))))) (.val (.loc 1)) bb15_2) (.cons (.ret (.const (.bl true))) .nil))))))
/-- law -/
def nn16 : List String := ["_law_script", "_law_deck_here", "_law_made", "_law_turn", "_law_pieces", "_law_road", "_law_trip_here", "_law_speeds", "_law_beat"]
def bb16_0 : RSs := (.cons (.ret (.const (.bl false))) .nil)
def bb16_1 : RSs := (.cons (.ret (.const (.bl false))) .nil)
def bb16_2 : RSs := (.cons (.ret (.const (.bl false))) .nil)
def bb16_3 : RSs := (.cons (.ife (.or (.cons (.not (.call 13 "_law_trip_right" (.cons (.loc 5) (.cons (.loc 6) .nil)) [] .nil [.inl 0, .inl 1])) (.cons (.not (.call 14 "_law_together_right" (.cons (.loc 5) (.cons (.loc 6) .nil)) [] .nil [.inl 0, .inl 1])) .nil))) bb16_2 .nil) (.cons (.ife (.not (.call 15 "_law_turned_right" (.cons (.loc 4) (.cons (.loc 6) .nil)) [] .nil [.inl 0, .inl 1])) bb16_1 .nil) (.cons (.setlc 7 (.meth (.loc 5) "speed_at" .none (.cons (.loc 8) .nil) [] .nil [.inl 0]) (.name 8) (.range (.cons (.bltO .len (.loc 5)) .nil)) .nil [8]) (.cons (.ife (.or (.cons (.not (.eqO false (.call 8 "known" (.cons (.blt .tuple (.cons (.loc 7) .nil)) .nil) [] .nil [.inl 0]) (.loc 5))) (.cons (.cmp .NotEq (.blt .sum (.cons (.loc 7) .nil)) (.meth (.loc 5) "sum_of" .none (.cons (.const (.int 0)) (.cons (.bltO .len (.loc 5)) .nil)) [] .nil [.inl 0, .inl 1])) (.cons (.cmp .NotEq (.fld (.loc 5) "pieces") (.loc 4)) .nil)))) bb16_0 .nil) .nil))))
def bb16_4 : RSs := (.cons (.asg (.name 4) (.call 11 "_law_great" (.cons (.loc 1) .nil) [] .nil [.inl 0])) (.cons (.asg (.name 5) (.make 0 "Road" (.cons (.loc 4) .nil) [] .nil [.inl 0])) (.cons (.expr (.meth (.loc 2) "append" (some .append) (.cons (.tup (.cons (.loc 4) (.cons (.loc 5) (.cons (.call 12 "_law_trip" (.cons (.loc 1) (.cons (.loc 5) .nil)) [] .nil [.inl 0, .inl 1]) .nil)))) .nil) [] .nil [])) .nil)))
def bb16 : RSs := (.cons (.asg (.name 1) (.call 9 "_law_deck" (.cons (.loc 0) .nil) [] .nil [.inl 0])) (.cons (.asg (.name 2) (.lst .nil)) (.cons (.for_ (.name 3) (.range (.cons (.const (.int 2)) .nil)) bb16_4) (.cons (.for_ (.tup (.cons (.name 4) (.cons (.name 5) (.cons (.name 6) .nil)))) (.val (.bin .Add (.loc 2) (.slice (.loc 2) .none .none (some (-1))))) bb16_3) (.cons (.ret (.const (.bl true))) .nil)))))
def tab : Tab := ⟨[⟨nn0, 1, bb0⟩, ⟨nn1, 2, bb1⟩, ⟨nn2, 2, bb2⟩, ⟨nn3, 2, bb3⟩, ⟨nn4, 1, bb4⟩, ⟨nn5, 2, bb5⟩, ⟨nn6, 3, bb6⟩, ⟨nn7, 4, bb7⟩, ⟨nn8, 1, bb8⟩, ⟨nn9, 1, bb9⟩, ⟨nn10, 2, bb10⟩, ⟨nn11, 1, bb11⟩, ⟨nn12, 2, bb12⟩, ⟨nn13, 2, bb13⟩, ⟨nn14, 2, bb14⟩, ⟨nn15, 2, bb15⟩, ⟨nn16, 1, bb16⟩], [⟨some 2, [("__eq__", 3), ("__len__", 4), ("speed_at", 5), ("sum_of", 6), ("fetched", 7)], [0]⟩]⟩
end Lw
end Rp
namespace Rp
namespace Lw
open PySem
/-! ### the deck: the cells, a number of them all, how many draws there were -/
structure Deck (S : Store) (d c : Nat) : Prop where
  ne : c ≠ d
  at_ : ∃ (cells : List Int) (a n : Int), S[d]? = some (.lst [.ref c, .int a, .int n]) ∧ S[c]? = some (.lst (nums cells)) ∧ cells.length ≤ 63
abbrev two_ (d c : Nat) : Nat → Prop := fun i => i = d ∨ i = c
theorem Deck.kp {S S' : Store} {d c : Nat} (D : Deck S d c) (k : Kp no S S') : Deck S' d c := by
  obtain ⟨ne, cells, a, n, h1, h2, h3⟩ := D
  exact ⟨ne, cells, a, n, k.at_ _ _ (fun z => z) h1, k.at_ _ _ (fun z => z) h2, h3⟩
theorem Deck.lt {S : Store} {d c : Nat} (D : Deck S d c) : d < S.length ∧ c < S.length := by
  obtain ⟨ne, cells, a, n, h1, h2, h3⟩ := D
  exact ⟨lt_of_at h1, lt_of_at h2⟩
theorem Deck.app {S l : Store} {d c : Nat} (D : Deck S d c) : Deck (S ++ l) d c := D.kp (Kp.refl.app (l := l))
theorem Deck.put {S : Store} {d c p : Nat} {o : SO} (D : Deck S d c) (h1 : p ≠ d) (h2 : p ≠ c) : Deck (S.set p o) d c := by
  obtain ⟨ne, cells, a, n, e1, e2, h3⟩ := D
  exact ⟨ne, cells, a, n, set_ne h1 e1, set_ne h2 e2, h3⟩
theorem Deck.new {S : Store} {d c : Nat} (D : Deck S d c) : ¬ two_ d c S.length := fun z => by
  have := D.lt
  rcases z with z | z <;> omega
theorem div_of {n : Int} (h0 : 0 < n) (h1 : n < 1073741824) : divOk n := ⟨h0, h1⟩
/-- a draw tells some number below the bound -/
def DrawOk (C : CS) : Prop := ∀ {S : Store} {d c : Nat} {many : Int} {Q : QV} {R : QX}, Deck S d c → divOk many → (∀ r S', 0 ≤ r → r < many → Deck S' d c → Kp (two_ d c) S S' → Q (.int r) S') → C 10 [.ref d, .int many] S Q R
/-- draw's last three rows -/
def tail3 : RSs := match bb10 with
  | .cons _ (.cons _ (.cons _ r)) => r
  | _ => .nil
theorem draw_ok {C : CS} : DrawOk (bodyC tab C) := by
  intro S d c many Q R D hm h
  obtain ⟨ne, cells, a, n, hd, hc, hl⟩ := D
  have pm : 0 < many := hm.1
  refine ⟨_, rfl, rfl, ?_⟩
  refine ⟨_, rfl, _, _, items_ref hd, rfl, ?_⟩
  refine ⟨_, rfl, _, hd, by decide, by simp, ?_⟩
  have hd1 := set_at (o' := .lst [.ref c, .int a, .int (n + 1)]) hd
  have hc1 := set_ne (o' := .lst [.ref c, .int a, .int (n + 1)]) (Ne.symm ne) hc
  refine ⟨_, rfl, _, _, items_ref hd1, rfl, ?_⟩
  refine ⟨_, rfl, _, _, items_ref hd1, rfl, ?_⟩
  have hd2 := app_at (l := [SO.lst []]) hd1
  have hc2 := app_at (l := [SO.lst []]) hc1
  have k2 : Kp (two_ d c) S (S.set d (.lst [.ref c, .int a, .int (n + 1)]) ++ [SO.lst []]) := (Kp.refl.set (.inr (.inl rfl))).app
  refine ⟨.list (cells.map .int), .list [], .lst hc2 (dats_int cells), .lst app_new .nil, shaped_ints cells, by decide, ?_⟩
  have fin : ∀ (S2 : Store) (cells2 : List Int) (cell : Int), S2[d]? = some (.lst [.ref c, .int a, .int (n + 1)]) → S2[c]? = some (.lst (nums cells2)) → cells2.length ≤ 63 → Kp (two_ d c) S S2 →
      wpSs tab C tail3 [some (.ref d), some (.int many), some (.int cell), none] S2 { nx := fun _ S' => Q .non S', rt := Q, ex := fun x _ S' => R x S' } := by
    intro S2 cells2 cell e1 e2 e3 e4
    refine ⟨_, rfl, by decide, _, rfl, _, _, items_ref e1, rfl, .inl (by decide), .inr (.inl (by decide)), by decide, ?_⟩
    refine ⟨_, rfl, _, rfl, .inl (fit_mod (by decide) (by decide)), _, rfl, _, _, items_ref e1, rfl, .inl (by decide), by decide, ?_⟩
    refine ⟨_, rfl, _, rfl, ⟨by decide, by decide⟩, .inl (fit_mod (by decide) (by decide)), by decide, ⟨by decide, by decide⟩, _, rfl, pm, ?_⟩
    exact h _ S2 (Int.emod_nonneg _ (by omega)) (Int.emod_lt_of_pos _ pm) ⟨ne, cells2, a, n + 1, e1, e2, e3⟩ e4
  rcases List.eq_nil_or_concat cells with e0 | ⟨L, b, e0⟩
  · subst e0
    exact fin _ [] a hd2 hc2 hl k2
  · rw [List.concat_eq_append] at e0
    subst e0
    have e1 : PyData.eqv (.list ((L ++ [b]).map .int)) (.list []) = false := by cases L <;> rfl
    have e2 : (!PyData.eqv (.list ((L ++ [b]).map .int)) (.list [])) = true := by rw [e1] <;> rfl
    refine iteT e2 ?_
    refine ⟨_, rfl, _, _, items_ref hd2, rfl, ?_⟩
    refine pop_ok hc2 ?_
    rw [nums_app] at hc2
    refine ⟨_, _, hc2, ?_⟩
    have hd3 := set_ne (o' := .lst (L.map .int)) ne hd2
    have hc3 := set_at (o' := .lst (L.map .int)) hc2
    have hL : L.length + 1 ≤ 63 := by simpa using hl
    have k3 := k2.set (p := c) (o' := .lst (nums L)) (.inr (.inr rfl))
    refine ⟨_, rfl, ⟨by decide, by decide, by decide⟩, ?_⟩
    refine iteD (fun hb => ?_) (fun hb => ?_)
    · refine ⟨_, rfl, _, _, items_ref hd3, rfl, ?_⟩
      refine app_ok hc3 ?_
      refine ⟨_, rfl, _, rfl, hm, _, hc3, by rw [List.length_map]; show L.length < 16777216; omega, ?_⟩
      refine ⟨_, rfl, _, rfl, pm, ?_⟩
      refine h _ _ (Int.emod_nonneg _ (by omega)) (Int.emod_lt_of_pos _ pm) ⟨ne, L ++ [b / many], a, n + 1, set_ne ne hd3, ?_, by simpa using hL⟩ (k3.set (.inr (.inr rfl)))
      rw [nums_app]
      exact set_at hc3
    · exact fin _ L b hd3 hc3 (by omega) k3
/-- the deck is opened -/
def OpenOk (C : CS) : Prop := ∀ {S : Store} {ns : List Int} {Q : QV} {R : QX}, (∀ d c S', Deck S' d c → Kp no S S' → Q (.ref d) S') → C 9 [.scr (nums ns)] S Q R
theorem open_ok {C : CS} : OpenOk (bodyC tab C) := by
  intro S ns Q R h
  refine ⟨_, rfl, rfl, ?_⟩
  refine ⟨_, rfl, _, rfl, _, rfl, ?_⟩
  refine ⟨_, items_ref app_new, ?_⟩
  have k1 : Kp no S (S ++ [SO.lst (cutL (nums ns) none (some 63))]) := Kp.refl.app
  have h1 : (S ++ [SO.lst (cutL (nums ns) none (some 63))] ++ [SO.lst (cutL (nums ns) none (some 63))])[S.length + 1]? = some (.lst (cutL (nums ns) none (some 63))) := by
    have := app_new (S := S ++ [SO.lst (cutL (nums ns) none (some 63))]) (o := SO.lst (cutL (nums ns) none (some 63)))
    rwa [List.length_append] at this
  have k2 := k1.app (l := [SO.lst (cutL (nums ns) none (some 63))])
  rw [show (S ++ [SO.lst (cutL (nums ns) none (some 63))]).length = S.length + 1 from by simp]
  generalize S ++ [SO.lst (cutL (nums ns) none (some 63))] ++ [SO.lst (cutL (nums ns) none (some 63))] = S2 at h1 k2 ⊢
  have hl := cut63 (xs := ns)
  rw [cut_map] at h1
  generalize cutL ns none (some 63) = cs at h1 hl
  refine ⟨_, rfl, _, items_ref h1, ?_⟩
  refine for_by (fun rs σ S' => S' = S2 ∧ ∃ (a : Int) (u : Option PV) (ms : List Int), rs = nums ms ∧ σ = [some (.scr (nums ns)), some (.ref (S.length + 1)), some (.int a), u]) (fun r σ S' h => by rw [h.1]; exact still_same) ?_ ?_ _ _ _ ?_
  · rintro σ S' ⟨rfl, a, u, ms, _, rfl⟩
    refine ⟨_, rfl, rfl, _, lst_ref h1, ?_⟩
    refine ⟨_, rfl, ?_⟩
    have h3 : (S' ++ [SO.lst (nums cs).reverse])[S'.length]? = some (.lst (nums cs.reverse)) := by rw [show nums cs.reverse = (nums cs).reverse from List.map_reverse]; exact app_new
    refine h _ S'.length _ ⟨?_, cs.reverse, _, _, app_new, app_at h3, by rw [List.length_reverse]; exact hl⟩ (k2.app.app)
    simp
  · rintro x rs σ S' K ⟨rfl, a, u, ms, hr, rfl⟩ hK
    cases ms with
    | nil => cases hr
    | cons m ms =>
      injection hr with h4 h5
      subst h4 h5
      refine ⟨_, rfl, .inr (.inl (by decide)), _, rfl, by decide, by decide, ?_⟩
      exact hK _ _ ⟨rfl, _, _, ms, rfl, rfl⟩
  · exact ⟨rfl, _, _, cs, rfl, rfl⟩
/-! ### pieces of a road -/
structure Good (ps : List (Int × Int)) : Prop where
  len : ps.length ≤ 12
  all : ∀ p ∈ ps, 1 ≤ p.1 ∧ p.1 ≤ 50 ∧ 0 ≤ p.2 ∧ p.2 ≤ 1000
  last : ∃ L b s, ps = L ++ [(b, s)] ∧ 1 ≤ s
theorem eqv_nil (ps : List (Int × Int)) : PyData.eqv (.list (pds ps)) (.list []) = decide (ps = []) := by cases ps <;> rfl
theorem idx_lastP {L : List (Int × Int)} {p : Int × Int} : idx (prs (L ++ [p])) (-1) = some (.tup [.int p.1, .int p.2]) := by
  rw [show prs (L ++ [p]) = prs L ++ [PV.tup [.int p.1, .int p.2]] from by simp [prs]]
  exact idx_last
theorem prs_snoc {L : List (Int × Int)} {p : Int × Int} : prs (L ++ [p]) = prs L ++ [PV.tup [.int p.1, .int p.2]] := by simp [prs]
/-! ### the speeds of all beats -/
def spd : List (Int × Int) → List Int
  | [] => []
  | p :: r => List.replicate p.1.toNat p.2 ++ spd r
theorem spd_app : ∀ a b : List (Int × Int), spd (a ++ b) = spd a ++ spd b
  | [], _ => rfl
  | p :: r, b => by
    show List.replicate p.1.toNat p.2 ++ spd (r ++ b) = List.replicate p.1.toNat p.2 ++ spd r ++ spd b
    rw [spd_app r b, List.append_assoc]
theorem spd_len : ∀ {ps : List (Int × Int)}, (∀ p ∈ ps, 1 ≤ p.1 ∧ p.1 ≤ 50 ∧ 0 ≤ p.2 ∧ p.2 ≤ 1000) → (spd ps).length ≤ 50 * ps.length
  | [], _ => by simp [spd]
  | p :: r, h => by
    have := spd_len (ps := r) fun q hq => h q (List.mem_cons_of_mem _ hq)
    have := (h p (List.mem_cons_self ..)).2.1
    rw [spd, List.length_append, List.length_replicate, List.length_cons]
    omega
theorem spd_mem : ∀ {ps : List (Int × Int)} {x : Int}, x ∈ spd ps → ∃ p ∈ ps, x = p.2
  | [], _, h => by simp [spd] at h
  | p :: r, x, h => by
    rw [spd, List.mem_append] at h
    rcases h with h | h
    · exact ⟨p, List.mem_cons_self .., (List.mem_replicate.mp h).2⟩
    · obtain ⟨q, hq, e⟩ := spd_mem h
      exact ⟨q, List.mem_cons_of_mem _ hq, e⟩
theorem Good.spd_len {ps : List (Int × Int)} (G : Good ps) : (spd ps).length ≤ 600 := by
  have := Lw.spd_len G.all
  have := G.len
  omega
/-- the last speed -/
def lst (ps : List (Int × Int)) : Int := (ps.getLast?.map (·.2)).getD 0
theorem lst_snoc {L : List (Int × Int)} {p : Int × Int} : lst (L ++ [p]) = p.2 := by simp [lst]
theorem Good.snoc {ps : List (Int × Int)} (G : Good ps) : ∃ M, spd ps = M ++ [lst ps] ∧ 1 ≤ lst ps ∧ lst ps ≤ 1000 := by
  obtain ⟨L, b, s, e, h⟩ := G.last
  have hb := G.all (b, s) (by rw [e]; simp)
  obtain ⟨n, hn⟩ : ∃ n : Nat, b.toNat = n + 1 := ⟨b.toNat - 1, by have := hb.1; simp at this; omega⟩
  refine ⟨spd L ++ List.replicate n s, ?_, ?_, ?_⟩
  · rw [e, spd_app, lst_snoc]
    show spd L ++ (List.replicate b.toNat s ++ []) = _
    rw [hn, List.replicate_succ', List.append_nil, List.append_assoc]
  · rw [e, lst_snoc]
    exact h
  · rw [e, lst_snoc]
    exact hb.2.2.2
/-- what a road's pieces are, however many -/
structure Rd (ps : List (Int × Int)) : Prop where
  len : (spd ps).length ≤ 15000
  all : ∀ p ∈ ps, 1 ≤ p.1 ∧ p.1 ≤ 100000 ∧ 0 ≤ p.2 ∧ p.2 ≤ 1000
  last : ∃ L b s, ps = L ++ [(b, s)] ∧ 1 ≤ s
theorem Good.rd {ps : List (Int × Int)} (G : Good ps) : Rd ps := ⟨by have := G.spd_len; omega, fun p hp => by have := G.all p hp; omega, G.last⟩
theorem Good.pos {ps : List (Int × Int)} (G : Good ps) : ∀ p ∈ ps, 1 ≤ p.1 := fun p hp => (G.all p hp).1
theorem Rd.pos {ps : List (Int × Int)} (G : Rd ps) : ∀ p ∈ ps, 1 ≤ p.1 := fun p hp => (G.all p hp).1
theorem Rd.ne {ps : List (Int × Int)} (G : Rd ps) : ∃ L p, ps = L ++ [p] := by
  obtain ⟨L, b, s, e, _⟩ := G.last
  exact ⟨L, (b, s), e⟩
/-! ### a road as it stands -/
abbrev roadS (ps : List (Int × Int)) : SO := .ins 0 [("pieces", .tup (prs ps))]
def RoadOk (C : CS) : Prop := ∀ {S : Store} {i : Nat} {v : PV} {Q : QV} {R : QX}, S[i]? = some (.ins 0 []) → Q .non (S.set i (.ins 0 [("pieces", v)])) → C 2 [.ref i, v] S Q R
theorem road_ok {C : CS} : RoadOk (bodyC tab C) := by
  intro S i v Q R h q
  refine ⟨_, rfl, rfl, ?_⟩
  refine ⟨_, rfl, _, rfl, _, _, _, rfl, h, rfl, by decide, ?_⟩
  exact q
theorem fld_pieces {S : Store} {i : Nat} {ps : List (Int × Int)} (h : S[i]? = some (roadS ps)) : fldOf tab S (.ref i) "pieces" = some (.tup (prs ps)) := by
  simp only [fldOf]
  rw [h]
  rfl
theorem methOf_road {S : Store} {i : Nat} {ps : List (Int × Int)} {m : String} {f : Nat} (h : S[i]? = some (roadS ps)) (hp : ([("pieces", PV.tup (prs ps))] : List (String × PV)).lookup m = none) (hm : ((tab.cls[0]?).map (·.ms)).bind (·.lookup m) = some f) : methOf tab S (.ref i) m = some f := by
  simp only [methOf]
  rw [h]
  simp only [hp]
  exact hm
theorem meth_road {S : Store} {i : Nat} {ps : List (Int × Int)} {m : String} {f : Nat} (h : S[i]? = some (roadS ps)) (hp : ([("pieces", PV.tup (prs ps))] : List (String × PV)).lookup m = none) (hm : ((tab.cls[0]?).map (·.ms)).bind (·.lookup m) = some f) : recv tab S (.ref i) m .none = some (.inl f) := by
  have e : methOf tab S (.ref i) m = some f := by
    simp only [methOf]
    rw [h]
    simp only [hp]
    exact hm
  unfold recv
  rw [e]
/-- the speed of a beat -/
def atR : List (Int × Int) → Int → Option Int
  | [], _ => none
  | p :: r, l => if l < p.1 then some p.2 else atR r (l - p.1)
theorem atR_spd : ∀ {ps : List (Int × Int)} {l : Int}, (∀ p ∈ ps, 1 ≤ p.1) → 0 ≤ l → atR ps l = (spd ps)[l.toNat]?
  | [], l, _, _ => by simp [atR, spd]
  | p :: r, l, h, hl => by
    have hp := h p (List.mem_cons_self ..)
    unfold atR spd
    by_cases q : l < p.1
    · rw [if_pos q, List.getElem?_append_left (by rw [List.length_replicate]; omega), List.getElem?_replicate, if_pos (by omega)]
    · rw [if_neg q, List.getElem?_append_right (by rw [List.length_replicate]; omega), List.length_replicate, atR_spd (fun q hq => h q (List.mem_cons_of_mem _ hq)) (by omega)]
      congr 1
      omega
def spAt (ps : List (Int × Int)) (b : Int) : Int := (atR ps b).getD (lst ps)
def SpeedAtOk (C : CS) : Prop := ∀ {S : Store} {i : Nat} {ps : List (Int × Int)} {b : Int} {Q : QV} {R : QX}, S[i]? = some (roadS ps) → (∃ L p, ps = L ++ [p]) → Q (.int (spAt ps b)) S → C 5 [.ref i, .int b] S Q R
theorem speedAt_ok {C : CS} : SpeedAtOk (bodyC tab C) := by
  intro S i ps b Q R h hne q
  refine ⟨_, rfl, rfl, ?_⟩
  refine ⟨_, rfl, ?_⟩
  refine ⟨_, rfl, _, fld_pieces h, _, rfl, ?_⟩
  refine for_by (fun rs σ S' => ∃ M l u v, rs = prs M ∧ σ = [some (.ref i), some (.int b), some (.int l), u, v] ∧ S' = S ∧ atR ps b = atR M l) (fun _ _ _ _ => trivial) ?_ ?_ _ _ _ ?_
  · rintro σ S' ⟨M, l, u, v, hr, rfl, rfl, ha⟩
    cases M with
    | cons _ _ => cases hr
    | nil =>
      obtain ⟨L, p, rfl⟩ := hne
      refine ⟨_, rfl, _, fld_pieces h, _, rfl, _, _, rfl, idx_lastP, _, _, rfl, rfl, ?_⟩
      have e : spAt (L ++ [p]) b = p.2 := by
        unfold spAt
        rw [ha, lst_snoc]
        rfl
      rw [e] at q
      exact q
  · rintro x rs σ S' K ⟨M, l, u, v, hr, rfl, rfl, ha⟩ hK
    cases M with
    | nil => cases hr
    | cons p M =>
      injection hr with h1 h2
      subst h1 h2
      refine ⟨_, rfl, rfl, _, _, rfl, _, _, rfl, rfl, ?_⟩
      refine ⟨_, rfl, _, rfl, ?_⟩
      refine iteD (fun hb => ?_) (fun hb => ?_)
      · refine ⟨_, rfl, ?_⟩
        have e : spAt ps b = p.2 := by
          unfold spAt
          rw [ha, atR, if_pos hb]
          rfl
        rw [e] at q
        exact q
      · refine ⟨_, rfl, _, rfl, ?_⟩
        refine hK _ _ ⟨M, _, _, _, rfl, rfl, rfl, ?_⟩
        rw [ha, atR, if_neg hb]
  · exact ⟨ps, b, _, _, rfl, rfl, rfl, rfl⟩
/-! ### sums of beats -/
/-- the sum of those from f on, ahead of l, where the first one is at -/
def selS : List Int → Int → Int → Int → Int
  | [], _, _, _ => 0
  | x :: r, a, f, l => (if f ≤ a ∧ a < l then x else 0) + selS r (a + 1) f l
theorem selS_rep : ∀ (n : Nat) (s : Int) (r : List Int) (a f l : Int), selS (List.replicate n s ++ r) a f l = s * (if (if a + n < l then a + n else l) - (if a > f then a else f) > 0 then (if a + n < l then a + n else l) - (if a > f then a else f) else 0) + selS r (a + n) f l
  | 0, s, r, a, f, l => by
    have e : (if (if a + ((0 : Nat) : Int) < l then a + ((0 : Nat) : Int) else l) - (if a > f then a else f) > 0 then (if a + ((0 : Nat) : Int) < l then a + ((0 : Nat) : Int) else l) - (if a > f then a else f) else 0) = 0 := by
      repeat' split
      all_goals omega
    rw [e]
    simp
  | n + 1, s, r, a, f, l => by
    have ih := selS_rep n s r (a + 1) f l
    rw [List.replicate_succ, List.cons_append, selS, ih]
    have e1 : a + 1 + (n : Int) = a + ((n + 1 : Nat) : Int) := by omega
    rw [e1]
    generalize selS r (a + ((n + 1 : Nat) : Int)) f l = z
    generalize hN : a + ((n + 1 : Nat) : Int) = N
    have hN2 : a < N := by omega
    by_cases q : f ≤ a ∧ a < l
    · rw [if_pos q]
      have e2 : (if (if N < l then N else l) - (if a > f then a else f) > 0 then (if N < l then N else l) - (if a > f then a else f) else 0) = 1 + (if (if N < l then N else l) - (if a + 1 > f then a + 1 else f) > 0 then (if N < l then N else l) - (if a + 1 > f then a + 1 else f) else 0) := by
        repeat' split
        all_goals omega
      rw [e2, Int.mul_add, Int.mul_one, Int.add_assoc]
    · rw [if_neg q, Int.zero_add]
      congr 2
      repeat' split
      all_goals omega
theorem selS_none : ∀ (xs : List Int) (a f l : Int), l ≤ f → selS xs a f l = 0
  | [], _, _, _, _ => rfl
  | x :: r, a, f, l, h => by
    rw [selS, if_neg (by omega), selS_none r (a + 1) f l h]
    rfl
theorem selS_past : ∀ (xs : List Int) (a f l : Int), l ≤ a → selS xs a f l = 0
  | [], _, _, _, _ => rfl
  | x :: r, a, f, l, h => by
    rw [selS, if_neg (by omega), selS_past r (a + 1) f l (by omega)]
    rfl
theorem selS_add : ∀ (xs : List Int) (a f m l : Int), f ≤ m → m ≤ l → selS xs a f m + selS xs a m l = selS xs a f l
  | [], _, _, _, _, _, _ => rfl
  | x :: r, a, f, m, l, h1, h2 => by
    have ih := selS_add r (a + 1) f m l h1 h2
    rw [selS, selS, selS, ← ih]
    repeat' split
    all_goals omega
/-- as a slice's sum -/
theorem selS_cut : ∀ (xs : List Int) (a f l : Int), a ≤ f → selS xs a f l = ((xs.drop (f - a).toNat).take (l - f).toNat).sum
  | [], _, _, _, _ => by simp [selS]
  | x :: r, a, f, l, h => by
    by_cases q : f = a
    · subst q
      rw [Int.sub_self]
      show _ = (List.take (l - f).toNat (x :: r)).sum
      by_cases q2 : f < l
      · obtain ⟨n, hn⟩ : ∃ n : Nat, (l - f).toNat = n + 1 := ⟨(l - f).toNat - 1, by omega⟩
        rw [hn, List.take_succ_cons, List.sum_cons, selS, if_pos ⟨Int.le_refl _, q2⟩]
        congr 1
        have e : selS r (f + 1) f l = selS r (f + 1) (f + 1) l := by
          have := selS_add r (f + 1) f (f + 1) l (by omega) (by omega)
          rw [selS_past r (f + 1) f (f + 1) (by omega)] at this
          omega
        rw [e, selS_cut r (f + 1) (f + 1) l (Int.le_refl _), Int.sub_self]
        show (List.take (l - (f + 1)).toNat r).sum = _
        congr 2
        omega
      · rw [selS_none _ _ _ _ (by omega), show (l - f).toNat = 0 from by omega]
        simp
    · obtain ⟨n, hn⟩ : ∃ n : Nat, (f - a).toNat = n + 1 := ⟨(f - a).toNat - 1, by omega⟩
      rw [hn, List.drop_succ_cons, selS, if_neg (by omega), Int.zero_add, selS_cut r (a + 1) f l (by omega)]
      congr 3
      omega
def suR (ps : List (Int × Int)) (f l : Int) : Int := selS (spd ps) 0 f l + lst ps * (if l - (if ((spd ps).length : Int) > f then ((spd ps).length : Int) else f) > 0 then l - (if ((spd ps).length : Int) > f then ((spd ps).length : Int) else f) else 0)
def SumOfOk (C : CS) : Prop := ∀ {S : Store} {i : Nat} {ps : List (Int × Int)} {f l : Int} {Q : QV} {R : QX}, S[i]? = some (roadS ps) → Rd ps → fit f → fit l → Q (.int (suR ps f l)) S → C 6 [.ref i, .int f, .int l] S Q R
theorem sumOf_ok {C : CS} : SumOfOk (bodyC tab C) := by
  intro S i ps f l Q R h G ff fl q
  refine ⟨_, rfl, rfl, ?_⟩
  refine ⟨_, rfl, _, fld_pieces h, _, rfl, ?_⟩
  refine for_by (fun rs σ S' => ∃ L M a u v, rs = prs M ∧ ps = L ++ M ∧ σ = [some (.ref i), some (.int f), some (.int l), some (.int a), some (.int ((spd L).length : Int)), u, v] ∧ S' = S ∧ a + selS (spd M) ((spd L).length : Int) f l = selS (spd ps) 0 f l) (fun _ _ _ _ => trivial) ?_ ?_ _ _ _ ?_
  · rintro σ S' ⟨L, M, a, u, v, hr, he, rfl, rfl, ha⟩
    cases M with
    | cons _ _ => cases hr
    | nil =>
      rw [List.append_nil] at he
      subst he
      obtain ⟨M, b, s, e, hs⟩ := G.last
      have hq := G.all (b, s) (by rw [e]; simp)
      have el : lst ps = s := by rw [e, lst_snoc]
      have ei : idx (prs ps) (-1) = some (.tup [.int b, .int s]) := by rw [e]; exact idx_lastP
      refine ⟨_, rfl, _, rfl, _, fld_pieces h, _, rfl, _, _, rfl, ei, _, _, rfl, rfl, ?_⟩
      refine ⟨_, rfl, _, rfl, _, rfl, ?_⟩
      refine ⟨.inl (fit_of hq.2.2.1 (by have := hq.2.2.2; simp only at this; omega)), ?_⟩
      have e2 : a = selS (spd ps) 0 f l := by
        rw [← ha]
        show a = a + 0
        omega
      have q : Q (.int (selS (spd ps) 0 f l + lst ps * (if l - (if ((spd ps).length : Int) > f then ((spd ps).length : Int) else f) > 0 then l - (if ((spd ps).length : Int) > f then ((spd ps).length : Int) else f) else 0))) S' := q
      rw [el] at q
      rw [e2]
      exact q
  · rintro x rs σ S' K ⟨L, M, a, u, v, hr, he, rfl, rfl, ha⟩ hK
    cases M with
    | nil => cases hr
    | cons p M =>
      obtain ⟨b, s⟩ := p
      injection hr with h1 h2
      subst h1 h2
      have hq := G.all (b, s) (by rw [he]; simp)
      refine ⟨_, rfl, rfl, _, _, rfl, _, _, rfl, rfl, ?_⟩
      refine ⟨_, rfl, _, rfl, ?_⟩
      refine ⟨_, rfl, _, rfl, _, rfl, _, rfl, _, rfl, ?_⟩
      refine ⟨.inl (fit_of hq.2.2.1 (by have := hq.2.2.2; simp only at this; omega)), ?_⟩
      refine ⟨_, rfl, _, rfl, ?_⟩
      have en : ((b.toNat : Nat) : Int) = b := Int.toNat_of_nonneg (by have := hq.1; simp only at this; omega)
      have eL : ((spd (L ++ [(b, s)])).length : Int) = ((spd L).length : Int) + b := by
        rw [spd_app, List.length_append, show spd [(b, s)] = List.replicate b.toNat s from List.append_nil _, List.length_replicate]
        omega
      refine hK _ _ ⟨L ++ [(b, s)], M, _, _, _, rfl, by rw [he, List.append_assoc]; rfl, by rw [eL]; rfl, rfl, ?_⟩
      rw [← ha, show spd ((b, s) :: M) = List.replicate b.toNat s ++ spd M from rfl, selS_rep, en, eL]
      dsimp only
      omega
  · refine ⟨[], ps, 0, _, _, rfl, rfl, rfl, rfl, ?_⟩
    show 0 + selS (spd ps) 0 f l = _
    omega
/-! ### fetches -/
/-- the beat behind the one in which l bits are whole: the speeds from here on, then z for ever -/
def fetL : List Int → Int → Int → Int → Int
  | [], z, b, l => if l ≤ 0 then b else b + (l + z - 1) / z
  | x :: r, z, b, l => if l ≤ 0 then b else fetL r z (b + 1) (l - x)
theorem ceil_neg {l s : Int} (hs : 0 < s) : -((-l) / s) = (l + s - 1) / s := by
  have e := Int.emod_add_mul_ediv (l + s - 1) s
  have h0 := Int.emod_nonneg (l + s - 1) (Int.ne_of_gt hs)
  have h1 := Int.emod_lt_of_pos (l + s - 1) hs
  generalize (l + s - 1) / s = q at e ⊢
  generalize (l + s - 1) % s = t at e h0 h1
  have e2 : -l = (s - 1 - t) + s * (-q) := by
    rw [Int.mul_neg]
    omega
  rw [e2, Int.add_mul_ediv_left _ _ (Int.ne_of_gt hs), Int.ediv_eq_zero_of_lt (by omega) (by omega)]
  omega
theorem fetL_done {xs : List Int} {z b l : Int} (h : l ≤ 0) : fetL xs z b l = b := by
  cases xs <;> (unfold fetL; rw [if_pos h])
theorem fetL_over : ∀ (n : Nat) {s : Int} {r : List Int} {z b l : Int}, 0 ≤ s → s * n < l → fetL (List.replicate n s ++ r) z b l = fetL r z (b + n) (l - s * n)
  | 0, s, r, z, b, l, _, _ => by simp
  | n + 1, s, r, z, b, l, hs, h => by
    have e : s * ((n + 1 : Nat) : Int) = s * n + s := by
      rw [Int.natCast_add, Int.mul_add]
      simp
    have h0 : 0 ≤ s * (n : Int) := Int.mul_nonneg hs (Int.natCast_nonneg n)
    rw [List.replicate_succ, List.cons_append, fetL, if_neg (by omega), fetL_over n hs (by omega), e]
    congr 1 <;> omega
theorem fetL_in : ∀ (n : Nat) {s : Int} {r : List Int} {z b l : Int}, 0 < s → 0 < l → l ≤ s * n → fetL (List.replicate n s ++ r) z b l = b + (l + s - 1) / s
  | 0, s, r, z, b, l, _, h0, h => by
    rw [Int.natCast_zero, Int.mul_zero] at h
    omega
  | n + 1, s, r, z, b, l, hs, h0, h => by
    have e : s * ((n + 1 : Nat) : Int) = s * n + s := by
      rw [Int.natCast_add, Int.mul_add]
      simp
    rw [List.replicate_succ, List.cons_append, fetL, if_neg (by omega)]
    by_cases q : l - s ≤ 0
    · have e1 : (l + s - 1) / s = 1 := by
        have : l + s - 1 = (l - 1) + s * 1 := by omega
        rw [this, Int.add_mul_ediv_left _ _ (Int.ne_of_gt hs), Int.ediv_eq_zero_of_lt (by omega) (by omega)]
        omega
      rw [fetL_done q, e1]
    · rw [fetL_in n hs (by omega) (by omega)]
      have e1 : (l + s - 1) / s = (l - s + s - 1) / s + 1 := by
        have : l + s - 1 = (l - s + s - 1) + s * 1 := by omega
        rw [this, Int.add_mul_ediv_left _ _ (Int.ne_of_gt hs)]
      rw [e1]
      omega
theorem fetL_last {n : Nat} {s b l : Int} (hs : 0 < s) (hl : 0 < l) : fetL (List.replicate n s) s b l = b + (l + s - 1) / s := by
  by_cases q : l ≤ s * n
  · have := fetL_in n (r := []) (z := s) (b := b) hs hl q
    rwa [List.append_nil] at this
  · have := fetL_over n (r := []) (z := s) (b := b) (l := l) (Int.le_of_lt hs) (by omega)
    rw [List.append_nil] at this
    rw [this, fetL, if_neg (by omega)]
    have e1 : (l + s - 1) / s = (l - s * n + s - 1) / s + n := by
      have : l + s - 1 = (l - s * n + s - 1) + s * n := by omega
      rw [this, Int.add_mul_ediv_left _ _ (Int.ne_of_gt hs)]
    rw [e1]
    omega
def fetR (ps : List (Int × Int)) (h l : Int) : Int := fetL ((spd ps).drop h.toNat) (lst ps) h l
def FetchedOk (C : CS) : Prop := ∀ {S : Store} {i : Nat} {ps : List (Int × Int)} {b l w : Int} {Q : QV} {R : QX}, S[i]? = some (roadS ps) → Rd ps → 0 ≤ b + w → 1 ≤ l → Q (.int (fetR ps (b + w) l)) S → C 7 [.ref i, .int b, .int l, .int w] S Q R
theorem fetched_ok {C : CS} : FetchedOk (bodyC tab C) := by
  intro S i ps b l w Q R h G h0 l0 q
  obtain ⟨L, bl, sl, eps, hsl⟩ := G.last
  have hlast := G.all (bl, sl) (by rw [eps]; simp)
  have el : lst ps = sl := by rw [eps, lst_snoc]
  have ei : idx (prs ps) (-1) = some (.tup [.int bl, .int sl]) := by rw [eps]; exact idx_lastP
  refine ⟨_, rfl, rfl, ?_⟩
  refine ⟨_, rfl, _, rfl, ?_⟩
  refine ⟨_, rfl, ?_⟩
  refine ⟨_, rfl, _, fld_pieces h, _, rfl, _, rfl, ?_⟩
  refine ⟨_, rfl, ?_⟩
  have edl : (prs ps).dropLast = prs L := by rw [eps, prs_snoc]; exact List.dropLast_concat
  rw [cut_init, edl]
  refine for_by (fun rs σ S' => ∃ A M he le u v, rs = prs M ∧ L = A ++ M ∧ σ = [some (.ref i), some (.int b), some (.int l), some (.int w), some (.int he), some (.int le), some (.int ((spd A).length : Int)), u, v] ∧ S' = S ∧ ((spd A).length : Int) ≤ he ∧ 1 ≤ le ∧
    fetR ps (b + w) l = fetL ((spd (M ++ [(bl, sl)])).drop (he - ((spd A).length : Int)).toNat) sl he le) (fun _ _ _ _ => trivial) ?_ ?_ _ _ _ ?_
  · rintro σ S' ⟨A, M, he, le, u, v, hr, hL, rfl, rfl, hA, hle, hf⟩
    cases M with
    | cons _ _ => cases hr
    | nil =>
      refine ⟨_, rfl, _, rfl, _, rfl, _, rfl, _, fld_pieces h, _, rfl, _, _, rfl, ei, _, _, rfl, rfl, ⟨by omega, by have := hlast.2.2.2; simp only at this; omega⟩, ?_⟩
      have e2 : fetR ps (b + w) l = he - (-le) / sl := by
        rw [hf]
        have e3 : spd ([] ++ [(bl, sl)]) = List.replicate bl.toNat sl := List.append_nil _
        rw [e3, List.drop_replicate, fetL_last (by omega) (by omega), ← ceil_neg (by omega)]
        omega
      rw [e2] at q
      exact q
  · rintro x rs σ S' K ⟨A, M, he, le, u, v, hr, hL, rfl, rfl, hA, hle, hf⟩ hK
    cases M with
    | nil => cases hr
    | cons p M =>
      obtain ⟨b1, s1⟩ := p
      injection hr with h1 h2
      subst h1 h2
      have hp := G.all (b1, s1) (by rw [eps, hL]; simp)
      simp only at hp
      have eA : ((spd (A ++ [(b1, s1)])).length : Int) = ((spd A).length : Int) + b1 := by
        rw [spd_app, List.length_append, show spd [(b1, s1)] = List.replicate b1.toNat s1 from List.append_nil _, List.length_replicate]
        omega
      have eM : spd ((b1, s1) :: M ++ [(bl, sl)]) = List.replicate b1.toNat s1 ++ spd (M ++ [(bl, sl)]) := rfl
      rw [eM] at hf
      refine ⟨_, rfl, rfl, _, _, rfl, _, _, rfl, rfl, ?_⟩
      refine ⟨_, rfl, _, rfl, ?_⟩
      have fin : ∀ he2 le2, ((spd A).length : Int) + b1 ≤ he2 → 1 ≤ le2 → fetR ps (b + w) l = fetL ((spd (M ++ [(bl, sl)])).drop (he2 - (((spd A).length : Int) + b1)).toNat) sl he2 le2 → K [some (.ref i), some (.int b), some (.int l), some (.int w), some (.int he2), some (.int le2), some (.int (((spd A).length : Int) + b1)), some (.int b1), some (.int s1)] S' := fun he2 le2 g1 g2 g3 => by
        rw [← eA] at g1 g3 ⊢
        exact hK _ _ ⟨A ++ [(b1, s1)], M, he2, le2, _, _, rfl, by rw [hL, List.append_assoc]; rfl, rfl, rfl, g1, g2, g3⟩
      obtain ⟨k, hk⟩ : ∃ k : Nat, he - ((spd A).length : Int) = k := ⟨(he - ((spd A).length : Int)).toNat, by omega⟩
      rw [hk, Int.toNat_natCast] at hf
      have hst : fit s1 := fit_of hp.2.2.1 (by omega)
      refine ⟨_, rfl, _, rfl, ?_⟩
      by_cases hh : he < ((spd A).length : Int) + b1
      · have ed : (List.replicate b1.toNat s1 ++ spd (M ++ [(bl, sl)])).drop k = List.replicate (b1.toNat - k) s1 ++ spd (M ++ [(bl, sl)]) := by
          rw [List.drop_append_of_le_length (by rw [List.length_replicate]; omega), List.drop_replicate]
        rw [ed] at hf
        have ek : ((b1.toNat - k : Nat) : Int) = ((spd A).length : Int) + b1 - he := by omega
        refine iteT (decide_eq_true hh) ?_
        refine ⟨_, rfl, _, rfl, _, rfl, _, rfl, .inl hst, ?_⟩
        refine iteD (fun hg => ?_) (fun hg => ?_)
        · refine ⟨_, rfl, _, rfl, _, rfl, _, rfl, .inl hst, ?_⟩
          refine ⟨_, rfl, ?_⟩
          dsimp only at hg
          refine fin _ _ (Int.le_refl _) (by dsimp only; omega) ?_
          rw [hf, fetL_over _ hp.2.2.1 (by rw [ek]; omega), ek, Int.sub_self]
          have e5 : he + (((spd A).length : Int) + b1 - he) = ((spd A).length : Int) + b1 := by omega
          rw [e5]
          rfl
        · refine ⟨_, rfl, _, rfl, ?_⟩
          refine iteT (decide_eq_true hh) ?_
          dsimp only at hg
          have s1p : 0 < s1 := by
            rcases Int.lt_or_le 0 s1 with z | z
            · exact z
            · have e0 : s1 = 0 := by omega
              rw [e0, Int.zero_mul] at hg
              omega
          refine ⟨_, rfl, _, rfl, _, rfl, _, rfl, ⟨s1p, by omega⟩, ?_⟩
          have e2 : fetR ps (b + w) l = he - (-le) / s1 := by
            rw [hf, fetL_in _ s1p (by omega) (by rw [ek]; omega), ← ceil_neg s1p]
            omega
          rw [e2] at q
          exact q
      · refine iteF (decide_eq_false hh) ?_
        refine ⟨_, rfl, _, rfl, ?_⟩
        refine iteF (decide_eq_false hh) ?_
        refine fin _ _ (by omega) hle ?_
        rw [hf, List.drop_append, List.drop_eq_nil_of_le (by rw [List.length_replicate]; omega), List.nil_append, List.length_replicate]
        congr 2
        omega
  · refine ⟨[], L, b + w, l, none, none, rfl, rfl, rfl, rfl, h0, l0, ?_⟩
    unfold fetR
    rw [el, eps, show ((spd []).length : Int) = 0 from rfl, Int.sub_zero]
/-! ### rows of speeds, the last one for ever -/
def ext (xs : List Int) (d : Int) (k : Nat) : Int := xs.getD k (xs.getLastD d)
/-- where a speed begins that is another one than ahead -/
def chg : List Int → Int → Option Int → List (Int × Int)
  | [], _, _ => []
  | x :: r, a, p => if p = some x then chg r (a + 1) p else (a, x) :: chg r (a + 1) (some x)
/-- the speed that such turns tell -/
def look : List (Int × Int) → Int → Int → Int
  | [], d, _ => d
  | t :: r, d, k => if t.1 ≤ k then look r t.2 k else d
theorem chg_ge : ∀ {xs : List Int} {a : Int} {p : Option Int} {t : Int × Int}, t ∈ chg xs a p → a ≤ t.1
  | [], _, _, _, h => by simp [chg] at h
  | x :: r, a, p, t, h => by
    unfold chg at h
    split at h
    · have := chg_ge h
      omega
    · rw [List.mem_cons] at h
      rcases h with h | h
      · rw [h]
        exact Int.le_refl _
      · have := chg_ge h
        omega
theorem look_low : ∀ {ts : List (Int × Int)} {d k : Int}, (∀ t ∈ ts, k < t.1) → look ts d k = d
  | [], _, _, _ => rfl
  | t :: r, d, k, h => by
    have := h t (List.mem_cons_self ..)
    rw [look, if_neg (by omega)]
theorem ext_cons {x d : Int} {r : List Int} {k : Nat} : ext (x :: r) d (k + 1) = ext r x k := by
  unfold ext
  cases r with
  | nil => simp
  | cons y s => simp [List.getLastD]
theorem look_chg : ∀ (xs : List Int) (a : Int) (p : Option Int) (d : Int) (k : Nat), (p = none ∨ p = some d) → (p = none → xs ≠ []) → look (chg xs a p) d (a + k) = ext xs d k
  | [], a, p, d, k, _, _ => by simp [chg, look, ext]
  | x :: r, a, p, d, k, h1, _ => by
    have step : ∀ k : Nat, look (chg r (a + 1) (some x)) x (a + k) = ext (x :: r) d k := by
      intro k
      cases k with
      | zero =>
        rw [look_low (fun t ht => by have := chg_ge ht; simp; omega)]
        simp [ext]
      | succ k =>
        have := look_chg r (a + 1) (some x) x k (.inr rfl) (fun h => by cases h)
        rw [ext_cons, ← this]
        congr 1
        omega
    unfold chg
    by_cases q : p = some x
    · rw [if_pos q]
      rcases h1 with h1 | h1
      · rw [h1] at q
        cases q
      · rw [h1] at q
        cases q
        rw [h1]
        exact step k
    · rw [if_neg q, look, if_pos (by omega)]
      exact step k
theorem chg_snoc : ∀ (xs : List Int) (a : Int) (p : Option Int) (d : Int), (p = none ∨ p = some d) → (p = none → xs ≠ []) → chg (xs ++ [xs.getLastD d]) a p = chg xs a p
  | [], a, p, d, h1, h2 => by
    rcases h1 with h1 | h1
    · exact absurd rfl (h2 h1)
    · rw [h1]
      simp [chg]
  | x :: r, a, p, d, h1, h2 => by
    have e : (x :: r).getLastD d = r.getLastD x := by cases r <;> rfl
    have ih := chg_snoc r (a + 1) (some x) x (.inr rfl) (fun h => by cases h)
    rw [List.cons_append, chg, chg, e]
    by_cases q : p = some x
    · rw [if_pos q, if_pos q, q, ih]
    · rw [if_neg q, if_neg q, ih]
theorem last_rep {xs : List Int} {d : Int} (n : Nat) : (xs ++ List.replicate n (xs.getLastD d)).getLastD d = xs.getLastD d := by
  cases n with
  | zero => simp
  | succ n => rw [List.replicate_succ', ← List.append_assoc, List.getLastD_concat]
theorem chg_rep {xs : List Int} (h : xs ≠ []) (n : Nat) : chg (xs ++ List.replicate n (xs.getLastD 0)) 0 none = chg xs 0 none := by
  induction n with
  | zero => simp
  | succ n ih =>
    have e : xs ++ List.replicate (n + 1) (xs.getLastD 0) = (xs ++ List.replicate n (xs.getLastD 0)) ++ [(xs ++ List.replicate n (xs.getLastD 0)).getLastD 0] := by
      rw [last_rep, List.replicate_succ', List.append_assoc]
    rw [e, chg_snoc _ _ _ 0 (.inl rfl) (fun _ => by simp [h]), ih]
theorem ext_rep {xs : List Int} (n : Nat) : xs ++ List.replicate n (xs.getLastD 0) = (List.range (xs.length + n)).map (ext xs 0) := by
  apply List.ext_getElem?
  intro i
  rw [List.getElem?_map]
  by_cases h : i < xs.length
  · rw [List.getElem?_append_left h, List.getElem?_eq_getElem h, List.getElem?_eq_getElem (by rw [List.length_range]; omega), List.getElem_range]
    simp [ext, List.getD_eq_getElem?_getD, List.getElem?_eq_getElem h]
  · rw [List.getElem?_append_right (by omega)]
    by_cases h2 : i < xs.length + n
    · rw [List.getElem?_eq_getElem (by rw [List.length_replicate]; omega), List.getElem_replicate, List.getElem?_eq_getElem (by rw [List.length_range]; exact h2), List.getElem_range]
      simp [ext, List.getD_eq_getElem?_getD, List.getElem?_eq_none (show xs.length ≤ i by omega)]
    · rw [List.getElem?_eq_none (by rw [List.length_replicate]; omega), List.getElem?_eq_none (by rw [List.length_range]; omega)]
      rfl
theorem chg_iff {xs ys : List Int} (hx : xs ≠ []) (hy : ys ≠ []) : chg xs 0 none = chg ys 0 none ↔ ∀ k, ext xs 0 k = ext ys 0 k := by
  constructor
  · intro h k
    rw [← look_chg xs 0 none 0 k (.inl rfl) (fun _ => hx), ← look_chg ys 0 none 0 k (.inl rfl) (fun _ => hy), h]
  · intro h
    rw [← chg_rep hx ys.length, ← chg_rep hy xs.length, ext_rep, ext_rep, Nat.add_comm ys.length]
    congr 1
    exact List.map_congr_left fun i _ => h i
/-- all but the last ones that are alike -/
def strip : List Int → List Int
  | a :: b :: r => if a = b then strip (b :: r) else a :: b :: r
  | l => l
def endsF (xs : List Int) : List Int := (strip xs.reverse).reverse
theorem strip_spec : ∀ l : List Int, l ≠ [] → strip l ≠ [] ∧ (∀ a b r, strip l = a :: b :: r → a ≠ b) ∧ ∃ n a r, strip l = a :: r ∧ l = List.replicate n a ++ a :: r
  | [], h => absurd rfl h
  | [a], _ => ⟨by simp [strip], fun x y r h => by simp [strip] at h, 0, a, [], rfl, rfl⟩
  | a :: b :: r, _ => by
    unfold strip
    by_cases q : a = b
    · rw [if_pos q]
      obtain ⟨h1, h2, n, x, s, h3, h4⟩ := strip_spec (b :: r) (by simp)
      refine ⟨h1, h2, n + 1, x, s, h3, ?_⟩
      have hb : b = x := by
        cases n with
        | zero =>
          rw [List.replicate_zero, List.nil_append] at h4
          injection h4
        | succ n =>
          rw [List.replicate_succ, List.cons_append] at h4
          injection h4
      rw [q, h4, List.replicate_succ, List.cons_append, ← hb]
    · rw [if_neg q]
      exact ⟨by simp, fun x y s h => by injection h with h1 h2; injection h2 with h2 h3; rw [← h1, ← h2]; exact q, 0, a, b :: r, rfl, rfl⟩
/-- its last two are unlike -/
def tight (xs : List Int) : Prop := ∀ L a b, xs = L ++ [a, b] → a ≠ b
theorem ends_spec {xs : List Int} (h : xs ≠ []) : endsF xs ≠ [] ∧ tight (endsF xs) ∧ ∃ n, xs = endsF xs ++ List.replicate n ((endsF xs).getLastD 0) := by
  obtain ⟨h1, h2, n, a, r, h3, h4⟩ := strip_spec xs.reverse (by simp [h])
  refine ⟨by simp [endsF, h1], fun L x y e => ?_, n, ?_⟩
  · have e2 : strip xs.reverse = y :: x :: L.reverse := by
      have := congrArg List.reverse e
      simpa [endsF] using this
    exact Ne.symm (h2 y x _ e2)
  · have e : endsF xs = r.reverse ++ [a] := by
      unfold endsF
      rw [h3]
      simp
    have e2 : xs = r.reverse ++ [a] ++ List.replicate n a := by
      have := congrArg List.reverse h4
      simpa using this
    rw [e, List.getLastD_concat]
    exact e2
theorem ext_app_rep {xs : List Int} (n k : Nat) : ext (xs ++ List.replicate n (xs.getLastD 0)) 0 k = ext xs 0 k := by
  unfold ext
  rw [last_rep]
  by_cases h : k < xs.length
  · simp [List.getD_eq_getElem?_getD, List.getElem?_append_left h]
  · rw [List.getD_eq_getElem?_getD, List.getD_eq_getElem?_getD, List.getElem?_append_right (by omega), List.getElem?_eq_none (show xs.length ≤ k by omega)]
    by_cases h2 : k - xs.length < n
    · rw [List.getElem?_eq_getElem (by rw [List.length_replicate]; exact h2), List.getElem_replicate]
      rfl
    · rw [List.getElem?_eq_none (by rw [List.length_replicate]; omega)]
theorem ends_ext {xs : List Int} (h : xs ≠ []) (k : Nat) : ext (endsF xs) 0 k = ext xs 0 k := by
  obtain ⟨_, _, n, e⟩ := ends_spec h
  have e3 : ext xs 0 k = ext (endsF xs ++ List.replicate n ((endsF xs).getLastD 0)) 0 k := congrArg (fun l => ext l 0 k) e
  rw [e3, ext_app_rep]
theorem ext_lt {xs : List Int} {k : Nat} (h : k < xs.length) : ext xs 0 k = xs[k] := by
  simp [ext, List.getD_eq_getElem?_getD, List.getElem?_eq_getElem h]
theorem ext_ge {xs : List Int} {k : Nat} (h : xs.length ≤ k) : ext xs 0 k = xs.getLastD 0 := by
  simp [ext, List.getD_eq_getElem?_getD, List.getElem?_eq_none h]
theorem last_get {xs : List Int} (h : xs ≠ []) : xs.getLastD 0 = xs[xs.length - 1]'(by have := List.length_pos_iff.mpr h; omega) := by
  have h0 := List.length_pos_iff.mpr h
  rw [List.getLastD_eq_getLast?, List.getLast?_eq_getElem?, List.getElem?_eq_getElem (show xs.length - 1 < xs.length by omega)]
  rfl
theorem tight_len {xs ys : List Int} (hx : xs ≠ []) (hy : ys ≠ []) (ty : tight ys) (h : ∀ k, ext xs 0 k = ext ys 0 k) : ys.length ≤ xs.length := by
  rcases Nat.lt_or_ge xs.length ys.length with q | q
  · exfalso
    have h0 := List.length_pos_iff.mpr hx
    rcases List.eq_nil_or_concat ys with e | ⟨M, b, e⟩
    · exact hy e
    · rw [List.concat_eq_append] at e
      rcases List.eq_nil_or_concat M with e2 | ⟨L, a, e2⟩
      · rw [e, e2] at q
        simp at q
        exact hx q
      · rw [List.concat_eq_append] at e2
        have e3 : ys = L ++ [a, b] := by rw [e, e2]; simp
        have hl : ys.length = L.length + 2 := by rw [e3]; simp
        refine ty L a b e3 ?_
        have h1 := h L.length
        have h2 := h (L.length + 1)
        rw [ext_lt (xs := ys) (by omega)] at h1 h2
        have g1 : ys[L.length]'(by omega) = a := by simp [e3]
        have g2 : ys[L.length + 1]'(by omega) = b := by simp [e3]
        rw [g1] at h1
        rw [g2] at h2
        rw [ext_ge (xs := xs) (by omega)] at h2
        have h3 : ext xs 0 L.length = xs.getLastD 0 := by
          by_cases z : xs.length ≤ L.length
          · exact ext_ge z
          · rw [ext_lt (by omega), last_get hx]
            congr 1
            omega
        rw [← h1, ← h2, h3]
  · exact q
theorem ends_iff {xs ys : List Int} (hx : xs ≠ []) (hy : ys ≠ []) : endsF xs = endsF ys ↔ ∀ k, ext xs 0 k = ext ys 0 k := by
  obtain ⟨nx, tx, _⟩ := ends_spec hx
  obtain ⟨ny, ty, _⟩ := ends_spec hy
  constructor
  · intro h k
    rw [← ends_ext hx, ← ends_ext hy, h]
  · intro h
    have h' : ∀ k, ext (endsF xs) 0 k = ext (endsF ys) 0 k := fun k => by rw [ends_ext hx, ends_ext hy]; exact h k
    have l1 := tight_len nx ny ty h'
    have l2 := tight_len ny nx tx fun k => (h' k).symm
    apply List.ext_getElem (by omega)
    intro i h1 h2
    rw [← ext_lt h1, ← ext_lt h2]
    exact h' i
theorem turns_iff {xs ys : List Int} (hx : xs ≠ []) (hy : ys ≠ []) : decide (chg xs 0 none = chg ys 0 none) = decide (endsF xs = endsF ys) := by
  rw [decide_eq_decide, chg_iff hx hy, ends_iff hx hy]
/-- the pieces by such turns -/
def pby : Int × Int → List (Int × Int) → Int → List (Int × Int)
  | f, [], e => [(if e - f.1 > 1 then e - f.1 else 1, f.2)]
  | f, t :: r, e => (t.1 - f.1, f.2) :: pby t r e
theorem pby_spd : ∀ (r : List Int) (a0 a s e : Int), a0 < a → e = a + r.length → spd (pby (a0, s) (chg r a (some s)) e) = List.replicate (a - a0).toNat s ++ r
  | [], a0, a, s, e, h, he => by
    simp only [chg, pby, spd]
    simp at he
    subst he
    rw [show (if e - a0 > 1 then e - a0 else 1) = e - a0 from by split <;> omega]
  | x :: r, a0, a, s, e, h, he => by
    unfold chg
    rw [List.length_cons] at he
    by_cases q : some s = some x
    · rw [if_pos q]
      cases q
      rw [pby_spd r a0 (a + 1) x e (by omega) (by omega), show (a + 1 - a0).toNat = (a - a0).toNat + 1 from by omega, List.replicate_succ', List.append_assoc]
      rfl
    · rw [if_neg q, pby, spd, pby_spd r a (a + 1) x e (by omega) (by omega), show (a + 1 - a).toNat = 1 from by omega]
      rfl
theorem pby_all : ∀ (r : List Int) (a0 a s e : Int), a0 < a → ∀ p ∈ pby (a0, s) (chg r a (some s)) e, 1 ≤ p.1 ∧ p.2 ∈ s :: r
  | [], a0, a, s, e, h, p, hp => by
    simp only [chg, pby, List.mem_singleton] at hp
    subst hp
    refine ⟨by simp only; split <;> omega, by simp⟩
  | x :: r, a0, a, s, e, h, p, hp => by
    unfold chg at hp
    by_cases q : some s = some x
    · rw [if_pos q] at hp
      cases q
      obtain ⟨h1, h2⟩ := pby_all r a0 (a + 1) x e (by omega) p hp
      exact ⟨h1, by simp only [List.mem_cons] at h2 ⊢; rcases h2 with h2 | h2 <;> simp [h2]⟩
    · rw [if_neg q, pby, List.mem_cons] at hp
      rcases hp with hp | hp
      · subst hp
        exact ⟨by simp only; omega, by simp⟩
      · obtain ⟨h1, h2⟩ := pby_all r a (a + 1) x e (by omega) p hp
        exact ⟨h1, List.mem_cons_of_mem _ h2⟩
theorem pby_ne (ts : List (Int × Int)) (f : Int × Int) (e : Int) : ∃ L p, pby f ts e = L ++ [p] := by
  induction ts generalizing f with
  | nil => exact ⟨[], _, rfl⟩
  | cons t r ih =>
    obtain ⟨L, p, h⟩ := ih t
    exact ⟨(t.1 - f.1, f.2) :: L, p, by rw [pby, h]; rfl⟩
theorem chg_app : ∀ (xs ys : List Int) (a d : Int), chg (xs ++ ys) a (some d) = chg xs a (some d) ++ chg ys (a + xs.length) (some (xs.getLastD d))
  | [], ys, a, d => by simp [chg]
  | x :: r, ys, a, d => by
    have e : (x :: r).getLastD d = r.getLastD x := by cases r <;> rfl
    have ih := chg_app r ys (a + 1) x
    have e2 : a + ((x :: r).length : Int) = a + 1 + r.length := by rw [List.length_cons]; omega
    rw [List.cons_append, chg, chg, e, e2]
    by_cases q : some d = some x
    · cases q
      rw [if_pos rfl, if_pos rfl, ih]
    · rw [if_neg q, if_neg q, ih, List.cons_append]
theorem chg_app0 {xs ys : List Int} (h : xs ≠ []) : chg (xs ++ ys) 0 none = chg xs 0 none ++ chg ys xs.length (some (xs.getLastD 0)) := by
  cases xs with
  | nil => exact absurd rfl h
  | cons x r =>
    have e : (x :: r).getLastD 0 = r.getLastD x := by cases r <;> rfl
    have e2 : ((x :: r).length : Int) = 0 + 1 + r.length := by rw [List.length_cons]; omega
    rw [List.cons_append, chg, if_neg (by simp), chg_app, chg, if_neg (by simp), e, e2]
    rfl
theorem chg_rep1 : ∀ (n : Nat) (s a : Int), chg (List.replicate n s) a (some s) = []
  | 0, _, _ => rfl
  | n + 1, s, a => by rw [List.replicate_succ, chg, if_pos rfl, chg_rep1 n]
theorem chg_repl (n : Nat) (s a : Int) (p : Option Int) : chg (List.replicate (n + 1) s) a p = if p = some s then [] else [(a, s)] := by
  rw [List.replicate_succ, chg]
  by_cases q : p = some s
  · rw [if_pos q, if_pos q, q, chg_rep1]
  · rw [if_neg q, if_neg q, chg_rep1]
theorem chg_lastS : ∀ (xs : List Int) (a d : Int), ((chg xs a (some d)).getLast?.map (·.2)).getD d = xs.getLastD d
  | [], _, _ => rfl
  | x :: r, a, d => by
    have e : (x :: r).getLastD d = r.getLastD x := by cases r <;> rfl
    have ih := chg_lastS r (a + 1) x
    rw [chg, e, ← ih]
    by_cases q : some d = some x
    · cases q
      rw [if_pos rfl]
    · rw [if_neg q, List.getLast?_cons]
      cases (chg r (a + 1) (some x)).getLast? <;> rfl
theorem chg_last {xs : List Int} (h : xs ≠ []) : ∃ M t, chg xs 0 none = M ++ [t] ∧ t.2 = xs.getLastD 0 := by
  cases xs with
  | nil => exact absurd rfl h
  | cons x r =>
    have e : (x :: r).getLastD 0 = r.getLastD x := by cases r <;> rfl
    have ih := chg_lastS r 1 x
    rw [chg, if_neg (by simp), e, ← ih]
    rcases List.eq_nil_or_concat (chg r (0 + 1) (some x)) with q | ⟨M, t, q⟩
    · rw [q, show chg r 1 (some x) = [] from q]
      exact ⟨[], (0, x), rfl, rfl⟩
    · rw [List.concat_eq_append] at q
      rw [q, show chg r 1 (some x) = M ++ [t] from q]
      exact ⟨(0, x) :: M, t, rfl, by simp⟩
theorem chg_len : ∀ (xs : List Int) (a : Int) (p : Option Int), (chg xs a p).length ≤ xs.length
  | [], _, _ => Nat.le_refl _
  | x :: r, a, p => by
    unfold chg
    have h1 := chg_len r (a + 1) p
    have h2 := chg_len r (a + 1) (some x)
    split <;> simp <;> omega
theorem chg_bound : ∀ {xs : List Int} {a : Int} {p : Option Int} {t : Int × Int}, t ∈ chg xs a p → a ≤ t.1 ∧ t.1 < a + xs.length ∧ t.2 ∈ xs
  | [], _, _, _, h => by simp [chg] at h
  | x :: r, a, p, t, h => by
    have e2 : a + ((x :: r).length : Int) = a + 1 + r.length := by rw [List.length_cons]; omega
    rw [e2]
    unfold chg at h
    have fin : ∀ p, t ∈ chg r (a + 1) p → a ≤ t.1 ∧ t.1 < a + 1 + r.length ∧ t.2 ∈ x :: r := fun p h => by
      obtain ⟨h1, h2, h3⟩ := chg_bound h
      exact ⟨by omega, h2, List.mem_cons_of_mem _ h3⟩
    split at h
    · exact fin _ h
    · rw [List.mem_cons] at h
      rcases h with h | h
      · subst h
        exact ⟨Int.le_refl _, by simp only; omega, List.mem_cons_self ..⟩
      · exact fin _ h
/-! ### turns and pieces, gone along -/
/-- each at least one beat long, not too many -/
structure Wl (ps : List (Int × Int)) : Prop where
  pos : ∀ p ∈ ps, 1 ≤ p.1
  len : (spd ps).length ≤ 15000
theorem Wl.plen {ps : List (Int × Int)} (W : Wl ps) : ps.length ≤ 15000 := by
  have h : ∀ qs : List (Int × Int), (∀ p ∈ qs, 1 ≤ p.1) → qs.length ≤ (spd qs).length := by
    intro qs
    induction qs with
    | nil => intro _; exact Nat.le_refl _
    | cons q qs ih =>
      intro h
      have h1 := ih fun p hp => h p (List.mem_cons_of_mem _ hp)
      have h2 := h q (List.mem_cons_self ..)
      rw [spd, List.length_append, List.length_replicate, List.length_cons]
      omega
  have := h ps W.pos
  have := W.len
  omega
theorem still_kp {S S' : Store} {v : PV} {xs : List PV} (h : itemsOf S v = some xs) (k : Kp no S S') : still S v S' := by
  cases v with
  | ref i =>
    show S'[i]? = S[i]?
    cases e : S[i]? with
    | none => simp [itemsOf, e] at h
    | some o => exact k.at_ i o (fun z => z) e
  | _ => trivial
theorem items_kp {S S' : Store} {v : PV} {xs : List PV} (h : itemsOf S v = some xs) (k : Kp no S S') : itemsOf S' v = some xs := by
  cases v with
  | ref i =>
    cases e : S[i]? with
    | none => simp [itemsOf, e] at h
    | some o =>
      have e2 := k.at_ i o (fun z => z) e
      simp only [itemsOf, e] at h
      simp only [itemsOf, e2]
      exact h
  | tup _ => exact h
  | scr _ => exact h
  | _ => cases h
theorem still_app {S S' l : Store} {v : PV} {xs : List PV} (h : still S v S') (hv : itemsOf S v = some xs) : still S v (S' ++ l) := by
  cases v with
  | ref i =>
    cases e : S[i]? with
    | none => simp [itemsOf, e] at hv
    | some o =>
      have h : S'[i]? = S[i]? := h
      rw [e] at h
      show (S' ++ l)[i]? = S[i]?
      rw [e]
      exact app_at h
  | _ => trivial
theorem still_set {S S0 S' : Store} {v : PV} {xs : List PV} {o : SO} (h : still (S ++ S0) v S') (hv : itemsOf S v = some xs) : still (S ++ S0) v (S'.set S.length o) := by
  cases v with
  | ref i =>
    cases e : S[i]? with
    | none => simp [itemsOf, e] at hv
    | some o' =>
      have h : S'[i]? = (S ++ S0)[i]? := h
      show (S'.set S.length o)[i]? = (S ++ S0)[i]?
      refine set_ne (fun z => ?_) h
      have := lt_of_at e
      omega
  | _ => trivial
def TurnsOk (C : CS) : Prop := ∀ {S : Store} {v : PV} {ps : List (Int × Int)} {Q : QV} {R : QX}, itemsOf S v = some (prs ps) → Wl ps → (∀ p S', S'[p]? = some (.lst (prs (chg (spd ps) 0 none))) → Kp no S S' → Q (.ref p) S') → C 0 [v] S Q R
theorem turns_ok {C : CS} : TurnsOk (bodyC tab C) := by
  intro S v ps Q R hv W h
  have wl := W.plen
  refine ⟨_, rfl, rfl, ?_⟩
  refine ⟨_, rfl, ?_⟩
  have k0 : Kp no S (S ++ [SO.lst []]) := Kp.refl.app
  have hv0 : itemsOf (S ++ [SO.lst []]) v = some (prs ps) := items_kp hv k0
  refine ⟨_, hv0, ?_⟩
  refine for_by (fun rs σ S' => ∃ L M u w, rs = prs M ∧ ps = L ++ M ∧ σ = [some v, some (.ref S.length), some (.int ((spd L).length : Int)), u, w] ∧ S'[S.length]? = some (.lst (prs (chg (spd L) 0 none))) ∧ Kp no S S' ∧ still (S ++ [SO.lst []]) v S') ?_ ?_ ?_ _ _ _ ?_
  · rintro r σ S' ⟨L, M, u, w, hr, he, rfl, hp, K', kk⟩
    exact kk
  · rintro σ S' ⟨L, M, u, w, hr, he, rfl, hp, K', kk⟩
    cases M with
    | cons _ _ => cases hr
    | nil =>
      rw [List.append_nil] at he
      subst he
      exact ⟨_, rfl, h _ S' hp K'⟩
  · rintro x rs σ S' K ⟨L, M, u, w, hr, he, rfl, hp, K', kk⟩ hK
    cases M with
    | nil => cases hr
    | cons q M =>
      obtain ⟨b, s⟩ := q
      injection hr with h1 h2
      subst h1 h2
      have hb : 1 ≤ b := W.pos (b, s) (by rw [he]; simp)
      obtain ⟨n, hn⟩ : ∃ n : Nat, b.toNat = n + 1 := ⟨b.toNat - 1, by omega⟩
      have eL : spd (L ++ [(b, s)]) = spd L ++ List.replicate (n + 1) s := by
        rw [spd_app, ← hn]
        show _ ++ (List.replicate b.toNat s ++ []) = _
        rw [List.append_nil]
      have eb : ((spd (L ++ [(b, s)])).length : Int) = ((spd L).length : Int) + b := by
        rw [eL, List.length_append, List.length_replicate]
        omega
      have hlen : (spd L).length ≤ 15000 := by
        have h2 : (spd ps).length ≤ 15000 := W.len
        rw [he, spd_app, List.length_append] at h2
        omega
      have fin : ∀ (D : En) S2, S2[S.length]? = some (.lst (prs (chg (spd (L ++ [(b, s)])) 0 none))) → Kp no S S2 → still (S ++ [SO.lst []]) v S2 → (∀ σ' S', (∃ L' M' u w, prs M = prs M' ∧ ps = L' ++ M' ∧ σ' = [some v, some (.ref S.length), some (.int ((spd L').length : Int)), u, w] ∧ S'[S.length]? = some (.lst (prs (chg (spd L') 0 none))) ∧ Kp no S S' ∧ still (S ++ [SO.lst []]) v S') → D.nx σ' S') →
          wpSs tab C (drp 1 bb0_1) [some v, some (.ref S.length), some (.int ((spd L).length : Int)), some (.int b), some (.int s)] S2 D := by
        intro D S2 g1 g2 g3 hD
        refine ⟨_, rfl, _, rfl, ?_⟩
        exact hD _ _ ⟨L ++ [(b, s)], M, some (.int b), some (.int s), rfl, by rw [he, List.append_assoc]; rfl, by rw [eb]; rfl, g1, g2, g3⟩
      refine ⟨_, rfl, rfl, _, _, rfl, _, _, rfl, rfl, ?_⟩
      refine ⟨_, rfl, ?_⟩
      refine ⟨_, _, .lst (app_at hp) (dats_prs _), .lst app_new .nil, (shaped_prs _).1, by decide, ?_⟩
      rw [eqv_nil]
      have hpa := app_at (l := [SO.lst []]) hp
      have K1 : Kp no S (S' ++ [SO.lst []]) := K'.app
      have kk1 : still (S ++ [SO.lst []]) v (S' ++ [SO.lst []]) := still_app kk hv0
      have app : ∀ (D : En) , chg (spd (L ++ [(b, s)])) 0 none = chg (spd L) 0 none ++ [(((spd L).length : Int), s)] → (∀ σ' S', (∃ L' M' u w, prs M = prs M' ∧ ps = L' ++ M' ∧ σ' = [some v, some (.ref S.length), some (.int ((spd L').length : Int)), u, w] ∧ S'[S.length]? = some (.lst (prs (chg (spd L') 0 none))) ∧ Kp no S S' ∧ still (S ++ [SO.lst []]) v S') → D.nx σ' S') →
          wpSs tab C bb0_0 [some v, some (.ref S.length), some (.int ((spd L).length : Int)), some (.int b), some (.int s)] (S' ++ [SO.lst []]) { D with nx := fun σ' S' => wpSs tab C (drp 1 bb0_1) σ' S' D } := by
        intro D e hD
        refine ⟨_, rfl, ?_⟩
        refine app_ok hpa ?_
        refine ⟨_, rfl, _, rfl, ?_⟩
        refine ⟨_, hpa, ?_, ?_⟩
        · rw [List.length_map]
          have := chg_len (spd L) 0 none
          show _ < 16777216
          omega
        · refine fin D _ ?_ (K1.set (.inl (Nat.le_refl _))) (still_set kk1 hv) hD
          rw [e, prs_snoc]
          exact set_at hpa
      by_cases hL : L = []
      · subst hL
        refine iteT rfl ?_
        refine app _ ?_ hK
        rw [eL]
        show chg (List.replicate (n + 1) s) 0 none = _
        rw [chg_repl]
        rfl
      · have hs : spd L ≠ [] := by
          cases L with
          | nil => exact absurd rfl hL
          | cons l L =>
            have := W.pos l (by rw [he]; simp)
            intro z
            have z := congrArg List.length z
            rw [spd, List.length_append, List.length_replicate] at z
            simp at z
            omega
        obtain ⟨N, t, et, el⟩ := chg_last hs
        have e0 : decide (chg (spd L) 0 none = []) = false := by rw [et]; simp
        rw [e0]
        refine iteF rfl ?_
        have ei : idx (prs (chg (spd L) 0 none)) (-1) = some (.tup [.int t.1, .int t.2]) := by rw [et]; exact idx_lastP
        refine ⟨_, rfl, _, rfl, _, _, items_ref hpa, ei, _, _, rfl, rfl, ?_⟩
        refine ⟨_, rfl, ?_⟩
        have ea : chg (spd (L ++ [(b, s)])) 0 none = chg (spd L) 0 none ++ (if t.2 = s then [] else [(((spd L).length : Int), s)]) := by
          rw [eL, chg_app0 hs, chg_repl, ← el]
          congr 1
          by_cases q : t.2 = s
          · rw [if_pos q, if_pos (by rw [q])]
          · rw [if_neg q, if_neg (fun z => q (by injection z))]
        refine iteN (fun hne => ?_) (fun heq => ?_)
        · refine app _ ?_ hK
          rw [ea, if_neg hne]
        · rw [if_pos heq, List.append_nil] at ea
          refine fin _ _ ?_ K1 kk1 hK
          rw [ea]
          exact hpa
  · exact ⟨[], ps, _, _, rfl, rfl, rfl, app_new, k0, still_same⟩
def PbyOk (C : CS) : Prop := ∀ {S : Store} {i : Nat} {f : Int × Int} {ts : List (Int × Int)} {e : Int} {Q : QV} {R : QX}, S[i]? = some (.lst (prs (f :: ts))) → ts.length ≤ 16000 → (∀ S', Kp no S S' → Q (.tup (prs (pby f ts e))) S') → C 1 [.ref i, .int e] S Q R
theorem pby_ok {C : CS} : PbyOk (bodyC tab C) := by
  intro S i f ts e Q R hi hl h
  refine ⟨_, rfl, rfl, ?_⟩
  refine ⟨_, rfl, _, items_ref hi, rfl, _, _, rfl, ?_, ?_⟩
  · rw [List.length_map]
    exact hl
  have hL := app_new (S := S) (o := .lst (prs ts))
  have hF := app_new (S := S ++ [SO.lst (prs ts)]) (o := .lst [])
  have hL2 := app_at (l := [SO.lst []]) hL
  refine ⟨_, rfl, _, items_ref hL2, ?_⟩
  have k0 : Kp no S (S ++ [SO.lst (prs ts)] ++ [SO.lst []]) := Kp.refl.app.app
  have nq : S.length ≠ (S ++ [SO.lst (prs ts)]).length := by simp
  have lq : S.length ≤ (S ++ [SO.lst (prs ts)]).length := by simp
  refine for_by (fun rs σ S' => ∃ g M A u w, rs = prs M ∧ σ = [some (.ref i), some (.int e), some (.tup [.int g.1, .int g.2]), some (.ref S.length), some (.ref (S ++ [SO.lst (prs ts)]).length), u, w] ∧ S'[(S ++ [SO.lst (prs ts)]).length]? = some (.lst (prs A)) ∧ S'[S.length]? = some (.lst (prs ts)) ∧ pby f ts e = A ++ pby g M e ∧ A.length + M.length ≤ 16000 ∧ Kp no S S') (fun r σ S' hh => ?_) ?_ ?_ _ _ _ ?_
  · obtain ⟨g, M, A, u, w, hr, rfl, h1, h2, h3, h4, h5⟩ := hh
    show S'[S.length]? = _
    rw [hL2]
    exact h2
  · rintro σ S' ⟨g, M, A, u, w, hr, rfl, h1, h2, h3, h4, h5⟩
    cases M with
    | cons _ _ => cases hr
    | nil =>
      refine ⟨_, rfl, ?_⟩
      refine ⟨_, rfl, _, rfl, _, _, rfl, rfl, ?_⟩
      refine ⟨_, rfl, _, _, rfl, rfl, ?_⟩
      refine ⟨_, _, app_at h1, app_new, ?_, ?_⟩
      · rw [List.length_map]
        simp at h4
        show A.length + 1 ≤ 16777216
        omega
      refine ⟨_, items_ref app_new, ?_⟩
      have e2 : prs A ++ [PV.tup [.int (if e - g.1 > 1 then e - g.1 else 1), .int g.2]] = prs (pby f ts e) := by
        rw [h3, pby]
        exact (prs_snoc (p := (if e - g.1 > 1 then e - g.1 else 1, g.2))).symm
      rw [e2]
      exact h _ h5.app.app
  · rintro x rs σ S' K ⟨g, M, A, u, w, hr, rfl, h1, h2, h3, h4, h5⟩ hK
    cases M with
    | nil => cases hr
    | cons t M =>
      injection hr with g1 g2
      subst g1 g2
      refine ⟨_, rfl, rfl, _, _, rfl, _, _, rfl, rfl, ?_⟩
      refine ⟨_, rfl, ?_⟩
      refine app_ok h1 ?_
      refine ⟨_, rfl, _, rfl, _, _, rfl, rfl, ?_⟩
      refine ⟨_, rfl, _, _, rfl, rfl, ?_⟩
      refine ⟨_, h1, ?_, ?_⟩
      · rw [List.length_map]
        simp at h4
        show A.length < 16777216
        omega
      refine ⟨_, rfl, _, rfl, ?_⟩
      refine hK _ _ ⟨t, M, A ++ [(t.1 - g.1, g.2)], _, _, rfl, rfl, ?_, set_ne (Ne.symm nq) h2, ?_, ?_, h5.set (.inl lq)⟩
      · rw [prs_snoc]
        exact set_at h1
      · rw [h3, pby, List.append_assoc]
        rfl
      · simp at h4 ⊢
        omega
  · exact ⟨f, ts, [], _, _, rfl, rfl, hF, hL2, rfl, by simpa using hl, k0⟩
theorem eqv_pds : ∀ a b : List (Int × Int), PyData.eqvAll (pds a) (pds b) = decide (a = b)
  | [], [] => rfl
  | [], _ :: _ => rfl
  | _ :: _, [] => rfl
  | x :: a, y :: b => by
    have ih := eqv_pds a b
    show (PyData.eqv (.tuple [.int x.1, .int x.2]) (.tuple [.int y.1, .int y.2]) && PyData.eqvAll (pds a) (pds b)) = _
    rw [ih]
    have e : PyData.eqv (.tuple [.int x.1, .int x.2]) (.tuple [.int y.1, .int y.2]) = (decide (x.1 = y.1) && (decide (x.2 = y.2) && true)) := by
      simp [PyData.eqv, PyData.eqvAll]
      rfl
    rw [e]
    by_cases q : x = y
    · subst q
      by_cases q2 : a = b <;> simp [q2]
    · have q3 : ¬ (x.1 = y.1 ∧ x.2 = y.2) := fun z => q (Prod.ext z.1 z.2)
      have q4 : ¬ x :: a = y :: b := fun z => q (by injection z)
      rw [decide_eq_false q4]
      by_cases q5 : x.1 = y.1
      · have q6 : ¬ x.2 = y.2 := fun z => q3 ⟨q5, z⟩
        simp [q6]
      · simp [q5]
theorem eqv_is : ∀ a b : List Int, PyData.eqvAll (a.map .int) (b.map .int) = decide (a = b)
  | [], [] => rfl
  | [], _ :: _ => rfl
  | _ :: _, [] => rfl
  | x :: a, y :: b => by
    have ih := eqv_is a b
    show (PyData.eqv (.int x) (.int y) && PyData.eqvAll (a.map .int) (b.map .int)) = _
    rw [ih]
    have e : PyData.eqv (.int x) (.int y) = decide (x = y) := by
      simp [PyData.eqv]
      rfl
    rw [e]
    by_cases q : x = y
    · subst q
      by_cases q2 : a = b <;> simp [q2]
    · simp [q]
theorem eqv_pairs (a b : List (Int × Int)) : PyData.eqv (.list (pds a)) (.list (pds b)) = decide (a = b) := eqv_pds a b
theorem eqv_numbers (a b : List Int) : PyData.eqv (.list (a.map .int)) (.list (b.map .int)) = decide (a = b) := eqv_is a b
theorem eqv_tuples (a b : List Int) : PyData.eqv (.tuple (a.map .int)) (.tuple (b.map .int)) = decide (a = b) := eqv_is a b
/-! ### a road, beat by beat -/
theorem Rd.snoc {ps : List (Int × Int)} (G : Rd ps) : ∃ M, spd ps = M ++ [lst ps] ∧ 1 ≤ lst ps ∧ lst ps ≤ 1000 := by
  obtain ⟨L, b, s, e, h⟩ := G.last
  have hb := G.all (b, s) (by rw [e]; simp)
  obtain ⟨n, hn⟩ : ∃ n : Nat, b.toNat = n + 1 := ⟨b.toNat - 1, by have := hb.1; simp at this; omega⟩
  refine ⟨spd L ++ List.replicate n s, ?_, ?_, ?_⟩
  · rw [e, spd_app, lst_snoc]
    show spd L ++ (List.replicate b.toNat s ++ []) = _
    rw [hn, List.replicate_succ', List.append_nil, List.append_assoc]
  · rw [e, lst_snoc]
    exact h
  · rw [e, lst_snoc]
    exact hb.2.2.2
theorem Rd.nil {ps : List (Int × Int)} (G : Rd ps) : spd ps ≠ [] := by
  obtain ⟨M, e, _⟩ := G.snoc
  rw [e]
  simp
theorem Rd.lastD {ps : List (Int × Int)} (G : Rd ps) : (spd ps).getLastD 0 = lst ps := by
  obtain ⟨M, e, _⟩ := G.snoc
  rw [e, List.getLastD_concat]
theorem Rd.wl {ps : List (Int × Int)} (G : Rd ps) : Wl ps := ⟨G.pos, G.len⟩
theorem spAt_ext {ps : List (Int × Int)} (G : Rd ps) {b : Int} (h : 0 ≤ b) : spAt ps b = ext (spd ps) 0 b.toNat := by
  unfold spAt ext
  rw [atR_spd G.pos h, G.lastD, List.getD_eq_getElem?_getD]
theorem drop_rep {xs : List Int} (h : xs ≠ []) (k m : Nat) : xs.drop k ++ List.replicate m (xs.getLastD 0) = (List.range ((xs.length - k) + m)).map fun i => ext xs 0 (k + i) := by
  apply List.ext_getElem?
  intro i
  rw [List.getElem?_map]
  by_cases q : i < xs.length - k
  · rw [List.getElem?_append_left (by rw [List.length_drop]; exact q), List.getElem?_drop, List.getElem?_eq_getElem (by omega), List.getElem?_eq_getElem (by rw [List.length_range]; omega), List.getElem_range]
    show _ = some (ext xs 0 (k + i))
    rw [ext_lt (by omega)]
  · rw [List.getElem?_append_right (by rw [List.length_drop]; omega), List.length_drop]
    by_cases q2 : i < (xs.length - k) + m
    · rw [List.getElem?_eq_getElem (by rw [List.length_replicate]; omega), List.getElem_replicate, List.getElem?_eq_getElem (by rw [List.length_range]; exact q2), List.getElem_range]
      show _ = some (ext xs 0 (k + i))
      rw [ext_ge (by omega)]
    · rw [List.getElem?_eq_none (by rw [List.length_replicate]; omega), List.getElem?_eq_none (by rw [List.length_range]; omega)]
      rfl
def EqOk (C : CS) : Prop := ∀ {S : Store} {i j : Nat} {ps qs : List (Int × Int)} {Q : QV} {R : QX}, S[i]? = some (roadS ps) → S[j]? = some (roadS qs) → Rd ps → Rd qs → (∀ S', Kp no S S' → Q (.bl (decide (chg (spd ps) 0 none = chg (spd qs) 0 none))) S') → C 3 [.ref i, .ref j] S Q R
theorem road_inst {S : Store} {i : Nat} {ps : List (Int × Int)} (h : S[i]? = some (roadS ps)) : isInst tab S (.ref i) (.cls 0) = some true := by
  simp only [isInst, knd]
  rw [h]
  rfl
theorem eqk_road {S : Store} {i j : Nat} {ps qs : List (Int × Int)} (hi : S[i]? = some (roadS ps)) (hj : S[j]? = some (roadS qs)) : eqKind S (.ref i) (.ref j) := by
  simp only [eqKind, knd]
  rw [hi, hj]
theorem eq_ok {C : CS} (tu : TurnsOk C) : EqOk (bodyC tab C) := by
  intro S i j ps qs Q R hi hj G G' h
  refine ⟨_, rfl, rfl, ?_⟩
  refine ⟨_, rfl, _, road_inst hj, _, rfl, ?_⟩
  refine ⟨_, rfl, _, fld_pieces hj, ?_⟩
  refine tu (v := .tup (prs qs)) rfl G'.wl fun p S1 hp K1 => ?_
  have hi1 := K1.at_ _ _ (fun z => z) hi
  refine ⟨_, rfl, _, fld_pieces hi1, ?_⟩
  refine tu (v := .tup (prs ps)) rfl G.wl fun q S2 hq K2 => ?_
  have hp2 := K2.at_ _ _ (fun z => z) hp
  refine ⟨_, _, .lst hp2 (dats_prs _), .lst hq (dats_prs _), (shaped_prs _).1, (shaped_prs _).1, ?_⟩
  rw [eqv_pairs, show decide (chg (spd qs) 0 none = chg (spd ps) 0 none) = decide (chg (spd ps) 0 none = chg (spd qs) 0 none) from by rw [decide_eq_decide]; exact ⟨Eq.symm, Eq.symm⟩]
  exact h S2 (K1.trans K2)
def LenOk (C : CS) : Prop := ∀ {S : Store} {i : Nat} {ps : List (Int × Int)} {Q : QV} {R : QX}, S[i]? = some (roadS ps) → Rd ps → (∀ S', Kp no S S' → Q (.int ((spd ps).length : Int)) S') → C 4 [.ref i] S Q R
theorem sum_beats : ∀ {ps : List (Int × Int)}, (∀ p ∈ ps, 1 ≤ p.1) → (ps.map (·.1)).sum = ((spd ps).length : Int)
  | [], _ => rfl
  | p :: r, h => by
    have ih := sum_beats (ps := r) fun q hq => h q (List.mem_cons_of_mem _ hq)
    have hp := h p (List.mem_cons_self ..)
    rw [List.map_cons, List.sum_cons, ih, spd, List.length_append, List.length_replicate]
    omega
theorem len_ok {C : CS} : LenOk (bodyC tab C) := by
  intro S i ps Q R hi G h
  refine ⟨_, rfl, rfl, ?_⟩
  refine ⟨_, rfl, _, fld_pieces hi, _, rfl, ?_, ?_⟩
  · rw [List.length_map]
    have := G.wl.plen
    show ps.length ≤ 16777216
    omega
  refine lc_map (fun x => match x with
    | .tup [.int a, .int b] => .int a
    | _ => .non) trivial _ _ (fun x hx K hK => ?_) ?_
  · obtain ⟨⟨a, b⟩, _, rfl⟩ := List.mem_map.mp hx
    refine ⟨_, rfl, rfl, _, _, rfl, _, _, rfl, rfl, ?_⟩
    exact ⟨_, rfl, hK⟩
  have e : (prs ps).map (fun x => match x with
    | PV.tup [.int a, .int b] => PV.int a
    | _ => .non) = nums (ps.map (·.1)) := by
    rw [List.map_map]
    show _ = List.map PV.int (List.map (·.1) ps)
    rw [List.map_map]
    rfl
  rw [List.nil_append, e]
  refine ⟨_, lst_ref app_new, ?_⟩
  rw [sum_beats G.pos]
  have := G.len
  refine ⟨_, rfl, by omega, by omega, ?_⟩
  exact h _ Kp.refl.app
/-! ### a road from a beat on; a known road -/
theorem chg_from {xs : List Int} (b : Nat) (h : b < xs.length) : ((chg xs 0 none).filter fun t => decide (t.1 > (b : Int))).map (fun t => (t.1 - (b : Int), t.2)) = chg (xs.drop (b + 1)) 1 (some (ext xs 0 b)) := by
  have hx : xs = xs.take (b + 1) ++ xs.drop (b + 1) := (List.take_append_drop ..).symm
  have hl : (xs.take (b + 1)).length = b + 1 := by rw [List.length_take]; omega
  have ne : xs.take (b + 1) ≠ [] := by intro z; rw [z] at hl; simp at hl
  have el : (xs.take (b + 1)).getLastD 0 = ext xs 0 b := by
    rw [ext_lt h, last_get ne]
    simp [hl]
  have e : chg xs 0 none = chg (xs.take (b + 1)) 0 none ++ chg (xs.drop (b + 1)) ((b : Int) + 1) (some (ext xs 0 b)) := by
    have := chg_app0 (ys := xs.drop (b + 1)) ne
    rw [← hx, el, hl] at this
    exact this
  rw [e, List.filter_append]
  have e1 : (chg (xs.take (b + 1)) 0 none).filter (fun t => decide (t.1 > (b : Int))) = [] := by
    rw [List.filter_eq_nil_iff]
    intro t ht
    have := (chg_bound ht).2.1
    rw [hl] at this
    simp
    omega
  have e2 : (chg (xs.drop (b + 1)) ((b : Int) + 1) (some (ext xs 0 b))).filter (fun t => decide (t.1 > (b : Int))) = chg (xs.drop (b + 1)) ((b : Int) + 1) (some (ext xs 0 b)) := by
    rw [List.filter_eq_self]
    intro t ht
    have := (chg_bound ht).1
    simp
    omega
  rw [e1, e2, List.nil_append]
  have gen : ∀ (ys : List Int) (a : Int) (p : Option Int), (chg ys a p).map (fun t => (t.1 - (b : Int), t.2)) = chg ys (a - b) p := by
    intro ys
    induction ys with
    | nil => intro a p; rfl
    | cons y ys ih =>
      intro a p
      unfold chg
      by_cases q : p = some y
      · rw [if_pos q, if_pos q, ih, show a + 1 - (b : Int) = a - b + 1 from by omega]
      · rw [if_neg q, if_neg q, List.map_cons, ih, show a + 1 - (b : Int) = a - b + 1 from by omega]
  rw [gen]
  congr 1
  omega
theorem chg_past {xs : List Int} (b : Nat) (h : xs.length ≤ b) : (chg xs 0 none).filter (fun t => decide (t.1 > (b : Int))) = [] := by
  rw [List.filter_eq_nil_iff]
  intro t ht
  have := (chg_bound ht).2.1
  simp
  omega
/-- the pieces behind a beat -/
def behF (xs : List Int) (b : Nat) : List (Int × Int) := pby (0, ext xs 0 b) (((chg xs 0 none).filter fun t => decide (t.1 > (b : Int))).map fun t => (t.1 - (b : Int), t.2)) ((xs.length : Int) - b)
def behS (xs : List Int) (b : Nat) : List Int := if b < xs.length then xs.drop b else [xs.getLastD 0]
theorem behF_spd {xs : List Int} (b : Nat) : spd (behF xs b) = behS xs b := by
  unfold behF behS
  by_cases q : b < xs.length
  · rw [chg_from b q, if_pos q, pby_spd _ 0 1 _ _ (by decide) (by rw [List.length_drop]; omega), List.drop_eq_getElem_cons q, ext_lt q]
    rfl
  · rw [chg_past b (by omega), if_neg q, List.map_nil, pby, spd, spd, ext_ge (by omega), List.append_nil]
    have : (if (xs.length : Int) - b - 0 > 1 then (xs.length : Int) - b - 0 else 1) = 1 := by split <;> omega
    simp only [this]
    rfl
theorem behF_all {xs : List Int} (hx : xs ≠ []) (b : Nat) : ∀ p ∈ behF xs b, 1 ≤ p.1 ∧ p.2 ∈ xs := by
  intro p hp
  unfold behF at hp
  have hl := List.length_pos_iff.mpr hx
  by_cases q : b < xs.length
  · rw [chg_from b q] at hp
    obtain ⟨h1, h2⟩ := pby_all _ 0 1 _ _ (by decide) p hp
    refine ⟨h1, ?_⟩
    rw [List.mem_cons] at h2
    rcases h2 with h2 | h2
    · rw [h2, ext_lt q]
      exact List.getElem_mem q
    · exact List.mem_of_mem_drop h2
  · rw [chg_past b (by omega), List.map_nil, pby, List.mem_singleton] at hp
    subst hp
    refine ⟨by simp only; split <;> omega, ?_⟩
    simp only
    rw [ext_ge (by omega), last_get hx]
    exact List.getElem_mem _
theorem spd_mem_of {ps : List (Int × Int)} {p : Int × Int} (h : p ∈ ps) (h1 : 1 ≤ p.1) : p.2 ∈ spd ps := by
  induction ps with
  | nil => simp at h
  | cons q r ih =>
    rw [spd, List.mem_append]
    rw [List.mem_cons] at h
    rcases h with h | h
    · subst h
      exact .inl (List.mem_replicate.mpr ⟨by omega, rfl⟩)
    · exact .inr (ih h)
theorem beats_le {ps : List (Int × Int)} (hp : ∀ p ∈ ps, 1 ≤ p.1) : ∀ p ∈ ps, p.1 ≤ ((spd ps).length : Int) := by
  induction ps with
  | nil => intro p h; simp at h
  | cons q r ih =>
    intro p h
    have hq := hp q (List.mem_cons_self ..)
    have ih := ih fun z hz => hp z (List.mem_cons_of_mem _ hz)
    rw [spd, List.length_append, List.length_replicate]
    rw [List.mem_cons] at h
    rcases h with h | h
    · subst h
      omega
    · have := ih p h
      omega
/-- pieces whose speeds are such a row are a road's -/
theorem rd_of {ps : List (Int × Int)} {xs : List Int} (e : spd ps = xs) (hp : ∀ p ∈ ps, 1 ≤ p.1) (ne : ∃ L p, ps = L ++ [p]) (hx : ∀ x ∈ xs, 0 ≤ x ∧ x ≤ 1000) (hl : xs.length ≤ 15000) (h1 : 1 ≤ xs.getLastD 0) : Rd ps := by
  refine ⟨by rw [e]; exact hl, fun p h => ?_, ?_⟩
  · have a1 := hp p h
    have a2 := beats_le hp p h
    have a3 := hx p.2 (by rw [← e]; exact spd_mem_of h a1)
    rw [e] at a2
    omega
  · obtain ⟨L, ⟨b, s⟩, el⟩ := ne
    refine ⟨L, b, s, el, ?_⟩
    have hb := hp (b, s) (by rw [el]; simp)
    obtain ⟨n, hn⟩ : ∃ n : Nat, b.toNat = n + 1 := ⟨b.toNat - 1, by simp only at hb; omega⟩
    have e2 : xs = spd L ++ List.replicate n s ++ [s] := by
      rw [← e, el, spd_app]
      show spd L ++ (List.replicate b.toNat s ++ []) = _
      rw [hn, List.replicate_succ', List.append_nil, List.append_assoc]
    rw [e2, List.getLastD_concat] at h1
    exact h1
theorem Rd.speeds {ps : List (Int × Int)} (G : Rd ps) : ∀ x ∈ spd ps, 0 ≤ x ∧ x ≤ 1000 := fun x hx => by
  obtain ⟨p, hp, e⟩ := spd_mem hx
  have := G.all p hp
  rw [e]
  exact ⟨this.2.2.1, this.2.2.2⟩
theorem behF_rd {ps : List (Int × Int)} (G : Rd ps) (b : Nat) : Rd (behF (spd ps) b) := by
  have hs := G.snoc
  have h1 : 1 ≤ (spd ps).getLastD 0 := by rw [G.lastD]; obtain ⟨_, _, h, _⟩ := hs; exact h
  refine rd_of (behF_spd b) (fun p hp => (behF_all G.nil b p hp).1) (pby_ne _ _ _) ?_ ?_ ?_
  · intro x hx
    unfold behS at hx
    split at hx
    · exact G.speeds x (List.mem_of_mem_drop hx)
    · rw [List.mem_singleton] at hx
      rw [hx, last_get G.nil]
      exact G.speeds _ (List.getElem_mem _)
  · unfold behS
    have := G.len
    split
    · rw [List.length_drop]; omega
    · simp
  · unfold behS
    split
    · rename_i q
      have : ((spd ps).drop b).getLastD 0 = (spd ps).getLastD 0 := by
        rw [last_get (by intro z; have := congrArg List.length z; rw [List.length_drop] at this; simp at this; omega), last_get G.nil, List.getElem_drop]
        congr 1
        rw [List.length_drop]
        omega
      rw [this]
      exact h1
    · simpa using h1
theorem behS_ext {xs : List Int} (hx : xs ≠ []) (b k : Nat) : ext (behS xs b) 0 k = ext xs 0 (b + k) := by
  unfold behS
  by_cases q : b < xs.length
  · rw [if_pos q]
    by_cases q2 : b + k < xs.length
    · rw [ext_lt (by rw [List.length_drop]; omega), ext_lt q2, List.getElem_drop]
    · rw [ext_ge (by rw [List.length_drop]; omega), ext_ge (by omega), last_get (by intro z; have := congrArg List.length z; rw [List.length_drop] at this; simp at this; omega), last_get hx, List.getElem_drop]
      congr 1
      rw [List.length_drop]
      omega
  · have e : ext xs 0 (b + k) = xs.getLastD 0 := ext_ge (by omega)
    rw [if_neg q, e]
    unfold ext
    cases k <;> simp
/-! ### a known road -/
def knF (xs : List Int) : List (Int × Int) := pby (0, xs.headD 0) (chg xs.tail 1 (some (xs.headD 0))) xs.length
theorem knF_spd : ∀ {xs : List Int}, xs ≠ [] → spd (knF xs) = xs
  | [], h => absurd rfl h
  | x :: r, _ => by
    show spd (pby (0, x) (chg r 1 (some x)) ((r.length + 1 : Nat) : Int)) = _
    rw [pby_spd r 0 1 x _ (by decide) (by omega)]
    rfl
theorem knF_all : ∀ {xs : List Int}, xs ≠ [] → ∀ p ∈ knF xs, 1 ≤ p.1
  | [], h => absurd rfl h
  | x :: r, _ => fun p hp => (pby_all r 0 1 x _ (by decide) p hp).1
theorem one_spd : ∀ xs : List Int, spd (xs.map fun s => (1, s)) = xs
  | [] => rfl
  | x :: r => by
    show x :: spd (r.map fun s => ((1 : Int), s)) = _
    rw [one_spd r]
/-- a row of speeds as it must be -/
structure Spw (xs : List Int) : Prop where
  ne : xs ≠ []
  all : ∀ x ∈ xs, 0 ≤ x ∧ x ≤ 1000
  len : xs.length ≤ 600
  last : 1 ≤ xs.getLastD 0
theorem knF_rd {xs : List Int} (G : Spw xs) : Rd (knF xs) := rd_of (knF_spd G.ne) (knF_all G.ne) (pby_ne _ _ _) G.all (by have := G.len; omega) G.last
theorem Good.spw {ps : List (Int × Int)} (G : Good ps) : Spw (spd ps) := by
  obtain ⟨M, e, h1, h2⟩ := G.snoc
  exact ⟨G.rd.nil, G.rd.speeds, G.spd_len, by rw [G.rd.lastD]; exact h1⟩
def KnownOk (C : CS) : Prop := ∀ {S : Store} {xs : List Int} {Q : QV} {R : QX}, Spw xs → (∀ r S', S.length ≤ r → S'[r]? = some (roadS (knF xs)) → Kp no S S' → Q (.ref r) S') → C 8 [.tup (nums xs)] S Q R
theorem known_ok {C : CS} (tu : TurnsOk C) (pb : PbyOk C) (ro : RoadOk C) : KnownOk (bodyC tab C) := by
  intro S xs Q R G h
  have gl := G.len
  refine ⟨_, rfl, rfl, ?_⟩
  refine ⟨_, rfl, _, rfl, ?_, ?_⟩
  · rw [List.length_map]
    show _ ≤ 16777216
    omega
  refine lc_map (fun x => match x with
    | .int i => .tup [.int 1, .int i]
    | _ => .non) still_same _ _ (fun x hx K hK => ?_) ?_
  · obtain ⟨i, _, rfl⟩ := nums_mem hx
    exact ⟨_, rfl, hK⟩
  have el : (nums xs).map (fun x => match x with
    | PV.int i => PV.tup [.int 1, .int i]
    | _ => .non) = prs (xs.map fun s => (1, s)) := by
    rw [List.map_map]
    show _ = List.map _ (List.map _ xs)
    rw [List.map_map]
    rfl
  rw [List.nil_append, el]
  refine tu (ps := xs.map fun s => (1, s)) (items_ref app_new) ⟨fun p hp => ?_, by rw [one_spd]; omega⟩ fun p S1 hp K1 => ?_
  · obtain ⟨s, _, rfl⟩ := List.mem_map.mp hp
    exact Int.le_refl _
  rw [one_spd] at hp
  refine ⟨_, rfl, _, rfl, ?_⟩
  rw [List.length_map]
  have hc := chg_len xs 0 none
  obtain ⟨x, r, rfl⟩ : ∃ x r, xs = x :: r := by
    cases xs with
    | nil => exact absurd rfl G.ne
    | cons x r => exact ⟨x, r, rfl⟩
  have ec : chg (x :: r) 0 none = (0, x) :: chg r 1 (some x) := rfl
  rw [ec] at hp hc
  refine pb (f := (0, x)) hp ?_ fun S2 K2 => ?_
  · simp at hc gl ⊢
    omega
  refine ⟨_, rfl, ?_⟩
  refine ro app_new ⟨rfl, ?_⟩
  have KK : Kp no S S2 := (Kp.refl.app).trans (K1.trans K2)
  exact h _ _ KK.len (set_at app_new) ((KK.app).set (.inl KK.len))
theorem suR_none {ps : List (Int × Int)} {f : Int} : suR ps f f = 0 := by
  unfold suR
  rw [selS_none _ _ _ _ (Int.le_refl _)]
  have : (if f - (if ((spd ps).length : Int) > f then ((spd ps).length : Int) else f) > 0 then f - (if ((spd ps).length : Int) > f then ((spd ps).length : Int) else f) else 0) = 0 := by
    repeat' split
    all_goals omega
  rw [this]
  simp
theorem suR_add {ps : List (Int × Int)} {f m l : Int} (h1 : f ≤ m) (h2 : m ≤ l) : suR ps f m + suR ps m l = suR ps f l := by
  unfold suR
  rw [← selS_add (spd ps) 0 f m l h1 h2]
  generalize ((spd ps).length : Int) = n
  have e : (if l - (if n > f then n else f) > 0 then l - (if n > f then n else f) else 0) = (if m - (if n > f then n else f) > 0 then m - (if n > f then n else f) else 0) + (if l - (if n > m then n else m) > 0 then l - (if n > m then n else m) else 0) := by
    repeat' split
    all_goals omega
  rw [e, Int.mul_add]
  omega
theorem suR_one {ps : List (Int × Int)} (G : Rd ps) {f : Int} (h : 0 ≤ f) : suR ps f (f + 1) = spAt ps f := by
  unfold suR spAt
  rw [selS_cut _ _ _ _ h, atR_spd G.pos h, Int.sub_zero, show (f + 1 - f).toNat = 1 from by omega]
  by_cases q : f.toNat < (spd ps).length
  · rw [List.getElem?_eq_getElem q, List.drop_eq_getElem_cons q, List.take_succ_cons, List.take_zero]
    have : (if f + 1 - (if ((spd ps).length : Int) > f then ((spd ps).length : Int) else f) > 0 then f + 1 - (if ((spd ps).length : Int) > f then ((spd ps).length : Int) else f) else 0) = 0 := by
      repeat' split
      all_goals omega
    rw [this]
    simp
  · rw [List.getElem?_eq_none (by omega), List.drop_eq_nil_of_le (by omega)]
    have : (if f + 1 - (if ((spd ps).length : Int) > f then ((spd ps).length : Int) else f) > 0 then f + 1 - (if ((spd ps).length : Int) > f then ((spd ps).length : Int) else f) else 0) = 1 := by
      repeat' split
      all_goals omega
    rw [this]
    simp
theorem suR_sum {ps : List (Int × Int)} (G : Rd ps) (f : Nat) : ∀ n : Nat, suR ps f ((f : Int) + n) = ((List.range n).map fun i => ext (spd ps) 0 (f + i)).sum
  | 0 => by
    rw [show ((f : Int) + ((0 : Nat) : Int)) = f from by omega, suR_none]
    rfl
  | n + 1 => by
    rw [← suR_add (m := (f : Int) + n) (by omega) (by omega), suR_sum G f n, show ((f : Int) + ((n + 1 : Nat) : Int)) = ((f : Int) + n) + 1 from by omega, suR_one G (by omega), spAt_ext G (by omega), List.range_succ, List.map_append, List.sum_append]
    congr 1
    have : ((f : Int) + (n : Int)).toNat = f + n := by omega
    rw [this]
    simp
theorem fetL_rep : ∀ (xs : List Int) {z : Int} (n : Nat) (b l : Int), 0 < z → fetL (xs ++ List.replicate n z) z b l = fetL xs z b l
  | [], z, n, b, l, hz => by
    rw [List.nil_append]
    by_cases q : l ≤ 0
    · rw [fetL_done q, fetL_done q]
    · rw [fetL_last hz (by omega), fetL, if_neg q]
  | x :: r, z, n, b, l, hz => by
    rw [List.cons_append, fetL, fetL, fetL_rep r n _ _ hz]
theorem fetL_shift : ∀ (xs : List Int) (z b c l : Int), fetL xs z (b + c) l = fetL xs z b l + c
  | [], z, b, c, l => by
    rw [fetL, fetL]
    split <;> omega
  | x :: r, z, b, c, l => by
    rw [fetL, fetL, show b + c + 1 = b + 1 + c from by omega, fetL_shift r z (b + 1) c (l - x)]
    split <;> rfl
theorem fet_same {xs ys : List Int} (hx : xs ≠ []) (hy : ys ≠ []) {h k : Nat} (hz : 0 < xs.getLastD 0) (e : ∀ i, ext xs 0 (h + i) = ext ys 0 (k + i)) (b l : Int) : fetL (xs.drop h) (xs.getLastD 0) b l = fetL (ys.drop k) (ys.getLastD 0) b l := by
  have ez : xs.getLastD 0 = ys.getLastD 0 := by
    have := e (xs.length + ys.length)
    rwa [ext_ge (by omega), ext_ge (by omega)] at this
  rw [← fetL_rep (xs.drop h) (ys.length - k) b l hz, ← fetL_rep (ys.drop k) (xs.length - h) b l (by rw [← ez]; exact hz), drop_rep hx, drop_rep hy, Nat.add_comm (ys.length - k), ez]
  congr 1
  exact List.map_congr_left fun i _ => e i
theorem fetR_same {ps qs : List (Int × Int)} (G : Rd ps) (G' : Rd qs) {h k : Nat} (e : ∀ i, ext (spd ps) 0 (h + i) = ext (spd qs) 0 (k + i)) (l : Int) : fetR ps h l + k = fetR qs k l + h := by
  unfold fetR
  rw [Int.toNat_natCast, Int.toNat_natCast, ← G.lastD, ← G'.lastD]
  have hz : 0 < (spd ps).getLastD 0 := by rw [G.lastD]; obtain ⟨_, _, q, _⟩ := G.snoc; omega
  have h1 := fet_same G.nil G'.nil hz e 0 l
  have h2 := fetL_shift ((spd ps).drop h) ((spd ps).getLastD 0) 0 h l
  have h3 := fetL_shift ((spd qs).drop k) ((spd qs).getLastD 0) 0 k l
  rw [Int.zero_add] at h2 h3
  rw [h2, h3, h1]
  omega
/-! ### fetched: the least beat that is enough -/
abbrev Amt (ps : List (Int × Int)) (h n : Nat) : Int := ((List.range n).map fun i => ext (spd ps) 0 (h + i)).sum
theorem fetL_least : ∀ (xs : List Int) (z b l : Int), 1 ≤ l → l ≤ xs.sum → ∃ n : Nat, n ≤ xs.length ∧ 1 ≤ n ∧ fetL xs z b l = b + n ∧ l ≤ (xs.take n).sum ∧ (xs.take (n - 1)).sum < l
  | [], z, b, l, h1, h2 => by
    simp at h2
    omega
  | x :: r, z, b, l, h1, h2 => by
    rw [List.sum_cons] at h2
    rw [fetL, if_neg (by omega)]
    by_cases q : l - x ≤ 0
    · exact ⟨1, by simp, Nat.le_refl _, by rw [fetL_done q]; rfl, by simp; omega, by simp; omega⟩
    · obtain ⟨n, a1, a2, a3, a4, a5⟩ := fetL_least r z (b + 1) (l - x) (by omega) (by omega)
      refine ⟨n + 1, by simp; omega, by omega, by rw [a3]; omega, by rw [List.take_succ_cons, List.sum_cons]; omega, ?_⟩
      obtain ⟨m, rfl⟩ : ∃ m, n = m + 1 := ⟨n - 1, by omega⟩
      show (List.take (m + 1) (x :: r)).sum < l
      rw [List.take_succ_cons, List.sum_cons]
      simp at a5
      omega
theorem ext_nn {ps : List (Int × Int)} (G : Rd ps) (i : Nat) : 0 ≤ ext (spd ps) 0 i ∧ ext (spd ps) 0 i ≤ 1000 := by
  by_cases q : i < (spd ps).length
  · rw [ext_lt q]
    exact G.speeds _ (List.getElem_mem q)
  · rw [ext_ge (by omega), G.lastD]
    obtain ⟨_, _, h1, h2⟩ := G.snoc
    omega
theorem Amt_succ (ps : List (Int × Int)) (h n : Nat) : Amt ps h (n + 1) = Amt ps h n + ext (spd ps) 0 (h + n) := by
  unfold Amt
  rw [List.range_succ, List.map_append, List.sum_append]
  simp
theorem Amt_mono {ps : List (Int × Int)} (G : Rd ps) (h n : Nat) : ∀ k, Amt ps h n ≤ Amt ps h (n + k)
  | 0 => Int.le_refl _
  | k + 1 => by
    have := Amt_mono G h n k
    have := (ext_nn G (h + (n + k))).1
    rw [show n + (k + 1) = n + k + 1 from rfl, Amt_succ]
    omega
theorem Amt_add (ps : List (Int × Int)) (h n : Nat) : ∀ k, Amt ps h (n + k) = Amt ps h n + Amt ps (h + n) k
  | 0 => by simp [Amt]
  | k + 1 => by
    rw [show n + (k + 1) = n + k + 1 from rfl, Amt_succ, Amt_add ps h n k, Amt_succ, Nat.add_assoc h n k]
    omega
theorem Amt_big {ps : List (Int × Int)} (G : Rd ps) (h : Nat) : ∀ m : Nat, (m : Int) ≤ Amt ps h ((spd ps).length + m)
  | 0 => by
    have := Amt_mono G h 0 (spd ps).length
    rw [Nat.zero_add] at this
    exact this
  | m + 1 => by
    have h1 := Amt_big G h m
    have e : ext (spd ps) 0 (h + ((spd ps).length + m)) = lst ps := by rw [ext_ge (by omega), G.lastD]
    obtain ⟨_, _, h2, _⟩ := G.snoc
    rw [show (spd ps).length + (m + 1) = (spd ps).length + m + 1 from rfl, Amt_succ, e]
    omega
theorem least {ps : List (Int × Int)} (G : Rd ps) (h : Nat) {l : Int} (l1 : 1 ≤ l) : ∃ n : Nat, 1 ≤ n ∧ n ≤ (spd ps).length + l.toNat ∧ fetR ps h l = h + n ∧ l ≤ Amt ps h n ∧ Amt ps h (n - 1) < l := by
  have hz : 0 < (spd ps).getLastD 0 := by rw [G.lastD]; obtain ⟨_, _, q, _⟩ := G.snoc; omega
  have e : fetR ps h l = fetL ((List.range ((spd ps).length - h + ((spd ps).length + l.toNat - ((spd ps).length - h)))).map fun i => ext (spd ps) 0 (h + i)) (lst ps) h l := by
    unfold fetR
    rw [Int.toNat_natCast, ← G.lastD, ← fetL_rep ((spd ps).drop h) ((spd ps).length + l.toNat - ((spd ps).length - h)) h l hz, drop_rep G.nil]
  rw [show (spd ps).length - h + ((spd ps).length + l.toNat - ((spd ps).length - h)) = (spd ps).length + l.toNat from by omega] at e
  have big := Amt_big G h l.toNat
  obtain ⟨n, a1, a2, a3, a4, a5⟩ := fetL_least ((List.range ((spd ps).length + l.toNat)).map fun i => ext (spd ps) 0 (h + i)) (lst ps) h l l1 (by show l ≤ Amt ps h _; omega)
  rw [List.length_map, List.length_range] at a1
  rw [← List.map_take, List.take_range, Nat.min_eq_left a1] at a4
  rw [← List.map_take, List.take_range, Nat.min_eq_left (by omega)] at a5
  exact ⟨n, a2, a1, by rw [e, a3], a4, a5⟩
theorem Amt_lt {ps : List (Int × Int)} (G : Rd ps) {h n k : Nat} (q : Amt ps h n < Amt ps h k) : n < k := by
  rcases Nat.lt_or_ge n k with z | z
  · exact z
  · obtain ⟨j, rfl⟩ : ∃ j, n = k + j := ⟨n - k, by omega⟩
    have := Amt_mono G h k j
    omega
theorem fet_le {ps : List (Int × Int)} (G : Rd ps) {h k : Nat} {l : Int} (l1 : 1 ≤ l) (q : l ≤ Amt ps h k) : fetR ps h l ≤ (h : Int) + k := by
  obtain ⟨n, a1, a2, a3, a4, a5⟩ := least G h l1
  have := Amt_lt G (show Amt ps h (n - 1) < Amt ps h k by omega)
  omega
theorem fet_gt {ps : List (Int × Int)} (G : Rd ps) {h k : Nat} {l : Int} (l1 : 1 ≤ l) (q : Amt ps h k < l) : (h : Int) + k < fetR ps h l := by
  obtain ⟨n, a1, a2, a3, a4, a5⟩ := least G h l1
  have := Amt_lt G (show Amt ps h k < Amt ps h n by omega)
  omega
theorem fet_more {ps : List (Int × Int)} (G : Rd ps) (h : Nat) {l : Int} (l1 : 1 ≤ l) : fetR ps h l ≤ fetR ps h (l + 1) := by
  obtain ⟨n, a1, a2, a3, a4, a5⟩ := least G h (show 1 ≤ l + 1 by omega)
  have := fet_le G (h := h) (k := n) l1 (by omega)
  omega
theorem fet_later {ps : List (Int × Int)} (G : Rd ps) (h : Nat) {l : Int} (l1 : 1 ≤ l) : fetR ps h l ≤ fetR ps ((h + 1 : Nat) : Int) l := by
  obtain ⟨n, a1, a2, a3, a4, a5⟩ := least G (h + 1) l1
  have e := Amt_add ps h 1 n
  have e1 : Amt ps h 1 = ext (spd ps) 0 h := by simp [Amt]
  have := (ext_nn G h).1
  have := fet_le G (h := h) (k := 1 + n) l1 (by omega)
  omega
theorem fet_whole {ps : List (Int × Int)} (G : Rd ps) (h : Nat) {l : Int} (l1 : 1 ≤ l) : fetR ps h (suR ps h (fetR ps h l)) = fetR ps h l ∧ 1 ≤ suR ps h (fetR ps h l) := by
  obtain ⟨n, a1, a2, a3, a4, a5⟩ := least G h l1
  rw [a3, suR_sum G h n]
  have p : 1 ≤ Amt ps h n := by omega
  have q1 := fet_le G (h := h) (k := n) p (Int.le_refl _)
  have q2 := fet_gt G (h := h) (k := n - 1) p (by omega)
  refine ⟨?_, p⟩
  show fetR ps h (Amt ps h n) = _
  omega
/-! ### roads turned -/
theorem fet_eq {ps qs : List (Int × Int)} (G : Rd ps) (H : Rd qs) {h : Nat} {l m : Int} (l1 : 1 ≤ l) (m1 : 1 ≤ m) (q : ∀ k, l ≤ Amt ps h k ↔ m ≤ Amt qs h k) : fetR ps h l = fetR qs h m := by
  obtain ⟨n, a1, a2, a3, a4, a5⟩ := least G h l1
  obtain ⟨k, b1, b2, b3, b4, b5⟩ := least H h m1
  have x1 := fet_le G (h := h) (k := k) l1 ((q k).mpr b4)
  have x2 := fet_le H (h := h) (k := n) m1 ((q n).mp a4)
  omega
theorem spd_thrice : ∀ ps : List (Int × Int), spd (ps.map fun p => (p.1, 3 * p.2)) = (spd ps).map (3 * ·)
  | [] => rfl
  | p :: r => by
    show List.replicate p.1.toNat (3 * p.2) ++ spd (r.map _) = ((List.replicate p.1.toNat p.2 ++ spd r)).map _
    rw [spd_thrice r, List.map_append, List.map_replicate]
theorem ext_map {g : Int → Int} (g0 : g 0 = 0) {xs : List Int} (k : Nat) : ext (xs.map g) 0 k = g (ext xs 0 k) := by
  unfold ext
  have e : (xs.map g).getLastD 0 = g (xs.getLastD 0) := by
    rcases List.eq_nil_or_concat xs with e | ⟨M, z, e⟩
    · rw [e]
      exact g0.symm
    · rw [List.concat_eq_append] at e
      rw [e, List.map_append, List.map_cons, List.map_nil, List.getLastD_concat, List.getLastD_concat]
  rw [e, List.getD_eq_getElem?_getD, List.getD_eq_getElem?_getD, List.getElem?_map]
  cases xs[k]? <;> rfl
theorem Amt_thrice (ps : List (Int × Int)) (h : Nat) : ∀ k, Amt (ps.map fun p => (p.1, 3 * p.2)) h k = 3 * Amt ps h k
  | 0 => rfl
  | k + 1 => by
    rw [Amt_succ, Amt_succ, Amt_thrice ps h k, spd_thrice, ext_map (by decide)]
    omega
def dbl : List Int → List Int
  | [] => []
  | x :: r => x / 2 :: x / 2 :: dbl r
theorem dbl_app : ∀ a b : List Int, dbl (a ++ b) = dbl a ++ dbl b
  | [], _ => rfl
  | x :: a, b => by
    show x / 2 :: x / 2 :: dbl (a ++ b) = _
    rw [dbl_app a b]
    rfl
theorem dbl_rep (s : Int) : ∀ n : Nat, dbl (List.replicate n s) = List.replicate (2 * n) (s / 2)
  | 0 => rfl
  | n + 1 => by
    rw [List.replicate_succ, show 2 * (n + 1) = 2 * n + 1 + 1 from rfl, List.replicate_succ, List.replicate_succ, ← dbl_rep s n]
    rfl
theorem spd_halves : ∀ ps : List (Int × Int), spd (ps.map fun p => (2 * p.1, p.2 / 2)) = dbl (spd ps)
  | [] => rfl
  | p :: r => by
    show List.replicate (2 * p.1).toNat (p.2 / 2) ++ spd (r.map _) = dbl (List.replicate p.1.toNat p.2 ++ spd r)
    rw [spd_halves r, dbl_app, dbl_rep]
    congr 2
    omega
theorem ext_dbl : ∀ (xs : List Int) (d : Int) (k : Nat), ext (dbl xs) (d / 2) (2 * k) = ext xs d k / 2 ∧ ext (dbl xs) (d / 2) (2 * k + 1) = ext xs d k / 2
  | [], d, k => ⟨rfl, rfl⟩
  | x :: r, d, 0 => ⟨rfl, rfl⟩
  | x :: r, d, k + 1 => by
    have ih := ext_dbl r x k
    rw [ext_cons]
    constructor
    · rw [show 2 * (k + 1) = 2 * k + 1 + 1 from rfl]
      show ext (x / 2 :: x / 2 :: dbl r) (d / 2) (2 * k + 1 + 1) = _
      rw [ext_cons, ext_cons]
      exact ih.1
    · rw [show 2 * (k + 1) + 1 = 2 * k + 1 + 1 + 1 from rfl]
      show ext (x / 2 :: x / 2 :: dbl r) (d / 2) (2 * k + 1 + 1 + 1) = _
      rw [ext_cons, ext_cons]
      exact ih.2
theorem Amt_halves {ps : List (Int × Int)} (h : Nat) (ev : ∀ i, ext (spd ps) 0 i % 2 = 0) : ∀ k, Amt (ps.map fun p => (2 * p.1, p.2 / 2)) (2 * h) (2 * k) = Amt ps h k
  | 0 => rfl
  | k + 1 => by
    have e := ext_dbl (spd ps) 0 (h + k)
    have e0 := ev (h + k)
    rw [show 2 * (k + 1) = 2 * k + 1 + 1 from rfl, Amt_succ, Amt_succ, Amt_halves h ev k, Amt_succ, spd_halves, show 2 * h + (2 * k + 1) = 2 * (h + k) + 1 from by omega, show 2 * h + 2 * k = 2 * (h + k) from by omega]
    have e1 : ext (dbl (spd ps)) 0 (2 * (h + k)) = ext (spd ps) 0 (h + k) / 2 := e.1
    have e2 : ext (dbl (spd ps)) 0 (2 * (h + k) + 1) = ext (spd ps) 0 (h + k) / 2 := e.2
    rw [e1, e2]
    omega
theorem fet_halves {ps : List (Int × Int)} (G : Rd ps) (H : Rd (ps.map fun p => (2 * p.1, p.2 / 2))) (h : Nat) (ev : ∀ i, ext (spd ps) 0 i % 2 = 0) {l : Int} (l1 : 1 ≤ l) : (fetR (ps.map fun p => (2 * p.1, p.2 / 2)) ((2 * h : Nat) : Int) l + 1) / 2 = fetR ps h l := by
  obtain ⟨n, a1, a2, a3, a4, a5⟩ := least G h l1
  have x1 := fet_le H (h := 2 * h) (k := 2 * n) l1 (by rw [Amt_halves h ev]; exact a4)
  have x2 := fet_gt H (h := 2 * h) (k := 2 * (n - 1)) l1 (by rw [Amt_halves h ev]; exact a5)
  omega
theorem ev_of {ps : List (Int × Int)} (h : ∀ p ∈ ps, p.2 % 2 = 0) (i : Nat) : ext (spd ps) 0 i % 2 = 0 := by
  have all : ∀ x ∈ spd ps, x % 2 = 0 := fun x hx => by
    obtain ⟨p, hp, e⟩ := spd_mem hx
    rw [e]
    exact h p hp
  by_cases q : i < (spd ps).length
  · rw [ext_lt q]
    exact all _ (List.getElem_mem q)
  · rw [ext_ge (by omega)]
    rcases List.eq_nil_or_concat (spd ps) with e | ⟨M, z, e⟩
    · rw [e]
      rfl
    · rw [List.concat_eq_append] at e
      rw [e, List.getLastD_concat]
      exact all z (by rw [e]; simp)
/-! ### k14's own -/
def GreatOk (C : CS) : Prop := ∀ {S : Store} {d c : Nat} {Q : QV} {R : QX}, Deck S d c → (∀ ps S', Good ps → Deck S' d c → Kp (two_ d c) S S' → Q (.tup (prs ps)) S') → C 11 [.ref d] S Q R
theorem great_ok {C : CS} (dr : DrawOk C) : GreatOk (bodyC tab C) := by
  intro S d c Q R D h
  refine ⟨_, rfl, rfl, ?_⟩
  refine .inl ⟨12, rfl, ⟨by decide, by decide⟩, ?_⟩
  have np := D.new
  refine for_by (fun rs σ S' => ∃ L u v w, σ = [some (.ref d), some (.ref S.length), u, v, w] ∧ S'[S.length]? = some (.lst (prs L)) ∧ L.length + rs.length = 12 ∧ (∀ p ∈ L, 1 ≤ p.1 ∧ p.1 ≤ 50 ∧ 0 ≤ p.2 ∧ p.2 ≤ 1000) ∧ Deck S' d c ∧ Kp (two_ d c) S S') (fun _ _ _ _ => trivial) ?_ ?_ _ _ _ ?_
  · rintro σ S' ⟨L, u, v, w, rfl, hp', hl, hb, D', K'⟩
    rcases List.eq_nil_or_concat L with e0 | ⟨M, ⟨b, s⟩, e0⟩
    · subst e0
      simp at hl
    · rw [List.concat_eq_append] at e0
      subst e0
      have hb2 := hb (b, s) (by simp)
      refine ⟨_, rfl, _, rfl, _, rfl, _, lst_ref hp', ?_⟩
      have hp2 := app_at (l := [SO.lst (cutL (prs (M ++ [(b, s)])) none (some (-1)))]) hp'
      refine ⟨_, rfl, _, rfl, _, _, items_ref hp2, idx_lastP, _, _, rfl, rfl, ?_⟩
      refine ⟨_, rfl, _, rfl, _, _, items_ref hp2, idx_lastP, _, _, rfl, rfl, ?_⟩
      have e1 : cutL (prs (M ++ [(b, s)])) none (some (-1)) = prs M := by rw [cut_init, prs_snoc]; exact List.dropLast_concat
      rw [e1]
      refine ⟨_, _, app_at app_new, app_new, ?_, ?_⟩
      · simp at hl ⊢
        show M.length + 1 ≤ 16777216
        omega
      refine ⟨_, items_ref app_new, ?_⟩
      have e2 : (prs M ++ [PV.tup [.int b, .int (if s > 2 then s else 2)]]) = prs (M ++ [(b, if s > 2 then s else 2)]) := (prs_snoc (p := (b, if s > 2 then s else 2))).symm
      rw [e2]
      refine h _ _ ⟨?_, ?_, M, b, _, rfl, by split <;> omega⟩ D'.app.app.app K'.app.app.app
      · simp at hl ⊢
        omega
      · intro p hp2
        rw [List.mem_append] at hp2
        rcases hp2 with hp2 | hp2
        · exact hb p (by simp [hp2])
        · rw [List.mem_singleton] at hp2
          subst hp2
          simp at hb2 ⊢
          refine ⟨hb2.1, hb2.2.1, ?_, ?_⟩ <;> split <;> omega
  · rintro x rs σ S' K ⟨L, u, v, w, rfl, hp', hl, hb, D', K'⟩ hK
    refine ⟨_, rfl, ?_⟩
    refine dr D' (div_of (by decide) (by decide)) fun a2 T2 a20 a21 E2 J2 => ?_
    refine ⟨_, rfl, ?_⟩
    refine dr E2.app (div_of (by decide) (by decide)) fun a4 T4 a40 a41 E4 J4 => ?_
    have q1 := J4.at_ _ _ E2.new (app_new (S := T2) (o := .lst [.int 50, .int (1 + a2), .int 49]))
    have hx : ∃ t : Int, 1 ≤ t ∧ t ≤ 50 ∧ idx [PV.int 50, .int (1 + a2), .int 49] a4 = some (.int t) := by
      obtain ⟨y, hy, e⟩ := idx_some (xs := [PV.int 50, .int (1 + a2), .int 49]) a40 (by simpa using a41)
      simp only [List.mem_cons, List.not_mem_nil, or_false] at hy
      rcases hy with rfl | rfl | rfl
      · exact ⟨_, by omega, by omega, e⟩
      · exact ⟨_, by omega, by omega, e⟩
      · exact ⟨_, by omega, by omega, e⟩
    obtain ⟨b, b0, bb1, eb⟩ := hx
    refine ⟨_, _, items_ref q1, eb, ?_⟩
    have p4 := J4.at_ _ _ np (app_at (l := [SO.lst [.int 50, .int (1 + a2), .int 49]]) (J2.at_ _ _ np hp'))
    have K4 : Kp (two_ d c) S T4 := K'.trans (J2.trans ((Kp.refl.app).trans J4))
    refine ⟨_, rfl, ?_⟩
    refine dr E4 (div_of (by decide) (by decide)) fun b1 U1 b10 b11 F1 M1 => ?_
    refine ⟨.inl (by decide), _, rfl, ?_⟩
    refine dr F1 (div_of (by decide) (by decide)) fun b3 U3 b30 b31 F3 M3 => ?_
    refine ⟨.inl (by decide), _, rfl, ?_⟩
    refine dr F3.app (div_of (by decide) (by decide)) fun b4 U4 b40 b41 F4 M4 => ?_
    have q2 := M4.at_ _ _ F3.new (app_new (S := U3) (o := .lst [.int 0, .int (2 * b1), .int 2, .int 1000, .int (2 * b3)]))
    have hy : ∃ t : Int, 0 ≤ t ∧ t ≤ 1000 ∧ idx [PV.int 0, .int (2 * b1), .int 2, .int 1000, .int (2 * b3)] b4 = some (.int t) := by
      obtain ⟨y, hy, e⟩ := idx_some (xs := [PV.int 0, .int (2 * b1), .int 2, .int 1000, .int (2 * b3)]) b40 (by simpa using b41)
      simp only [List.mem_cons, List.not_mem_nil, or_false] at hy
      rcases hy with rfl | rfl | rfl | rfl | rfl
      · exact ⟨_, by omega, by omega, e⟩
      · exact ⟨_, by omega, by omega, e⟩
      · exact ⟨_, by omega, by omega, e⟩
      · exact ⟨_, by omega, by omega, e⟩
      · exact ⟨_, by omega, by omega, e⟩
    obtain ⟨s, s0, s1, es⟩ := hy
    refine ⟨_, _, items_ref q2, es, ?_⟩
    have p8 := M4.at_ _ _ np (app_at (l := [SO.lst [.int 0, .int (2 * b1), .int 2, .int 1000, .int (2 * b3)]]) (M3.at_ _ _ np (M1.at_ _ _ np p4)))
    have K8 : Kp (two_ d c) S U4 := K4.trans (M1.trans (M3.trans ((Kp.refl.app).trans M4)))
    refine ⟨_, rfl, ?_⟩
    refine app_ok p8 ?_
    refine ⟨_, rfl, _, rfl, ?_⟩
    refine ⟨_, p8, ?_, ?_⟩
    · rw [List.length_map]
      simp at hl
      show L.length < 16777216
      omega
    refine hK _ _ ⟨L ++ [(b, s)], _, _, _, rfl, ?_, ?_, ?_, F4.put (fun e => np (.inl e)) (fun e => np (.inr e)), K8.set (.inl (Nat.le_refl _))⟩
    · rw [prs_snoc]
      exact set_at p8
    · simp at hl ⊢
      omega
    · intro p hp2
      rw [List.mem_append] at hp2
      rcases hp2 with hp2 | hp2
      · exact hb p hp2
      · rw [List.mem_singleton] at hp2
        subst hp2
        exact ⟨b0, bb1, s0, s1⟩
  · refine ⟨[], none, none, none, rfl, app_new, ?_, by simp, D.app, Kp.refl.app⟩
    rw [rng_len]
    rfl
/-- a trip's turn: begun at, the size, what is waited -/
abbrev Trn := Nat × Int × Nat
def tv (ps : List (Int × Int)) (t : Trn) : PV := .tup [.int t.1, .int t.2.1, .int t.2.2, .int (fetR ps ((t.1 + t.2.2 : Nat) : Int) t.2.1)]
def td (ps : List (Int × Int)) (t : Trn) : PyData := .tuple [.int t.1, .int t.2.1, .int t.2.2, .int (fetR ps ((t.1 + t.2.2 : Nat) : Int) t.2.1)]
def TOk (t : Trn) : Prop := t.1 ≤ 12000 ∧ 1 ≤ t.2.1 ∧ t.2.1 ≤ 10000 ∧ t.2.2 ≤ 400
theorem dats_tv {S : Store} (ps : List (Int × Int)) : ∀ ts : List Trn, Dats S (ts.map (tv ps)) (ts.map (td ps))
  | [] => .nil
  | t :: ts => .cons (.tup (.cons (.int _) (.cons (.int _) (.cons (.int _) (.cons (.int _) .nil))))) (dats_tv ps ts)
theorem can_td (ps : List (Int × Int)) : ∀ ts : List Trn, PyData.canLayAll0 (ts.map (td ps)) = true
  | [] => rfl
  | t :: ts => can_td ps ts
theorem dep_td (ps : List (Int × Int)) : ∀ ts : List Trn, PyData.depthAll (ts.map (td ps)) ≤ 1
  | [] => by show PyData.depthAll [] ≤ 1; decide
  | t :: ts => by
    show max 1 (PyData.depthAll (ts.map (td ps))) ≤ 1
    have := dep_td ps ts
    omega
theorem shaped_td (ps : List (Int × Int)) (ts : List Trn) : SeqAt.shaped (.list (ts.map (td ps))) = true := by
  have e2 : PyData.canLay0 (.list (ts.map (td ps))) = true := can_td ps ts
  have d1 : PyData.depth (.list (ts.map (td ps))) ≤ 2 := by
    have := dep_td ps ts
    show PyData.depthAll (ts.map (td ps)) + 1 ≤ 2
    omega
  unfold SeqAt.shaped
  rw [e2]
  simp
  omega
theorem eqv_td (ps : List (Int × Int)) (ts : List Trn) : PyData.eqv (.list (ts.map (td ps))) (.list []) = decide (ts = []) := by cases ts <;> rfl
theorem fet_far {ps : List (Int × Int)} (G : Good ps) (h : Nat) {l : Int} (l1 : 1 ≤ l) : ∃ n : Nat, fetR ps h l = ((h + n : Nat) : Int) ∧ 1 ≤ n ∧ n ≤ 600 + l.toNat := by
  obtain ⟨n, a1, a2, a3, _⟩ := least G.rd h l1
  have := G.spd_len
  exact ⟨n, by omega, a1, by omega⟩
def TripOk (C : CS) : Prop := ∀ {S : Store} {d c i : Nat} {ps : List (Int × Int)} {Q : QV} {R : QX}, Deck S d c → ¬ two_ d c i → S[i]? = some (roadS ps) → Good ps → (∀ p ts S', S.length ≤ p → ts ≠ [] → (∀ t ∈ ts, TOk t) → ts.length ≤ 12 → S'[p]? = some (.lst (ts.map (tv ps))) → ¬ two_ d c p → Deck S' d c → Kp (two_ d c) S S' → Q (.ref p) S') → C 12 [.ref d, .ref i] S Q R
theorem trip_ok {C : CS} (dr : DrawOk C) (fe : FetchedOk C) : TripOk (bodyC tab C) := by
  intro S d c i ps Q R D ni hi G h
  refine ⟨_, rfl, rfl, ?_⟩
  refine ⟨_, rfl, ?_⟩
  have np := D.new
  refine dr D.app (div_of (by decide) (by decide)) fun a1 S1 a10 a11 D1 K1 => ?_
  refine ⟨_, rfl, ?_⟩
  refine dr D1.app (div_of (by decide) (by decide)) fun a2 S2 a20 a21 D2 K2 => ?_
  have q1 := K2.at_ _ _ D1.new (app_new (S := S1) (o := .lst [.int 0, .int a1, .int 600]))
  have hx : ∃ t : Nat, t ≤ 600 ∧ idx [PV.int 0, .int a1, .int 600] a2 = some (.int t) := by
    obtain ⟨y, hy, e⟩ := idx_some (xs := [PV.int 0, .int a1, .int 600]) a20 (by simpa using a21)
    simp only [List.mem_cons, List.not_mem_nil, or_false] at hy
    rcases hy with rfl | rfl | rfl
    · exact ⟨0, by omega, e⟩
    · exact ⟨a1.toNat, by omega, by rw [Int.toNat_of_nonneg a10]; exact e⟩
    · exact ⟨600, by omega, e⟩
  obtain ⟨t0, t01, et⟩ := hx
  refine ⟨_, _, items_ref q1, et, ?_⟩
  refine .inl ⟨12, rfl, ⟨by decide, by decide⟩, ?_⟩
  have K0 : Kp (two_ d c) (S ++ [SO.lst []]) S2 := K1.trans ((Kp.refl.app).trans K2)
  refine for_by (fun rs σ S' => ∃ ts at_ u v w x, σ = [some (.ref d), some (.ref i), some (.ref S.length), some (.int ((at_ : Nat) : Int)), u, v, w, x] ∧ S'[S.length]? = some (.lst (ts.map (tv ps))) ∧ (rs.length + ts.length ≤ 12) ∧ (rs = [] → ts ≠ []) ∧ (∀ t ∈ ts, TOk t) ∧ at_ ≤ 12000 ∧ (ts = [] → at_ ≤ 600) ∧ S'[i]? = some (roadS ps) ∧ Deck S' d c ∧ Kp (two_ d c) S S') (fun _ _ _ _ => trivial) ?_ ?_ _ _ _ ?_
  · rintro σ S' ⟨ts, at_, u, v, w, x, rfl, hp, hl, hn, ht, ha, ha2, hi', D', K'⟩
    refine ⟨_, rfl, ?_⟩
    exact h _ ts S' (Nat.le_refl _) (hn rfl) ht (by simpa using hl) hp np D' K'
  · rintro x rs σ S' K ⟨ts, at_, u, v, w, z, rfl, hp, hl, hn, ht, ha, ha2, hi', D', K'⟩ hK
    refine ⟨_, rfl, ?_⟩
    refine dr D' (div_of (by decide) (by decide)) fun b1 T1 b10 b11 E1 J1 => ?_
    refine ⟨_, rfl, ?_⟩
    refine dr E1 (div_of (by decide) (by decide)) fun b2 T2 b20 b21 E2 J2 => ?_
    refine ⟨_, rfl, ?_⟩
    refine dr E2.app (div_of (by decide) (by decide)) fun b3 T3 b30 b31 E3 J3 => ?_
    have q2 := J3.at_ _ _ E2.new (app_new (S := T2) (o := .lst [.int 1, .int (1 + b1), .int (1 + b2)]))
    have hy : ∃ t : Int, 1 ≤ t ∧ t ≤ 10000 ∧ idx [PV.int 1, .int (1 + b1), .int (1 + b2)] b3 = some (.int t) := by
      obtain ⟨y, hy, e⟩ := idx_some (xs := [PV.int 1, .int (1 + b1), .int (1 + b2)]) b30 (by simpa using b31)
      simp only [List.mem_cons, List.not_mem_nil, or_false] at hy
      rcases hy with rfl | rfl | rfl
      · exact ⟨_, by omega, by omega, e⟩
      · exact ⟨_, by omega, by omega, e⟩
      · exact ⟨_, by omega, by omega, e⟩
    obtain ⟨l, l0, l1, el⟩ := hy
    refine ⟨_, _, items_ref q2, el, ?_⟩
    refine ⟨_, rfl, ?_⟩
    refine dr E3 (div_of (by decide) (by decide)) fun c1 U1 c10 c11 F1 M1 => ?_
    refine ⟨_, rfl, ?_⟩
    refine dr F1.app (div_of (by decide) (by decide)) fun c2 U2 c20 c21 F2 M2 => ?_
    have q3 := M2.at_ _ _ F1.new (app_new (S := U1) (o := .lst [.int 0, .int c1, .int 400]))
    have hz : ∃ t : Nat, t ≤ 400 ∧ idx [PV.int 0, .int c1, .int 400] c2 = some (.int t) := by
      obtain ⟨y, hy, e⟩ := idx_some (xs := [PV.int 0, .int c1, .int 400]) c20 (by simpa using c21)
      simp only [List.mem_cons, List.not_mem_nil, or_false] at hy
      rcases hy with rfl | rfl | rfl
      · exact ⟨0, by omega, e⟩
      · exact ⟨c1.toNat, by omega, by rw [Int.toNat_of_nonneg c10]; exact e⟩
      · exact ⟨400, by omega, e⟩
    obtain ⟨wt, w1, ew⟩ := hz
    refine ⟨_, _, items_ref q3, ew, ?_⟩
    have KK : Kp (two_ d c) S' U2 := J1.trans (J2.trans ((Kp.refl.app).trans (J3.trans (M1.trans ((Kp.refl.app).trans M2)))))
    have hi2 := KK.at_ _ _ ni hi'
    have hp2 := KK.at_ _ _ np hp
    refine ⟨_, rfl, ?_⟩
    refine onRecv_own (meth_road hi2 rfl rfl) ?_
    refine ⟨_, rfl, _, rfl, _, rfl, ?_⟩
    refine fe hi2 G.rd (by omega) l0 ?_
    obtain ⟨n, en, n1, n2⟩ := fet_far G (at_ + wt) l0
    have eF : fetR ps ((at_ : Int) + wt) l = ((at_ + wt + n : Nat) : Int) := by rw [← en]; rfl
    rw [eF]
    refine ⟨_, rfl, ?_⟩
    have hp3 := app_at (l := [SO.lst []]) hp2
    have fin : ∀ (D : En), (at_ + wt + n ≤ 12000) → (∀ σ' S', (∃ ts at_ u v w x, σ' = [some (.ref d), some (.ref i), some (.ref S.length), some (.int ((at_ : Nat) : Int)), u, v, w, x] ∧ S'[S.length]? = some (.lst (ts.map (tv ps))) ∧ (rs.length + ts.length ≤ 12) ∧ (rs = [] → ts ≠ []) ∧ (∀ t ∈ ts, TOk t) ∧ at_ ≤ 12000 ∧ (ts = [] → at_ ≤ 600) ∧ S'[i]? = some (roadS ps) ∧ Deck S' d c ∧ Kp (two_ d c) S S') → D.nx σ' S') →
        wpSs tab C bb12_0 [some (.ref d), some (.ref i), some (.ref S.length), some (.int (at_ : Int)), some x, some (.int l), some (.int (wt : Int)), some (.int ((at_ + wt + n : Nat) : Int))] (U2 ++ [SO.lst []]) D := by
      intro D hb hD
      refine ⟨_, rfl, ?_⟩
      refine app_ok hp3 ?_
      refine ⟨_, rfl, _, rfl, _, rfl, _, rfl, ?_⟩
      refine ⟨_, hp3, ?_, ?_⟩
      · rw [List.length_map]
        simp at hl
        show ts.length < 16777216
        omega
      refine ⟨_, rfl, ?_⟩
      refine hD _ _ ⟨ts ++ [(at_, l, wt)], at_ + wt + n, _, _, _, _, rfl, ?_, ?_, fun _ => by simp, ?_, hb, fun e => by simp at e, ?_, F2.app.put (fun e => np (.inl e)) (fun e => np (.inr e)), ((K'.trans KK).app).set (.inl (Nat.le_refl _))⟩
      · have e : (ts ++ [(at_, l, wt)]).map (tv ps) = ts.map (tv ps) ++ [PV.tup [.int (at_ : Int), .int l, .int (wt : Int), .int ((at_ + wt + n : Nat) : Int)]] := by
          rw [List.map_append, List.map_cons, List.map_nil]
          unfold tv
          rw [en]
        rw [e]
        exact set_at hp3
      · simp at hl ⊢
        omega
      · intro t ht2
        rw [List.mem_append, List.mem_singleton] at ht2
        rcases ht2 with ht2 | rfl
        · exact ht t ht2
        · exact ⟨ha, l0, l1, w1⟩
      · refine set_ne (fun e => ?_) (app_at hi2)
        subst e
        have := lt_of_at hi
        omega
    refine ⟨_, _, .lst hp3 (dats_tv ps ts), .lst app_new .nil, shaped_td ps ts, by decide, ?_⟩
    rw [eqv_td]
    refine iteD (fun e => ?_) (fun ne => ?_)
    · exact fin _ (by have := ha2 e; omega) hK
    · refine ⟨_, rfl, ?_⟩
      refine iteD (fun hlt => ?_) (fun _ => ?_)
      · exact fin _ (by omega) hK
      · refine hK _ _ ⟨ts, at_, _, _, _, _, rfl, hp3, ?_, fun _ => ne, ht, ha, ha2, app_at hi2, F2.app, (K'.trans KK).app⟩
        simp at hl
        omega
  · refine ⟨[], t0, none, none, none, none, rfl, K0.at_ _ _ np app_new, ?_, ?_, by simp, by omega, fun _ => t01, K0.at_ _ _ ni (app_at hi), D2, (Kp.refl.app).trans K0⟩
    · rw [rng_len]; decide
    · intro e
      cases e
def TripRightOk (C : CS) : Prop := ∀ {S : Store} {i p : Nat} {ps : List (Int × Int)} {ts : List Trn} {Q : QV} {R : QX}, S[i]? = some (roadS ps) → S[p]? = some (.lst (ts.map (tv ps))) → Good ps → (∀ t ∈ ts, TOk t) → Q (.bl true) S → C 13 [.ref i, .ref p] S Q R
theorem tripRight_ok {C : CS} (fe : FetchedOk C) (su : SumOfOk C) : TripRightOk (bodyC tab C) := by
  intro S i p ps ts Q R hi hp G ht q
  refine ⟨_, rfl, rfl, ?_⟩
  refine ⟨_, rfl, _, items_ref hp, ?_⟩
  refine for_by (fun rs σ S' => S' = S ∧ ∃ (r : List Trn) (a b c d : Option PV), rs = r.map (tv ps) ∧ (∀ t ∈ r, TOk t) ∧ σ = [some (.ref i), some (.ref p), a, b, c, d]) (fun r σ S' h => by rw [h.1]; exact still_same) ?_ ?_ _ _ _ ?_
  · rintro σ S' ⟨rfl, r, a, b, c, d, _, _, rfl⟩
    exact q
  · rintro x rs σ S' K ⟨rfl, r, a, b, c, d, hr, hok, rfl⟩ hK
    cases r with
    | nil => cases hr
    | cons t r =>
      injection hr with g1 g2
      subst g1 g2
      obtain ⟨at_, l, w⟩ := t
      obtain ⟨k1, k2, k3, k4⟩ := hok _ (List.mem_cons_self ..)
      simp only at k1 k2 k3 k4
      obtain ⟨n, n1, n2, en, e4, e5⟩ := least G.rd (at_ + w) k2
      have hlen := G.spd_len
      have s1 : suR ps ((at_ : Int) + w) (fetR ps ((at_ + w : Nat) : Int) l) = Amt ps (at_ + w) n := by
        rw [en]
        exact suR_sum G.rd (at_ + w) n
      have s2 : suR ps ((at_ : Int) + w) (fetR ps ((at_ + w : Nat) : Int) l - 1) = Amt ps (at_ + w) (n - 1) := by
        rw [en, show (((at_ + w : Nat) : Int) + n - 1) = ((at_ + w : Nat) : Int) + ((n - 1 : Nat) : Int) from by omega]
        exact suR_sum G.rd (at_ + w) (n - 1)
      have f1 : fit ((at_ : Int) + w) := fit_of (by omega) (by omega)
      have f2 : fit (fetR ps ((at_ + w : Nat) : Int) l) := by rw [en]; exact fit_of (by omega) (by omega)
      have f3 : fit (fetR ps ((at_ + w : Nat) : Int) l - 1) := by rw [en]; exact fit_of (by omega) (by omega)
      have m1 := fet_more G.rd (at_ + w) k2
      have m2 := fet_later G.rd (at_ + w) k2
      refine ⟨_, rfl, rfl, _, _, rfl, _, _, rfl, _, _, rfl, _, _, rfl, rfl, ?_⟩
      refine ⟨_, rfl, _, rfl, _, rfl, ?_⟩
      refine iteF (decide_eq_false (by simp only; omega)) ?_
      refine ⟨_, rfl, ?_⟩
      refine onRecv_own (meth_road hi rfl rfl) ?_
      refine ⟨_, rfl, _, rfl, _, rfl, ?_⟩
      refine su hi G.rd f1 f2 ?_
      refine ⟨_, rfl, ?_⟩
      refine iteF (decide_eq_false (by simp only; rw [s1]; omega)) ?_
      refine ⟨_, rfl, ?_⟩
      refine onRecv_own (meth_road hi rfl rfl) ?_
      refine ⟨_, rfl, _, rfl, _, rfl, ?_⟩
      refine su hi G.rd f1 f3 ?_
      refine ⟨_, rfl, ?_⟩
      refine iteF (decide_eq_false (by simp only; rw [s2]; omega)) ?_
      refine ⟨_, rfl, ?_⟩
      refine onRecv_own (meth_road hi rfl rfl) ?_
      refine ⟨_, rfl, _, rfl, _, rfl, ?_⟩
      refine fe hi G.rd (by show 0 ≤ (at_ : Int) + w; omega) (by show 1 ≤ l + 1; omega) ?_
      refine ⟨_, rfl, ?_⟩
      refine iteF (decide_eq_false (by show ¬ fetR ps ((at_ + w : Nat) : Int) (l + 1) < fetR ps ((at_ + w : Nat) : Int) l; omega)) ?_
      refine ⟨_, rfl, ?_⟩
      refine onRecv_own (meth_road hi rfl rfl) ?_
      refine ⟨_, rfl, _, rfl, _, rfl, ?_⟩
      refine fe hi G.rd (by omega) (by omega) ?_
      refine ⟨_, rfl, ?_⟩
      refine iteF (decide_eq_false (by rw [show (at_ : Int) + 1 + w = ((at_ + w + 1 : Nat) : Int) from by omega]; show ¬ fetR ps ((at_ + w + 1 : Nat) : Int) l < fetR ps ((at_ + w : Nat) : Int) l; omega)) ?_
      refine ⟨_, rfl, ?_⟩
      refine onRecv_own (meth_road hi rfl rfl) ?_
      refine ⟨_, rfl, _, rfl, _, rfl, ?_⟩
      refine fe hi G.rd (by omega) (by omega) ?_
      refine ⟨_, rfl, ?_⟩
      have ef : fetR ps ((at_ : Int) + w + 0) l = fetR ps ((at_ + w : Nat) : Int) l := by rw [Int.add_zero]; rfl
      refine iteN (fun z => absurd ef z) (fun _ => ?_)
      exact hK _ _ ⟨rfl, r, _, _, _, _, rfl, fun t h => hok t (List.mem_cons_of_mem _ h), rfl⟩
  · exact ⟨rfl, ts, _, _, _, _, rfl, ht, rfl⟩
theorem fet_pos {ps : List (Int × Int)} (G : Rd ps) (h : Nat) {l : Int} (l1 : 1 ≤ l) : ∃ n : Nat, fetR ps h l = ((h + n : Nat) : Int) ∧ l ≤ Amt ps h n := by
  obtain ⟨n, _, _, a3, a4, _⟩ := least G h l1
  exact ⟨n, by omega, a4⟩
def TogetherOk (C : CS) : Prop := ∀ {S : Store} {i p : Nat} {ps : List (Int × Int)} {ts : List Trn} {Q : QV} {R : QX}, S[i]? = some (roadS ps) → S[p]? = some (.lst (ts.map (tv ps))) → Good ps → ts ≠ [] → ts.length ≤ 12 → (∀ t ∈ ts, TOk t) → (∀ S', Kp no S S' → Q (.bl true) S') → C 14 [.ref i, .ref p] S Q R
theorem together_ok {C : CS} (fe : FetchedOk C) (su : SumOfOk C) : TogetherOk (bodyC tab C) := by
  intro S i p ps ts Q R hi hp G hne hl ht h
  obtain ⟨t0, tr, rfl⟩ : ∃ t r, ts = t :: r := by
    cases ts with
    | nil => exact absurd rfl hne
    | cons t r => exact ⟨t, r, rfl⟩
  have t0k := ht t0 (List.mem_cons_self ..)
  let mn : Trn → Int := fun t => if 1500 < t.2.1 then 1500 else t.2.1
  refine ⟨_, rfl, rfl, ?_⟩
  refine ⟨_, rfl, _, rfl, _, lst_ref hp, ?_⟩
  have ec : cutL ((t0 :: tr).map (tv ps)) none (some 6) = ((t0 :: tr).take 6).map (tv ps) := by
    rw [cut_map, cut_to (by decide)]
    rfl
  rw [ec]
  refine ⟨_, items_ref app_new, ?_, ?_⟩
  · rw [List.length_map, List.length_take]
    show _ ≤ 16777216
    omega
  refine lc_map (fun x => match x with
    | .tup [_, .int l, _, _] => .int (if 1500 < l then 1500 else l)
    | _ => .non) still_same _ _ (fun x hx K hK => ?_) ?_
  · obtain ⟨⟨a, l, w⟩, _, rfl⟩ := List.mem_map.mp hx
    refine ⟨_, rfl, rfl, _, _, rfl, _, _, rfl, _, _, rfl, _, _, rfl, rfl, ?_⟩
    exact ⟨_, rfl, hK⟩
  have em : (((t0 :: tr).take 6).map (tv ps)).map (fun x => match x with
    | PV.tup [_, .int l, _, _] => PV.int (if 1500 < l then 1500 else l)
    | _ => .non) = nums (((t0 :: tr).take 6).map mn) := by
    rw [List.map_map]
    show _ = List.map PV.int (List.map _ _)
    rw [List.map_map]
    rfl
  rw [List.nil_append, em]
  have hms : ∀ m ∈ ((t0 :: tr).take 6).map mn, 1 ≤ m := fun m hm => by
    obtain ⟨t, h1, rfl⟩ := List.mem_map.mp hm
    obtain ⟨_, h2, _⟩ := ht t (List.mem_of_mem_take h1)
    show 1 ≤ if 1500 < t.2.1 then (1500 : Int) else t.2.1
    split <;> omega
  have e0 : ((t0 :: tr).take 6).map mn = mn t0 :: (tr.take 5).map mn := rfl
  generalize hmr : (tr.take 5).map mn = mr at e0
  rw [e0] at hms ⊢
  have hm0 : mn t0 ≤ 1500 := by
    show (if 1500 < t0.2.1 then (1500 : Int) else t0.2.1) ≤ 1500
    split <;> omega
  generalize mn t0 = m0 at hms e0 hm0
  have hp2 := app_at (l := [SO.lst (nums (m0 :: mr))]) (app_at (l := [SO.lst (((t0 :: tr).take 6).map (tv ps))]) hp)
  have hi2 := app_at (l := [SO.lst (nums (m0 :: mr))]) (app_at (l := [SO.lst (((t0 :: tr).take 6).map (tv ps))]) hi)
  have hq := app_new (S := S ++ [SO.lst (((t0 :: tr).take 6).map (tv ps))]) (o := .lst (nums (m0 :: mr)))
  refine ⟨_, rfl, _, _, items_ref hp2, rfl, _, _, rfl, rfl, ?_⟩
  refine ⟨_, rfl, ?_⟩
  refine ⟨_, rfl, _, items_ref hq, ?_⟩
  have KK : Kp no S (S ++ [SO.lst (((t0 :: tr).take 6).map (tv ps))] ++ [SO.lst (nums (m0 :: mr))]) := Kp.refl.app.app
  refine for_by (fun rs σ S' => S' = (S ++ [SO.lst (((t0 :: tr).take 6).map (tv ps))] ++ [SO.lst (nums (m0 :: mr))]) ∧ ∃ (a b : List Int) (N : Nat) (u v w x y : Option PV), rs = nums b ∧ m0 :: mr = a ++ b ∧ a.sum ≤ Amt ps t0.1 N ∧ σ = [some (.ref i), some (.ref p), some (.ref (S ++ [SO.lst (((t0 :: tr).take 6).map (tv ps))]).length), some (.int (t0.1 : Int)), some (.int ((t0.1 + N : Nat) : Int)), u, v, w, x, y]) (fun r σ S' h => by rw [h.1]; exact still_same) ?_ ?_ _ _ _ ?_
  · rintro σ S' ⟨rfl, a, b, N, u, v, w, x, y, hb, eab, hs, rfl⟩
    have hb : b = [] := List.map_eq_nil_iff.mp hb.symm
    rw [hb, List.append_nil] at eab
    rw [← eab] at hs
    have all1 : ∀ r : List Int, (∀ m ∈ r, 1 ≤ m) → 0 ≤ r.sum := by
      intro r
      induction r with
      | nil => intro _; simp
      | cons m r ih =>
        intro h
        have h1 := h m (List.mem_cons_self ..)
        have h2 := ih fun m hm => h m (List.mem_cons_of_mem _ hm)
        rw [List.sum_cons]
        omega
    have s1 : 1 ≤ (m0 :: mr).sum := by
      have h1 := hms m0 (List.mem_cons_self ..)
      have h2 := all1 mr fun m hm => hms m (List.mem_cons_of_mem _ hm)
      rw [List.sum_cons]
      omega
    have le1 := fet_le G.rd (h := t0.1) (k := N) s1 hs
    have m1 := hms m0 (List.mem_cons_self ..)
    obtain ⟨wh, w1⟩ := fet_whole G.rd t0.1 m1
    obtain ⟨n, en, _⟩ := fet_far G t0.1 m1
    refine ⟨_, rfl, ?_⟩
    refine ⟨_, rfl, ?_⟩
    refine onRecv_own (meth_road hi2 rfl rfl) ?_
    refine ⟨_, rfl, _, rfl, _, lst_ref hq, ?_⟩
    refine fe hi2 G.rd (by omega) s1 ?_
    rw [Int.add_zero]
    refine iteF (decide_eq_false (by omega)) ?_
    refine ⟨_, rfl, ?_⟩
    refine onRecv_own (meth_road hi2 rfl rfl) ?_
    refine ⟨_, rfl, _, rfl, _, _, items_ref hq, rfl, ?_⟩
    refine fe hi2 G.rd (by omega) m1 ?_
    rw [Int.add_zero]
    refine ⟨_, rfl, ?_⟩
    refine onRecv_own (meth_road hi2 rfl rfl) ?_
    refine ⟨_, rfl, _, rfl, ?_⟩
    refine onRecv_own (meth_road hi2 rfl rfl) ?_
    refine ⟨_, rfl, _, rfl, ?_⟩
    have tb := t0k.1
    refine su hi2 G.rd (fit_of (by omega) (by omega)) (by rw [en]; exact fit_of (by omega) (by omega)) ?_
    refine fe hi2 G.rd (by omega) w1 ?_
    rw [Int.add_zero, wh]
    refine ⟨_, rfl, ?_⟩
    show Q (.bl (decide (_ = _))) _
    rw [decide_eq_true rfl]
    exact h _ KK
  · rintro z rs σ S' K ⟨rfl, a, b, N, u, v, w, x, y, hb, eab, hs, rfl⟩ hK
    cases b with
    | nil => cases hb
    | cons m b =>
      injection hb with g1 g2
      subst g1 g2
      have m1 := hms m (by rw [eab]; simp)
      obtain ⟨n, en, ea⟩ := fet_pos G.rd (t0.1 + N) m1
      refine ⟨_, rfl, ?_⟩
      refine onRecv_own (meth_road hi2 rfl rfl) ?_
      refine ⟨_, rfl, _, rfl, ?_⟩
      refine fe hi2 G.rd (by omega) m1 ?_
      rw [Int.add_zero, en]
      have e2 : t0.1 + N + n = t0.1 + (N + n) := Nat.add_assoc _ _ _
      rw [e2]
      refine hK _ _ ⟨rfl, a ++ [m], b, N + n, _, _, _, _, _, rfl, by rw [eab, List.append_assoc]; rfl, ?_, rfl⟩
      rw [List.sum_append, Amt_add]
      simp
      omega
  · exact ⟨rfl, [], m0 :: mr, 0, _, _, _, _, _, rfl, rfl, by simp [Amt], rfl⟩
theorem idx_zero {α : Type} {a : α} {r : List α} : idx (a :: r) 0 = some a := rfl
theorem make_ok {C : CS} (ro : RoadOk C) {S : Store} {ps : List (Int × Int)} {P : Store → Prop} {R : QX} (h : ∀ S', S'[S.length]? = some (roadS ps) → Kp no S S' → P S') : ∃ f, ((tab.cls[0]?).bind (·.ini)) = some f ∧ C f (.ref S.length :: fill [.inl 0] ([.tup (prs ps)] ++ [])) (S ++ [.ins 0 []]) (fun v S3 => v = .non ∧ P S3) R :=
  ⟨_, rfl, ro app_new ⟨rfl, h _ (set_at app_new) ((Kp.refl.app).set (.inl (Nat.le_refl _)))⟩⟩
def TurnedOk (C : CS) : Prop := ∀ {S : Store} {p : Nat} {ps : List (Int × Int)} {ts : List Trn} {Q : QV} {R : QX}, S[p]? = some (.lst (ts.map (tv ps))) → Good ps → (∀ t ∈ ts, TOk t) → (∀ S', Kp no S S' → Q (.bl true) S') → C 15 [.tup (prs ps), .ref p] S Q R
def smF (ps : List (Int × Int)) : List (Int × Int) := (ps.dropLast.map fun p => (1 + p.1 / 2, p.2 / 6 * 2)) ++ [(9, 2)]
def roF (ps : List (Int × Int)) : List (Int × Int) := (smF ps).map fun p => (if p.1 < 25 then p.1 else 25, p.2)
theorem roF_all {ps : List (Int × Int)} (G : Good ps) : (roF ps).length ≤ 12 ∧ (∀ p ∈ roF ps, 1 ≤ p.1 ∧ p.1 ≤ 25 ∧ 0 ≤ p.2 ∧ p.2 ≤ 332 ∧ p.2 % 2 = 0) ∧ ∃ L, roF ps = L ++ [(9, 2)] := by
  refine ⟨?_, fun p hp => ?_, ?_⟩
  · unfold roF smF
    obtain ⟨L, b, s, e, _⟩ := G.last
    have := G.len
    rw [e] at this ⊢
    rw [List.dropLast_concat]
    simp at this ⊢
    omega
  · obtain ⟨q, hq, rfl⟩ := List.mem_map.mp hp
    unfold smF at hq
    rw [List.mem_append, List.mem_singleton] at hq
    rcases hq with hq | rfl
    · obtain ⟨r, hr, rfl⟩ := List.mem_map.mp hq
      have := G.all r ((List.dropLast_sublist _).subset hr)
      simp only
      split <;> omega
    · exact ⟨by decide, by decide, by decide, by decide, by decide⟩
  · unfold roF smF
    rw [List.map_append]
    exact ⟨_, rfl⟩
theorem turned_ok {C : CS} (fe : FetchedOk C) (ro : RoadOk C) : TurnedOk (bodyC tab C) := by
  intro S p ps ts Q R hp G ht h
  obtain ⟨r1, r2, L, r3⟩ := roF_all G
  have G1 : Good (roF ps) := ⟨r1, fun p hp => by have := r2 p hp; omega, L, 9, 2, r3, by decide⟩
  have G2 : Good ((roF ps).map fun p => (p.1, 3 * p.2)) := ⟨by rw [List.length_map]; exact r1, fun p hp => by
    obtain ⟨q, hq, rfl⟩ := List.mem_map.mp hp
    have := r2 q hq
    simp only
    omega, L.map (fun p => (p.1, 3 * p.2)), 9, 6, by rw [r3, List.map_append]; rfl, by decide⟩
  have G3 : Good ((roF ps).map fun p => (2 * p.1, p.2 / 2)) := ⟨by rw [List.length_map]; exact r1, fun p hp => by
    obtain ⟨q, hq, rfl⟩ := List.mem_map.mp hp
    have := r2 q hq
    simp only
    omega, L.map (fun p => (2 * p.1, p.2 / 2)), 18, 1, by rw [r3, List.map_append]; rfl, by decide⟩
  have ev : ∀ i, ext (spd (roF ps)) 0 i % 2 = 0 := ev_of fun p hp => (r2 p hp).2.2.2.2
  have gl := G.len
  have hsm : (smF ps).length ≤ 12 := by
    have : (roF ps).length = (smF ps).length := by unfold roF; rw [List.length_map]
    omega
  refine ⟨_, rfl, rfl, ?_⟩
  refine ⟨_, rfl, _, rfl, _, rfl, _, rfl, ?_, ?_⟩
  · show (cutL (prs ps) none (some (-1))).length ≤ 16777216
    have := cut_len (xs := prs ps) (lo := none) (hi := some (-1))
    rw [List.length_map] at this
    omega
  have ec : cutL (prs ps) none (some (-1)) = prs ps.dropLast := by rw [cut_init]; exact List.map_dropLast.symm
  rw [ec]
  refine lc_map (fun x => match x with
    | .tup [.int b, .int s] => .tup [.int (1 + b / 2), .int (s / 6 * 2)]
    | _ => .non) trivial _ _ (fun x hx K hK => ?_) ?_
  · obtain ⟨⟨b, s⟩, hm, rfl⟩ := List.mem_map.mp hx
    have := G.all _ ((List.dropLast_sublist _).subset hm)
    simp only at this
    refine ⟨_, rfl, rfl, _, _, rfl, _, _, rfl, rfl, ?_⟩
    refine ⟨_, rfl, ⟨by decide, by decide⟩, ?_⟩
    refine ⟨_, rfl, ⟨by decide, by decide⟩, .inr (.inl (by decide)), ?_⟩
    exact hK
  have es : (prs ps.dropLast).map (fun x => match x with
    | PV.tup [.int b, .int s] => PV.tup [.int (1 + b / 2), .int (s / 6 * 2)]
    | _ => .non) = prs (ps.dropLast.map fun p => (1 + p.1 / 2, p.2 / 6 * 2)) := by
    rw [List.map_map]
    show _ = List.map _ (List.map _ ps.dropLast)
    rw [List.map_map]
    rfl
  rw [List.nil_append, es]
  refine ⟨_, items_ref app_new, ?_⟩
  refine ⟨?_, ?_⟩
  · rw [List.length_map, List.length_map, List.length_dropLast]
    show _ + 1 ≤ 16777216
    omega
  have es2 : prs (ps.dropLast.map fun p => (1 + p.1 / 2, p.2 / 6 * 2)) ++ [PV.tup [.int 9, .int 2]] = prs (smF ps) := by
    unfold smF
    exact (prs_snoc (p := (9, 2))).symm
  rw [es2]
  refine ⟨_, rfl, _, rfl, ?_, ?_⟩
  · rw [List.length_map]
    show _ ≤ 16777216
    omega
  refine lc_map (fun x => match x with
    | .tup [.int b, .int s] => .tup [.int (if b < 25 then b else 25), .int s]
    | _ => .non) trivial _ _ (fun x hx K hK => ?_) ?_
  · obtain ⟨⟨b, s⟩, hm, rfl⟩ := List.mem_map.mp hx
    refine ⟨_, rfl, rfl, _, _, rfl, _, _, rfl, rfl, ?_⟩
    refine ⟨_, rfl, _, rfl, ?_⟩
    exact hK
  have er : (prs (smF ps)).map (fun x => match x with
    | PV.tup [.int b, .int s] => PV.tup [.int (if b < 25 then b else 25), .int s]
    | _ => .non) = prs (roF ps) := by
    rw [List.map_map]
    show _ = List.map _ (List.map _ (smF ps))
    rw [List.map_map]
    rfl
  rw [List.nil_append, er]
  refine ⟨_, items_ref app_new, ?_⟩
  show Exists _
  refine make_ok ro fun SA hA kA => ?_
  refine ⟨_, rfl, _, fld_pieces hA, _, rfl, ?_, ?_⟩
  · rw [List.length_map]
    show _ ≤ 16777216
    omega
  refine lc_map (fun x => match x with
    | .tup [.int b, .int s] => .tup [.int b, .int (3 * s)]
    | _ => .non) trivial _ _ (fun x hx K hK => ?_) ?_
  · obtain ⟨⟨b, s⟩, hm, rfl⟩ := List.mem_map.mp hx
    refine ⟨_, rfl, rfl, _, _, rfl, _, _, rfl, rfl, ?_⟩
    refine ⟨_, rfl, _, rfl, .inl (by decide), ?_⟩
    exact hK
  have et : (prs (roF ps)).map (fun x => match x with
    | PV.tup [.int b, .int s] => PV.tup [.int b, .int (3 * s)]
    | _ => .non) = prs ((roF ps).map fun p => (p.1, 3 * p.2)) := by
    rw [List.map_map]
    show _ = List.map _ (List.map _ (roF ps))
    rw [List.map_map]
    rfl
  rw [List.nil_append, et]
  refine ⟨_, items_ref app_new, ?_⟩
  show Exists _
  refine make_ok ro fun SB hB kB => ?_
  have hA2 := kB.at_ _ _ (fun z => z) (app_at (l := [SO.lst (prs ((roF ps).map fun p => (p.1, 3 * p.2)))]) hA)
  refine ⟨_, rfl, _, fld_pieces hA2, _, rfl, ?_, ?_⟩
  · rw [List.length_map]
    show _ ≤ 16777216
    omega
  refine lc_map (fun x => match x with
    | .tup [.int b, .int s] => .tup [.int (2 * b), .int (s / 2)]
    | _ => .non) trivial _ _ (fun x hx K hK => ?_) ?_
  · obtain ⟨⟨b, s⟩, hm, rfl⟩ := List.mem_map.mp hx
    refine ⟨_, rfl, rfl, _, _, rfl, _, _, rfl, rfl, ?_⟩
    refine ⟨_, rfl, .inl (by decide), _, rfl, ⟨by decide, by decide⟩, ?_⟩
    exact hK
  have eh : (prs (roF ps)).map (fun x => match x with
    | PV.tup [.int b, .int s] => PV.tup [.int (2 * b), .int (s / 2)]
    | _ => .non) = prs ((roF ps).map fun p => (2 * p.1, p.2 / 2)) := by
    rw [List.map_map]
    show _ = List.map _ (List.map _ (roF ps))
    rw [List.map_map]
    rfl
  rw [List.nil_append, eh]
  refine ⟨_, items_ref app_new, ?_⟩
  show Exists _
  refine make_ok ro fun SC hC kC => ?_
  have hA3 := kC.at_ _ _ (fun z => z) (app_at (l := [SO.lst (prs ((roF ps).map fun p => (2 * p.1, p.2 / 2)))]) hA2)
  have hB3 := kC.at_ _ _ (fun z => z) (app_at (l := [SO.lst (prs ((roF ps).map fun p => (2 * p.1, p.2 / 2)))]) hB)
  have KK : Kp no S SC := Kp.trans (Kp.trans (Kp.trans (Kp.refl.app.app) kA) (Kp.trans (Kp.refl.app) kB)) (Kp.trans (Kp.refl.app) kC)
  have hp3 := KK.at_ _ _ (fun z => z) hp
  refine ⟨_, rfl, _, items_ref hp3, ?_⟩
  refine for_by (fun rs σ S' => S' = SC ∧ ∃ (r : List Trn) (t0 a b c d e f g u v : Option PV), rs = r.map (tv ps) ∧ (∀ t ∈ r, TOk t) ∧ σ = [some (.tup (prs ps)), some (.ref p), t0, some (.ref (S ++ [SO.lst (prs (ps.dropLast.map fun p => (1 + p.1 / 2, p.2 / 6 * 2)))] ++ [SO.lst (prs (roF ps))]).length), some (.ref (SA ++ [SO.lst (prs ((roF ps).map fun p => (p.1, 3 * p.2)))]).length), some (.ref (SB ++ [SO.lst (prs ((roF ps).map fun p => (2 * p.1, p.2 / 2)))]).length), a, b, c, d, e, f, g, u, v]) (fun r σ S' h => by rw [h.1]; exact still_same) ?_ ?_ _ _ _ ?_
  · rintro σ S' ⟨rfl, r, t0, a, b, c, d, e, f, g, u, v, _, _, rfl⟩
    exact h _ KK
  · rintro x rs σ S' K ⟨rfl, r, t0, a, b, c, d, e, f, g, u, v, hr, hok, rfl⟩ hK
    cases r with
    | nil => cases hr
    | cons t r =>
      injection hr with g1 g2
      subst g1 g2
      obtain ⟨at_, l, w⟩ := t
      obtain ⟨k1, k2, k3, k4⟩ := hok _ (List.mem_cons_self ..)
      simp only at k1 k2 k3 k4
      have ea : (at_ : Int) % 300 = ((at_ % 300 : Nat) : Int) := by omega
      have ew : (w : Int) % 200 = ((w % 200 : Nat) : Int) := by omega
      refine ⟨_, rfl, rfl, _, _, rfl, _, _, rfl, _, _, rfl, _, _, rfl, rfl, ?_⟩
      refine ⟨_, rfl, by decide, _, rfl, by decide, ?_⟩
      refine ⟨_, rfl, ?_⟩
      refine onRecv_own (meth_road hA3 rfl rfl) ?_
      refine ⟨_, rfl, by decide, _, rfl, _, rfl, ?_⟩
      refine fe hA3 G1.rd (by show 0 ≤ (at_ : Int) % 300 + (w : Int) % 200; omega) (by show 1 ≤ 1 + l % 3000; omega) ?_
      have so : 1 ≤ 1 + l % 3000 := by omega
      have e1 : (at_ : Int) % 300 + (w : Int) % 200 = ((at_ % 300 + w % 200 : Nat) : Int) := by omega
      have e2 : 2 * ((at_ : Int) % 300) + 2 * ((w : Int) % 200) = ((2 * (at_ % 300 + w % 200) : Nat) : Int) := by omega
      have eq1 : fetR ((roF ps).map fun p => (p.1, 3 * p.2)) ((at_ : Int) % 300 + (w : Int) % 200) (3 * (1 + l % 3000)) = fetR (roF ps) ((at_ : Int) % 300 + (w : Int) % 200) (1 + l % 3000) := by
        rw [e1]
        refine (fet_eq G1.rd G2.rd so (by omega) fun k => ?_).symm
        rw [Amt_thrice]
        constructor <;> intro z <;> omega
      have eq2 : (fetR ((roF ps).map fun p => (2 * p.1, p.2 / 2)) (2 * ((at_ : Int) % 300) + 2 * ((w : Int) % 200)) (1 + l % 3000) + 1) / 2 = fetR (roF ps) ((at_ : Int) % 300 + (w : Int) % 200) (1 + l % 3000) := by
        rw [e1, e2]
        exact fet_halves G1.rd G3.rd _ ev so
      refine ⟨_, rfl, ?_⟩
      refine onRecv_own (meth_road hB3 rfl rfl) ?_
      refine ⟨_, rfl, by decide, _, rfl, .inl (by decide), _, rfl, ?_⟩
      refine fe hB3 G2.rd (by show 0 ≤ (at_ : Int) % 300 + (w : Int) % 200; omega) (by show 1 ≤ 3 * (1 + l % 3000); omega) ?_
      refine ⟨_, rfl, ?_⟩
      refine iteN (fun z => absurd eq1 z) (fun _ => ?_)
      refine ⟨_, rfl, ?_⟩
      refine onRecv_own (meth_road hC rfl rfl) ?_
      refine ⟨_, rfl, by decide, .inl (by decide), _, rfl, _, rfl, .inl (by decide), ?_⟩
      refine fe hC G3.rd (by show 0 ≤ 2 * ((at_ : Int) % 300) + 2 * ((w : Int) % 200); omega) (by show 1 ≤ 1 + l % 3000; omega) ?_
      refine ⟨⟨by decide, by decide⟩, _, rfl, ?_⟩
      refine iteN (fun z => absurd eq2 z) (fun _ => ?_)
      exact hK _ _ ⟨rfl, r, _, _, _, _, _, _, _, _, _, _, rfl, fun t h => hok t (List.mem_cons_of_mem _ h), rfl⟩
  · exact ⟨rfl, ts, _, _, _, _, _, _, _, _, _, _, rfl, ht, rfl⟩
def Item (B : Nat → Prop) (S : Store) (v : PV) : Prop := ∃ (r p : Nat) (ps : List (Int × Int)) (ts : List Trn), v = .tup [.tup (prs ps), .ref r, .ref p] ∧ ¬ B r ∧ ¬ B p ∧ S[r]? = some (roadS ps) ∧ S[p]? = some (.lst (ts.map (tv ps))) ∧ Good ps ∧ ts ≠ [] ∧ ts.length ≤ 12 ∧ (∀ t ∈ ts, TOk t)
theorem Item.kp {B : Nat → Prop} {S S' : Store} {v : PV} (h : Item B S v) (k : Kp B S S') : Item B S' v := by
  obtain ⟨r, p, ps, ts, rfl, h1, h2, h3, h4, h5⟩ := h
  exact ⟨r, p, ps, ts, rfl, h1, h2, k.at_ _ _ h1 h3, k.at_ _ _ h2 h4, h5⟩
theorem rng_ext3 (xs : List Int) (n : Nat) : (rngL 0 n).map (fun x => match x with
    | PV.int i => PV.int (ext xs 0 i.toNat)
    | _ => .non) = nums ((List.range n).map fun i => ext xs 0 i) := by
  have gen : ∀ (n k : Nat), (rngL (k : Int) n).map (fun x => match x with
      | PV.int i => PV.int (ext xs 0 i.toNat)
      | _ => .non) = nums ((List.range n).map fun i => ext xs 0 (k + i)) := by
    intro n
    induction n with
    | zero => intro k; rfl
    | succ n ih =>
      intro k
      have e := ih (k + 1)
      rw [rngL, List.map_cons, show ((k : Int) + 1) = ((k + 1 : Nat) : Int) from rfl, e, List.range_succ_eq_map, List.map_cons, List.map_map]
      simp only [Int.toNat_natCast]
      congr 2
      apply List.map_congr_left
      intro i _
      show ext xs 0 (k + 1 + i) = ext xs 0 (k + (i + 1))
      congr 1
      omega
  have := gen n 0
  simpa using this
abbrev three (d c q : Nat) : Nat → Prop := fun i => two_ d c i ∨ i = q
structure St (S : Store) (d c q : Nat) (xs : List PV) : Prop where
  deck : Deck S d c
  nq : ¬ two_ d c q
  at_ : S[q]? = some (.lst xs)
  items : ∀ v ∈ xs, Item (three d c q) S v
theorem St.kp {S S' : Store} {d c q : Nat} {xs : List PV} (h : St S d c q xs) (D : Deck S' d c) (k : Kp (two_ d c) S S') : St S' d c q xs :=
  ⟨D, h.nq, k.at_ _ _ h.nq h.at_, fun v hv => (h.items v hv).kp (k.imp fun _ z => .inl z)⟩
theorem St.no {S S' : Store} {d c q : Nat} {xs : List PV} (h : St S d c q xs) (k : Kp no S S') : St S' d c q xs := h.kp (h.deck.kp k) k.no
theorem St.push {S : Store} {d c q : Nat} {xs : List PV} {v : PV} (h : St S d c q xs) (hv : Item (three d c q) S v) : St (S.set q (.lst (xs ++ [v]))) d c q (xs ++ [v]) := by
  have k : Kp (three d c q) S (S.set q (.lst (xs ++ [v]))) := Kp.refl.set (.inr (.inr rfl))
  refine ⟨h.deck.put (fun e => h.nq (.inl e)) (fun e => h.nq (.inr e)), h.nq, set_at h.at_, fun w hw => ?_⟩
  rw [List.mem_append] at hw
  rcases hw with hw | hw
  · exact (h.items w hw).kp k
  · rw [List.mem_singleton] at hw
    rw [hw]
    exact hv.kp k
theorem law_ok {C : CS} (dr : DrawOk C) (op : OpenOk C) (gr : GreatOk C) (ro : RoadOk C) (tp : TripOk C) (tr : TripRightOk C) (tg : TogetherOk C) (td_ : TurnedOk C) (le : LenOk C) (sa : SpeedAtOk C) (kn : KnownOk C) (eq : EqOk C) (su : SumOfOk C) {ns : List Int} : bodyC tab C 16 [.scr (nums ns)] [] (fun v _ => v = .bl true) (fun _ _ => False) := by
  refine ⟨_, rfl, rfl, ?_⟩
  refine ⟨_, rfl, ?_⟩
  refine op fun d c S1 D1 K1 => ?_
  refine .inl ⟨2, rfl, ⟨by decide, by decide⟩, ?_⟩
  have base : St (S1 ++ [SO.lst []]) d c S1.length [] := ⟨D1.app, D1.new, app_new, fun v hv => by simp at hv⟩
  have lq : S1.length < (S1 ++ [SO.lst []]).length := by simp
  generalize hq : S1.length = q at base lq
  generalize (S1 ++ [SO.lst []]) = S0 at base lq
  refine for_by (fun rs σ S => ∃ xs a b e f g h, σ = [some (.scr (nums ns)), some (.ref d), some (.ref q), a, b, e, f, g, h] ∧ St S d c q xs ∧ xs.length + rs.length ≤ 2) (fun _ _ _ _ => trivial) ?_ ?_ _ _ _ ?_
  · rintro σ S ⟨xs, a, b, e, f, g, h, rfl, H, hl⟩
    refine ⟨_, rfl, _, rfl, rfl, _, lst_ref H.at_, ?_⟩
    refine ⟨_, _, app_at H.at_, app_new, ?_, ?_⟩
    · rw [List.length_reverse]
      show _ ≤ 16777216
      simp at hl
      omega
    refine ⟨_, items_ref app_new, ?_⟩
    have k5 : Kp no S (S ++ [SO.lst xs.reverse] ++ [SO.lst (xs ++ xs.reverse)]) := Kp.refl.app.app
    have H5 := H.no k5
    have hv : ∀ v ∈ xs ++ xs.reverse, Item (three d c q) (S ++ [SO.lst xs.reverse] ++ [SO.lst (xs ++ xs.reverse)]) v := fun v hv => by
      rw [List.mem_append, List.mem_reverse] at hv
      exact H5.items v (hv.elim id id)
    refine for_by (fun rs2 σ2 S2 => ∃ a e f g h i, σ2 = [some (.scr (nums ns)), some (.ref d), some (.ref q), a, e, f, g, h, i] ∧ (∀ v ∈ rs2, Item (three d c q) S2 v) ∧ Kp no (S ++ [SO.lst xs.reverse] ++ [SO.lst (xs ++ xs.reverse)]) S2) (fun r σ2 S2 h => ?_) ?_ ?_ _ _ _ ?_
    · obtain ⟨_, _, _, _, _, _, _, _, k⟩ := h
      show S2[(S ++ [SO.lst xs.reverse]).length]? = _
      rw [app_new]
      exact k.at_ _ _ (fun z => z) app_new
    · rintro σ2 S2 ⟨a, e, f, g, h, i, rfl, _⟩
      rfl
    · rintro y rs2 σ2 S2 K2 ⟨a, e, f, g, h, i, rfl, hI, kk⟩ hK2
      obtain ⟨r, p, ps, ts, rfl, n1, n2, h1, h2, G, tne, tl, tok⟩ := hI y (List.mem_cons_self ..)
      have W := G.spw
      refine ⟨_, rfl, rfl, _, _, rfl, _, _, rfl, _, _, rfl, rfl, ?_⟩
      refine ⟨_, rfl, _, rfl, ?_⟩
      refine tr h1 h2 G tok ?_
      refine ⟨_, rfl, ?_⟩
      refine ⟨_, rfl, _, rfl, ?_⟩
      refine tg h1 h2 G tne tl tok fun S3 k3 => ?_
      have h13 := k3.at_ _ _ (fun z => z) h1
      have h23 := k3.at_ _ _ (fun z => z) h2
      refine ⟨_, rfl, ?_⟩
      refine iteF rfl ?_
      refine ⟨_, rfl, _, rfl, ?_⟩
      refine td_ h23 G tok fun S4 k4 => ?_
      have h14 := k4.at_ _ _ (fun z => z) h13
      refine ⟨_, rfl, ?_⟩
      refine iteF rfl ?_
      refine ⟨_, rfl, _, _, rfl, methOf_road h14 rfl rfl, ?_⟩
      refine le h14 G.rd fun S5 k5 => ?_
      have hl5 := G.spd_len
      refine ⟨_, rfl, by omega, ?_⟩
      have h15 := k5.at_ _ _ (fun z => z) h14
      refine .inl ⟨_, rfl, ⟨by omega, by omega⟩, ?_, ?_⟩
      · rw [rng_len]
        show _ ≤ 16777216
        omega
      refine lc_map (fun x => match x with
        | .int i => .int (ext (spd ps) 0 i.toNat)
        | _ => .non) trivial _ _ (fun x hx K hK => ?_) ?_
      · obtain ⟨i, rfl, i0, _⟩ := rng_mem hx
        refine ⟨_, rfl, ?_⟩
        refine onRecv_own (meth_road h15 rfl rfl) ?_
        refine ⟨_, rfl, ?_⟩
        refine sa h15 G.rd.ne ?_
        rw [spAt_ext G.rd i0]
        exact hK
      have ex : (List.range (spd ps).length).map (fun i => ext (spd ps) 0 i) = spd ps := by
        have := ext_rep (xs := spd ps) 0
        rw [List.replicate_zero, List.append_nil, Nat.add_zero] at this
        exact this.symm
      rw [List.nil_append, Int.toNat_natCast, rng_ext3, ex]
      have h16 := app_at (l := [SO.lst (nums (spd ps))]) h15
      refine ⟨_, rfl, _, items_ref app_new, ?_⟩
      refine kn W fun m S6 _ hm k6 => ?_
      have h17 := k6.at_ _ _ (fun z => z) h16
      have hs7 := k6.at_ _ _ (fun z => z) (app_new (S := S5) (o := .lst (nums (spd ps))))
      refine ⟨_, rfl, ?_⟩
      refine ⟨_, methOf_road hm rfl rfl, eqk_road hm h17, ?_⟩
      refine eq hm h17 (knF_rd W) G.rd fun S7 k7 => ?_
      rw [knF_spd W.ne, decide_eq_true rfl]
      have h18 := k7.at_ _ _ (fun z => z) h17
      have hs8 := k7.at_ _ _ (fun z => z) hs7
      refine ⟨_, rfl, ?_⟩
      refine ⟨_, rfl, ?_⟩
      refine ⟨_, rfl, _, lst_ref hs8, ?_⟩
      refine ⟨_, rfl, ?_⟩
      refine onRecv_own (meth_road h18 rfl rfl) ?_
      refine ⟨_, rfl, _, _, rfl, methOf_road h18 rfl rfl, ?_⟩
      refine le h18 G.rd fun S8 k8 => ?_
      have h19 := k8.at_ _ _ (fun z => z) h18
      refine ⟨_, rfl, by omega, ?_⟩
      refine su h19 G.rd (fit_of (by omega) (by omega)) (fit_of (by omega) (by omega)) ?_
      have esu : (spd ps).sum = suR ps 0 ((spd ps).length : Int) := by
        have := suR_sum G.rd 0 (spd ps).length
        simp only [Nat.zero_add] at this
        rw [ex] at this
        rw [← this]
        congr 1
        simp
      refine iteN (fun z => absurd esu z) (fun _ => ?_)
      refine ⟨_, rfl, _, fld_pieces h19, _, rfl, ?_⟩
      refine ⟨_, _, .tup (dats_prs ps), .tup (dats_prs ps), (shaped_prs ps).2, (shaped_prs ps).2, ?_⟩
      rw [eqv_prs]
      refine iteF rfl ?_
      have kz : Kp no S2 S8 := k3.trans (k4.trans (k5.trans ((Kp.refl.app).trans (k6.trans (k7.trans k8)))))
      exact hK2 _ _ ⟨_, _, _, _, _, _, rfl, fun v hv => (hI v (List.mem_cons_of_mem _ hv)).kp kz.no, kk.trans kz⟩
    · exact ⟨_, _, _, _, _, _, rfl, hv, Kp.refl⟩
  · rintro x rs σ S K ⟨xs, a, b, e, f, g, h, rfl, H, hl⟩ hK
    refine ⟨_, rfl, ?_⟩
    refine gr H.deck fun ps S2 G D2 K2 => ?_
    have H2 := H.kp D2 K2
    refine ⟨_, rfl, ?_⟩
    show Exists _
    refine make_ok ro fun S3 r3 k3 => ?_
    have H3 := H2.no k3
    have n3 : ¬ three d c q S2.length := fun z => by
      have := D2.lt
      have := lt_of_at H2.at_
      rcases z with (z | z) | z <;> omega
    refine ⟨_, rfl, ?_⟩
    refine app_ok H3.at_ ?_
    refine ⟨_, rfl, _, rfl, _, rfl, _, rfl, ?_⟩
    refine tp H3.deck (fun z => n3 (.inl z)) r3 G fun p ts S4 lp tne tok tl hp np D4 k4 => ?_
    have H4 := H3.kp D4 k4
    have r4 := k4.at_ _ _ (fun z => n3 (.inl z)) r3
    refine ⟨_, H4.at_, ?_, ?_⟩
    · show xs.length < 16777216
      simp at hl
      omega
    have n4 : ¬ three d c q p := fun z => by
      have := lt_of_at H3.at_
      rcases z with z | z
      · exact np z
      · omega
    have k5 : Kp (three d c q) S4 (S4.set q (.lst (xs ++ [.tup [.tup (prs ps), .ref S2.length, .ref p]]))) := Kp.refl.set (.inr (.inr rfl))
    refine hK _ _ ⟨_, _, _, _, _, _, _, rfl, H4.push ⟨S2.length, p, ps, ts, rfl, n3, n4, r4, hp, G, tne, tl, tok⟩, ?_⟩
    simp at hl ⊢
    omega
  · exact ⟨[], _, _, _, _, _, _, rfl, base, by rw [rng_len]; decide⟩
theorem plain (ns : List Int) (_ : ns.length ≤ 63) : wpCall tab 9 16 [.scr (ns.map .int)] [] (fun v _ => v = .bl true) (fun _ _ => False) := by
  have dr : ∀ n, DrawOk (wpCall tab (n + 1)) := fun n => draw_ok
  have sa : ∀ n, SpeedAtOk (wpCall tab (n + 1)) := fun n => speedAt_ok
  have fe : ∀ n, FetchedOk (wpCall tab (n + 1)) := fun n => fetched_ok
  have su : ∀ n, SumOfOk (wpCall tab (n + 1)) := fun n => sumOf_ok
  have tu : ∀ n, TurnsOk (wpCall tab (n + 1)) := fun n => turns_ok
  have pb : ∀ n, PbyOk (wpCall tab (n + 1)) := fun n => pby_ok
  have le : ∀ n, LenOk (wpCall tab (n + 1)) := fun n => len_ok
  have ro : ∀ n, RoadOk (wpCall tab (n + 1)) := fun n => road_ok
  have eq : ∀ n, EqOk (wpCall tab (n + 2)) := fun n => eq_ok (tu n)
  have kn : ∀ n, KnownOk (wpCall tab (n + 2)) := fun n => known_ok (tu n) (pb n) (ro n)
  exact law_ok (C := wpCall tab 8) (dr 7) (open_ok (C := wpCall tab 7)) (great_ok (dr 6)) (ro 7) (trip_ok (dr 6) (fe 6)) (tripRight_ok (fe 6) (su 6)) (together_ok (fe 6) (su 6)) (turned_ok (fe 6) (ro 6)) (le 7) (sa 7) (kn 6) (eq 6) (su 7)
end Lw
end Rp
namespace Rp
namespace Lw
open PySem PySem.Spec PyProof.Rows
open L2
/-! ### the resolved table of the text -/
def top (i : Nat) : Stmt := PySem.Challenge.pw_rateplan_k14_whole_great_roads.main.body.getD i (.Pass ⟨0, 0, 0, 0⟩)
def nm : Nm := ⟨[("turns_of", 0), ("pieces_by", 1), ("known", 8), ("_law_deck", 9), ("_law_draw", 10), ("_law_great", 11), ("_law_trip", 12), ("_law_trip_right", 13), ("_law_together_right", 14), ("_law_turned_right", 15), ("law", 16)], [("Road", 0)], [("Road", (.cls 0))], ["max", "tuple", "isinstance", "len", "range", "sum", "min", "list"], ["pieces"], [⟨0, false, 1, [], [.inl 0]⟩, ⟨1, false, 2, [], [.inl 0, .inl 1]⟩, ⟨2, true, 1, [], [.inl 0]⟩, ⟨10, false, 2, [], [.inl 0, .inl 1]⟩, ⟨7, true, 2, ["wait"], [.inl 0, .inl 1, .inl 2]⟩, ⟨7, true, 2, [], [.inl 0, .inl 1, .inr (.int 0)]⟩, ⟨6, true, 2, [], [.inl 0, .inl 1]⟩, ⟨4, true, 0, [], []⟩, ⟨8, false, 1, [], [.inl 0]⟩, ⟨3, true, 1, [], [.inl 0]⟩, ⟨5, true, 1, [], [.inl 0]⟩, ⟨15, false, 2, [], [.inl 0, .inl 1]⟩, ⟨14, false, 2, [], [.inl 0, .inl 1]⟩, ⟨13, false, 2, [], [.inl 0, .inl 1]⟩, ⟨12, false, 2, [], [.inl 0, .inl 1]⟩, ⟨11, false, 1, [], [.inl 0]⟩, ⟨9, false, 1, [], [.inl 0]⟩]⟩
theorem lk0 : okSs nm tab ⟨nn0.map sN, defScope (top 1), true⟩ bb0 (defBody (top 1)) = true := by decide +kernel
theorem sc0 : C8.scC (nn0.map sN) ((nn0.map sN).take 1) (defScope (top 1)) = true := by decide +kernel
theorem lk1 : okSs nm tab ⟨nn1.map sN, defScope (top 2), true⟩ bb1 (defBody (top 2)) = true := by decide +kernel
theorem sc1 : C8.scC (nn1.map sN) ((nn1.map sN).take 2) (defScope (top 2)) = true := by decide +kernel
theorem lk2 : okSs nm tab ⟨nn2.map sN, defScope (inClass (top 3) 0), true⟩ bb2 (defBody (inClass (top 3) 0)) = true := by decide +kernel
theorem sc2 : C8.scC (nn2.map sN) ((nn2.map sN).take 2) (defScope (inClass (top 3) 0)) = true := by decide +kernel
theorem lk3 : okSs nm tab ⟨nn3.map sN, defScope (inClass (top 3) 1), true⟩ bb3 (defBody (inClass (top 3) 1)) = true := by decide +kernel
theorem sc3 : C8.scC (nn3.map sN) ((nn3.map sN).take 2) (defScope (inClass (top 3) 1)) = true := by decide +kernel
theorem lk4 : okSs nm tab ⟨nn4.map sN, defScope (inClass (top 3) 4), true⟩ bb4 (defBody (inClass (top 3) 4)) = true := by decide +kernel
theorem sc4 : C8.scC (nn4.map sN) ((nn4.map sN).take 1) (defScope (inClass (top 3) 4)) = true := by decide +kernel
theorem lk5 : okSs nm tab ⟨nn5.map sN, defScope (inClass (top 3) 5), true⟩ bb5 (defBody (inClass (top 3) 5)) = true := by decide +kernel
theorem sc5 : C8.scC (nn5.map sN) ((nn5.map sN).take 2) (defScope (inClass (top 3) 5)) = true := by decide +kernel
theorem lk6 : okSs nm tab ⟨nn6.map sN, defScope (inClass (top 3) 6), true⟩ bb6 (defBody (inClass (top 3) 6)) = true := by decide +kernel
theorem sc6 : C8.scC (nn6.map sN) ((nn6.map sN).take 3) (defScope (inClass (top 3) 6)) = true := by decide +kernel
theorem lk7 : okSs nm tab ⟨nn7.map sN, defScope (inClass (top 3) 7), true⟩ bb7 (defBody (inClass (top 3) 7)) = true := by decide +kernel
theorem sc7 : C8.scC (nn7.map sN) ((nn7.map sN).take 4) (defScope (inClass (top 3) 7)) = true := by decide +kernel
theorem lk8 : okSs nm tab ⟨nn8.map sN, defScope (top 4), true⟩ bb8 (defBody (top 4)) = true := by decide +kernel
theorem sc8 : C8.scC (nn8.map sN) ((nn8.map sN).take 1) (defScope (top 4)) = true := by decide +kernel
theorem lk9 : okSs nm tab ⟨nn9.map sN, defScope (top 6), true⟩ bb9 (defBody (top 6)) = true := by decide +kernel
theorem sc9 : C8.scC (nn9.map sN) ((nn9.map sN).take 1) (defScope (top 6)) = true := by decide +kernel
theorem lk10 : okSs nm tab ⟨nn10.map sN, defScope (top 7), true⟩ bb10 (defBody (top 7)) = true := by decide +kernel
theorem sc10 : C8.scC (nn10.map sN) ((nn10.map sN).take 2) (defScope (top 7)) = true := by decide +kernel
theorem lk11 : okSs nm tab ⟨nn11.map sN, defScope (top 8), true⟩ bb11 (defBody (top 8)) = true := by decide +kernel
theorem sc11 : C8.scC (nn11.map sN) ((nn11.map sN).take 1) (defScope (top 8)) = true := by decide +kernel
theorem lk12 : okSs nm tab ⟨nn12.map sN, defScope (top 9), true⟩ bb12 (defBody (top 9)) = true := by decide +kernel
theorem sc12 : C8.scC (nn12.map sN) ((nn12.map sN).take 2) (defScope (top 9)) = true := by decide +kernel
theorem lk13 : okSs nm tab ⟨nn13.map sN, defScope (top 10), true⟩ bb13 (defBody (top 10)) = true := by decide +kernel
theorem sc13 : C8.scC (nn13.map sN) ((nn13.map sN).take 2) (defScope (top 10)) = true := by decide +kernel
theorem lk14 : okSs nm tab ⟨nn14.map sN, defScope (top 11), true⟩ bb14 (defBody (top 11)) = true := by decide +kernel
theorem sc14 : C8.scC (nn14.map sN) ((nn14.map sN).take 2) (defScope (top 11)) = true := by decide +kernel
theorem lk15 : okSs nm tab ⟨nn15.map sN, defScope (top 12), true⟩ bb15 (defBody (top 12)) = true := by decide +kernel
theorem sc15 : C8.scC (nn15.map sN) ((nn15.map sN).take 2) (defScope (top 12)) = true := by decide +kernel
theorem lk16 : okSs nm tab ⟨nn16.map sN, defScope (top 13), true⟩ bb16 (defBody (top 13)) = true := by decide +kernel
theorem sc16 : C8.scC (nn16.map sN) ((nn16.map sN).take 1) (defScope (top 13)) = true := by decide +kernel
end Lw
end Rp
namespace Rp
namespace Lw
open PySem PySem.Spec PyProof.Rows
open L2
section
variable {K : PySem.W.Frag} {h : Heap} {mg : Str → Option Value} {f0 f1 f2 f3 f4 f5 f6 f7 f8 f9 f10 f11 f12 f13 f14 f15 f16 C0 : Addr}
  {od0 an0 : Option Addr} {sl0 : Array (Option Value)} {oc0 dc0 pm0 cd0 ct0 : Value} {kV0 : Value}
  {od1 an1 : Option Addr} {sl1 : Array (Option Value)} {oc1 dc1 pm1 cd1 ct1 : Value} {kV1 : Value}
  {od2 an2 : Option Addr} {sl2 : Array (Option Value)} {oc2 dc2 pm2 cd2 ct2 : Value} {kV2 : Value}
  {od3 an3 : Option Addr} {sl3 : Array (Option Value)} {oc3 dc3 pm3 cd3 ct3 : Value} {kV3 : Value}
  {od4 an4 : Option Addr} {sl4 : Array (Option Value)} {oc4 dc4 pm4 cd4 ct4 : Value} {kV4 : Value}
  {od5 an5 : Option Addr} {sl5 : Array (Option Value)} {oc5 dc5 pm5 cd5 ct5 : Value} {kV5 : Value}
  {od6 an6 : Option Addr} {sl6 : Array (Option Value)} {oc6 dc6 pm6 cd6 ct6 : Value} {kV6 : Value}
  {od7 an7 : Option Addr} {sl7 : Array (Option Value)} {oc7 dc7 pm7 cd7 ct7 : Value} {kD7 : Addr}
  {t7_wait : Tok}
  {od8 an8 : Option Addr} {sl8 : Array (Option Value)} {oc8 dc8 pm8 cd8 ct8 : Value} {kV8 : Value}
  {od9 an9 : Option Addr} {sl9 : Array (Option Value)} {oc9 dc9 pm9 cd9 ct9 : Value} {kV9 : Value}
  {od10 an10 : Option Addr} {sl10 : Array (Option Value)} {oc10 dc10 pm10 cd10 ct10 : Value} {kV10 : Value}
  {od11 an11 : Option Addr} {sl11 : Array (Option Value)} {oc11 dc11 pm11 cd11 ct11 : Value} {kV11 : Value}
  {od12 an12 : Option Addr} {sl12 : Array (Option Value)} {oc12 dc12 pm12 cd12 ct12 : Value} {kV12 : Value}
  {od13 an13 : Option Addr} {sl13 : Array (Option Value)} {oc13 dc13 pm13 cd13 ct13 : Value} {kV13 : Value}
  {od14 an14 : Option Addr} {sl14 : Array (Option Value)} {oc14 dc14 pm14 cd14 ct14 : Value} {kV14 : Value}
  {od15 an15 : Option Addr} {sl15 : Array (Option Value)} {oc15 dc15 pm15 cd15 ct15 : Value} {kV15 : Value}
  {od16 an16 : Option Addr} {sl16 : Array (Option Value)} {oc16 dc16 pm16 cd16 ct16 : Value} {kV16 : Value}
theorem sh0  (D : Ad) (F : Fd) (eK : D.K = K) (eF : F.fd 0 = PySem.W.fnOf "turns_of" "turns_of" (defArgs (top 1)) (defBody (top 1)) (defScope (top 1)) .none kV0 dc0 pm0 an0 cd0 ct0) : ShOk D F ⟨0, false, 1, [], [.inl 0]⟩ ⟨nn0, 1, bb0⟩ := by
  refine ⟨[.none], ⟨_, _, rfl, rfl⟩, fun g self us KI hl => ?_⟩
  rw [eF]
  match us, hl with
  | [u0], _ => exact .of_eq rfl
theorem sh1  (D : Ad) (F : Fd) (eK : D.K = K) (eF : F.fd 1 = PySem.W.fnOf "pieces_by" "pieces_by" (defArgs (top 2)) (defBody (top 2)) (defScope (top 2)) .none kV1 dc1 pm1 an1 cd1 ct1) : ShOk D F ⟨1, false, 2, [], [.inl 0, .inl 1]⟩ ⟨nn1, 2, bb1⟩ := by
  refine ⟨[.none, .none], ⟨_, _, rfl, ⟨_, _, rfl, rfl⟩⟩, fun g self us KI hl => ?_⟩
  rw [eF]
  match us, hl with
  | [u0, u1], _ => exact .of_eq rfl
theorem sh2  (D : Ad) (F : Fd) (eK : D.K = K) (eF : F.fd 2 = PySem.W.fnOf "__init__" "Road.__init__" (defArgs (inClass (top 3) 0)) (defBody (inClass (top 3) 0)) (defScope (inClass (top 3) 0)) .none kV2 dc2 pm2 an2 cd2 ct2) : ShOk D F ⟨2, true, 1, [], [.inl 0]⟩ ⟨nn2, 2, bb2⟩ := by
  refine ⟨[.none], ⟨_, _, rfl, rfl⟩, fun g self us KI hl => ?_⟩
  rw [eF]
  match us, hl with
  | [u0], _ => exact .of_eq rfl
theorem sh3  (D : Ad) (F : Fd) (eK : D.K = K) (eF : F.fd 10 = PySem.W.fnOf "_law_draw" "_law_draw" (defArgs (top 7)) (defBody (top 7)) (defScope (top 7)) .none kV10 dc10 pm10 an10 cd10 ct10) : ShOk D F ⟨10, false, 2, [], [.inl 0, .inl 1]⟩ ⟨nn10, 2, bb10⟩ := by
  refine ⟨[.none, .none], ⟨_, _, rfl, ⟨_, _, rfl, rfl⟩⟩, fun g self us KI hl => ?_⟩
  rw [eF]
  match us, hl with
  | [u0, u1], _ => exact .of_eq rfl
theorem sh4  (D : Ad) (F : Fd) (eK : D.K = K) (eF : F.fd 7 = PySem.W.fnOf "fetched" "Road.fetched" (defArgs (inClass (top 3) 7)) (defBody (inClass (top 3) 7)) (defScope (inClass (top 3) 7)) .none (.ref kD7) dc7 pm7 an7 cd7 ct7) : ShOk D F ⟨7, true, 2, ["wait"], [.inl 0, .inl 1, .inl 2]⟩ ⟨nn7, 4, bb7⟩ := by
  refine ⟨[.none, .none, .none], ⟨_, _, rfl, ⟨_, _, rfl, ⟨_, _, rfl, rfl⟩⟩⟩, fun g self us KI hl => ?_⟩
  rw [eF]
  match us, hl with
  | [u0, u1, u2], _ => exact .of_eq rfl
theorem sh5 (d7_wait : PySem.W.nsIn K kD7 "wait" = some (some (.int 0 t7_wait))) (D : Ad) (F : Fd) (eK : D.K = K) (eF : F.fd 7 = PySem.W.fnOf "fetched" "Road.fetched" (defArgs (inClass (top 3) 7)) (defBody (inClass (top 3) 7)) (defScope (inClass (top 3) 7)) .none (.ref kD7) dc7 pm7 an7 cd7 ct7) : ShOk D F ⟨7, true, 2, [], [.inl 0, .inl 1, .inr (.int 0)]⟩ ⟨nn7, 4, bb7⟩ := by
  refine ⟨[.none, .none, (.int 0 t7_wait)], ⟨_, _, rfl, ⟨_, _, rfl, ⟨_, _, rfl, ⟨.int 0, ⟨_, rfl⟩, fun _ _ => rfl⟩, rfl⟩⟩⟩, fun g self us KI hl => ?_⟩
  rw [eF]
  match us, hl with
  | [u0, u1], _ =>
    rw [eK] at KI
    refine L2.BindsTo.of_looks fun M => KwChain.looks (l := [(sN "wait", (.int 0 t7_wait))]) KI ?_ ⟨_, _, _, _, _, _, rfl, rfl, rfl⟩
    intro z hz
    simp only [List.mem_cons, List.not_mem_nil, or_false] at hz
    rcases hz with rfl
    · exact d7_wait
theorem sh6  (D : Ad) (F : Fd) (eK : D.K = K) (eF : F.fd 6 = PySem.W.fnOf "sum_of" "Road.sum_of" (defArgs (inClass (top 3) 6)) (defBody (inClass (top 3) 6)) (defScope (inClass (top 3) 6)) .none kV6 dc6 pm6 an6 cd6 ct6) : ShOk D F ⟨6, true, 2, [], [.inl 0, .inl 1]⟩ ⟨nn6, 3, bb6⟩ := by
  refine ⟨[.none, .none], ⟨_, _, rfl, ⟨_, _, rfl, rfl⟩⟩, fun g self us KI hl => ?_⟩
  rw [eF]
  match us, hl with
  | [u0, u1], _ => exact .of_eq rfl
theorem sh7  (D : Ad) (F : Fd) (eK : D.K = K) (eF : F.fd 4 = PySem.W.fnOf "__len__" "Road.__len__" (defArgs (inClass (top 3) 4)) (defBody (inClass (top 3) 4)) (defScope (inClass (top 3) 4)) .none kV4 dc4 pm4 an4 cd4 ct4) : ShOk D F ⟨4, true, 0, [], []⟩ ⟨nn4, 1, bb4⟩ := by
  refine ⟨[], rfl, fun g self us KI hl => ?_⟩
  rw [eF]
  match us, hl with
  | [], _ => exact .of_eq rfl
theorem sh8  (D : Ad) (F : Fd) (eK : D.K = K) (eF : F.fd 8 = PySem.W.fnOf "known" "known" (defArgs (top 4)) (defBody (top 4)) (defScope (top 4)) .none kV8 dc8 pm8 an8 cd8 ct8) : ShOk D F ⟨8, false, 1, [], [.inl 0]⟩ ⟨nn8, 1, bb8⟩ := by
  refine ⟨[.none], ⟨_, _, rfl, rfl⟩, fun g self us KI hl => ?_⟩
  rw [eF]
  match us, hl with
  | [u0], _ => exact .of_eq rfl
theorem sh9  (D : Ad) (F : Fd) (eK : D.K = K) (eF : F.fd 3 = PySem.W.fnOf "__eq__" "Road.__eq__" (defArgs (inClass (top 3) 1)) (defBody (inClass (top 3) 1)) (defScope (inClass (top 3) 1)) .none kV3 dc3 pm3 an3 cd3 ct3) : ShOk D F ⟨3, true, 1, [], [.inl 0]⟩ ⟨nn3, 2, bb3⟩ := by
  refine ⟨[.none], ⟨_, _, rfl, rfl⟩, fun g self us KI hl => ?_⟩
  rw [eF]
  match us, hl with
  | [u0], _ => exact .of_eq rfl
theorem sh10  (D : Ad) (F : Fd) (eK : D.K = K) (eF : F.fd 5 = PySem.W.fnOf "speed_at" "Road.speed_at" (defArgs (inClass (top 3) 5)) (defBody (inClass (top 3) 5)) (defScope (inClass (top 3) 5)) .none kV5 dc5 pm5 an5 cd5 ct5) : ShOk D F ⟨5, true, 1, [], [.inl 0]⟩ ⟨nn5, 2, bb5⟩ := by
  refine ⟨[.none], ⟨_, _, rfl, rfl⟩, fun g self us KI hl => ?_⟩
  rw [eF]
  match us, hl with
  | [u0], _ => exact .of_eq rfl
theorem sh11  (D : Ad) (F : Fd) (eK : D.K = K) (eF : F.fd 15 = PySem.W.fnOf "_law_turned_right" "_law_turned_right" (defArgs (top 12)) (defBody (top 12)) (defScope (top 12)) .none kV15 dc15 pm15 an15 cd15 ct15) : ShOk D F ⟨15, false, 2, [], [.inl 0, .inl 1]⟩ ⟨nn15, 2, bb15⟩ := by
  refine ⟨[.none, .none], ⟨_, _, rfl, ⟨_, _, rfl, rfl⟩⟩, fun g self us KI hl => ?_⟩
  rw [eF]
  match us, hl with
  | [u0, u1], _ => exact .of_eq rfl
theorem sh12  (D : Ad) (F : Fd) (eK : D.K = K) (eF : F.fd 14 = PySem.W.fnOf "_law_together_right" "_law_together_right" (defArgs (top 11)) (defBody (top 11)) (defScope (top 11)) .none kV14 dc14 pm14 an14 cd14 ct14) : ShOk D F ⟨14, false, 2, [], [.inl 0, .inl 1]⟩ ⟨nn14, 2, bb14⟩ := by
  refine ⟨[.none, .none], ⟨_, _, rfl, ⟨_, _, rfl, rfl⟩⟩, fun g self us KI hl => ?_⟩
  rw [eF]
  match us, hl with
  | [u0, u1], _ => exact .of_eq rfl
theorem sh13  (D : Ad) (F : Fd) (eK : D.K = K) (eF : F.fd 13 = PySem.W.fnOf "_law_trip_right" "_law_trip_right" (defArgs (top 10)) (defBody (top 10)) (defScope (top 10)) .none kV13 dc13 pm13 an13 cd13 ct13) : ShOk D F ⟨13, false, 2, [], [.inl 0, .inl 1]⟩ ⟨nn13, 2, bb13⟩ := by
  refine ⟨[.none, .none], ⟨_, _, rfl, ⟨_, _, rfl, rfl⟩⟩, fun g self us KI hl => ?_⟩
  rw [eF]
  match us, hl with
  | [u0, u1], _ => exact .of_eq rfl
theorem sh14  (D : Ad) (F : Fd) (eK : D.K = K) (eF : F.fd 12 = PySem.W.fnOf "_law_trip" "_law_trip" (defArgs (top 9)) (defBody (top 9)) (defScope (top 9)) .none kV12 dc12 pm12 an12 cd12 ct12) : ShOk D F ⟨12, false, 2, [], [.inl 0, .inl 1]⟩ ⟨nn12, 2, bb12⟩ := by
  refine ⟨[.none, .none], ⟨_, _, rfl, ⟨_, _, rfl, rfl⟩⟩, fun g self us KI hl => ?_⟩
  rw [eF]
  match us, hl with
  | [u0, u1], _ => exact .of_eq rfl
theorem sh15  (D : Ad) (F : Fd) (eK : D.K = K) (eF : F.fd 11 = PySem.W.fnOf "_law_great" "_law_great" (defArgs (top 8)) (defBody (top 8)) (defScope (top 8)) .none kV11 dc11 pm11 an11 cd11 ct11) : ShOk D F ⟨11, false, 1, [], [.inl 0]⟩ ⟨nn11, 1, bb11⟩ := by
  refine ⟨[.none], ⟨_, _, rfl, rfl⟩, fun g self us KI hl => ?_⟩
  rw [eF]
  match us, hl with
  | [u0], _ => exact .of_eq rfl
theorem sh16  (D : Ad) (F : Fd) (eK : D.K = K) (eF : F.fd 9 = PySem.W.fnOf "_law_deck" "_law_deck" (defArgs (top 6)) (defBody (top 6)) (defScope (top 6)) .none kV9 dc9 pm9 an9 cd9 ct9) : ShOk D F ⟨9, false, 1, [], [.inl 0]⟩ ⟨nn9, 1, bb9⟩ := by
  refine ⟨[.none], ⟨_, _, rfl, rfl⟩, fun g self us KI hl => ?_⟩
  rw [eF]
  match us, hl with
  | [u0], _ => exact .of_eq rfl
theorem top_mk (X : K.In h) (G : h.Ns mainGlobals mg)
    (a0 : PySem.W.nsIn K mainGlobals "turns_of" = some (some (.ref f0)))
    (a1 : PySem.W.nsIn K mainGlobals "pieces_by" = some (some (.ref f1)))
    (a8 : PySem.W.nsIn K mainGlobals "known" = some (some (.ref f8)))
    (a9 : PySem.W.nsIn K mainGlobals "_law_deck" = some (some (.ref f9)))
    (a10 : PySem.W.nsIn K mainGlobals "_law_draw" = some (some (.ref f10)))
    (a11 : PySem.W.nsIn K mainGlobals "_law_great" = some (some (.ref f11)))
    (a12 : PySem.W.nsIn K mainGlobals "_law_trip" = some (some (.ref f12)))
    (a13 : PySem.W.nsIn K mainGlobals "_law_trip_right" = some (some (.ref f13)))
    (a14 : PySem.W.nsIn K mainGlobals "_law_together_right" = some (some (.ref f14)))
    (a15 : PySem.W.nsIn K mainGlobals "_law_turned_right" = some (some (.ref f15)))
    (a16 : PySem.W.nsIn K mainGlobals "law" = some (some (.ref f16)))
    (hn : PySem.W.specialIn K (.builtin "object.__class__") "__get__" = some (some (.builtin "getset_descriptor.__get__")))
    (htk : PySem.W.takesIn K (.builtin "object.__class__") = some true)
    (gC0 : PySem.W.nsIn K mainGlobals "Road" = some (some (.ref C0)))
    (kC0 : PySem.W.keepIn K (.ref C0) = true)
    (mk0 : PySem.W.makesIn K C0 = true)
    (me0_2 : PySem.W.findIn K (.ref C0) "__init__" = some (some (.ref f2)))
    (fn2 : PySem.W.isFn K (.ref f2) = true)
    (me0_3 : PySem.W.findIn K (.ref C0) "__eq__" = some (some (.ref f3)))
    (fn3 : PySem.W.isFn K (.ref f3) = true)
    (me0_4 : PySem.W.findIn K (.ref C0) "__len__" = some (some (.ref f4)))
    (fn4 : PySem.W.isFn K (.ref f4) = true)
    (me0_5 : PySem.W.findIn K (.ref C0) "speed_at" = some (some (.ref f5)))
    (fn5 : PySem.W.isFn K (.ref f5) = true)
    (me0_6 : PySem.W.findIn K (.ref C0) "sum_of" = some (some (.ref f6)))
    (fn6 : PySem.W.isFn K (.ref f6) = true)
    (me0_7 : PySem.W.findIn K (.ref C0) "fetched" = some (some (.ref f7)))
    (fn7 : PySem.W.isFn K (.ref f7) = true)
    (pg0 : PySem.W.plainGet K C0 Str.empty = true)
    (hd0 : PySem.W.hasDictIn K C0 = true)
    (po0 : PySem.W.plainOver K C0 = true)
    (sa0 : PySem.W.findIn K (.ref C0) "__setattr__" = some (some (.builtin "object.__setattr__")))
    (ca0 : PySem.W.findIn K (.ref C0) "__class__" = some (some (.builtin "object.__class__")))
    (mo0 : PySem.W.mroIn K C0 (.type "object") = some true)
    (na0_pieces : PySem.W.findIn K (.ref C0) "pieces" = some none)
    (ic0 : PySem.W.isClsIn K C0 = true)
    (ty0 : PySem.W.typeIn K (.ref C0) = some (.type "type"))
    (ib0_non : PySem.W.subIn K (.type "NoneType") (.ref C0) = some false)
    (ci0_int : PySem.W.subIn K (.ref C0) (.type "int") = some false)
    (ib0_int : PySem.W.subIn K (.type "int") (.ref C0) = some false)
    (ci0_bool : PySem.W.subIn K (.ref C0) (.type "bool") = some false)
    (ib0_bool : PySem.W.subIn K (.type "bool") (.ref C0) = some false)
    (ci0_str : PySem.W.subIn K (.ref C0) (.type "str") = some false)
    (ib0_str : PySem.W.subIn K (.type "str") (.ref C0) = some false)
    (ci0_tuple : PySem.W.subIn K (.ref C0) (.type "tuple") = some false)
    (ib0_tuple : PySem.W.subIn K (.type "tuple") (.ref C0) = some false)
    (ci0_list : PySem.W.subIn K (.ref C0) (.type "list") = some false)
    (ib0_list : PySem.W.subIn K (.type "list") (.ref C0) = some false)
    (ci0_dict : PySem.W.subIn K (.ref C0) (.type "dict") = some false)
    (ib0_dict : PySem.W.subIn K (.type "dict") (.ref C0) = some false)
    (en0 : PySem.W.findIn K (.ref C0) "__ne__" = some (some (.builtin "object.__ne__")))
    (l0 : K.lookup f0 = some ⟨oc0, od0, .func (PySem.W.fnOf "turns_of" "turns_of" (defArgs (top 1)) (defBody (top 1)) (defScope (top 1)) .none kV0 dc0 pm0 an0 cd0 ct0), sl0⟩) (c0 : PySem.W.codeIn K cd0 "turns_of" = true) (k0 : PySem.W.keepIn K (.ref f0) = true)
    (l1 : K.lookup f1 = some ⟨oc1, od1, .func (PySem.W.fnOf "pieces_by" "pieces_by" (defArgs (top 2)) (defBody (top 2)) (defScope (top 2)) .none kV1 dc1 pm1 an1 cd1 ct1), sl1⟩) (c1 : PySem.W.codeIn K cd1 "pieces_by" = true) (k1 : PySem.W.keepIn K (.ref f1) = true)
    (l2 : K.lookup f2 = some ⟨oc2, od2, .func (PySem.W.fnOf "__init__" "Road.__init__" (defArgs (inClass (top 3) 0)) (defBody (inClass (top 3) 0)) (defScope (inClass (top 3) 0)) .none kV2 dc2 pm2 an2 cd2 ct2), sl2⟩) (c2 : PySem.W.codeIn K cd2 "Road.__init__" = true) (k2 : PySem.W.keepIn K (.ref f2) = true)
    (l3 : K.lookup f3 = some ⟨oc3, od3, .func (PySem.W.fnOf "__eq__" "Road.__eq__" (defArgs (inClass (top 3) 1)) (defBody (inClass (top 3) 1)) (defScope (inClass (top 3) 1)) .none kV3 dc3 pm3 an3 cd3 ct3), sl3⟩) (c3 : PySem.W.codeIn K cd3 "Road.__eq__" = true) (k3 : PySem.W.keepIn K (.ref f3) = true)
    (l4 : K.lookup f4 = some ⟨oc4, od4, .func (PySem.W.fnOf "__len__" "Road.__len__" (defArgs (inClass (top 3) 4)) (defBody (inClass (top 3) 4)) (defScope (inClass (top 3) 4)) .none kV4 dc4 pm4 an4 cd4 ct4), sl4⟩) (c4 : PySem.W.codeIn K cd4 "Road.__len__" = true) (k4 : PySem.W.keepIn K (.ref f4) = true)
    (l5 : K.lookup f5 = some ⟨oc5, od5, .func (PySem.W.fnOf "speed_at" "Road.speed_at" (defArgs (inClass (top 3) 5)) (defBody (inClass (top 3) 5)) (defScope (inClass (top 3) 5)) .none kV5 dc5 pm5 an5 cd5 ct5), sl5⟩) (c5 : PySem.W.codeIn K cd5 "Road.speed_at" = true) (k5 : PySem.W.keepIn K (.ref f5) = true)
    (l6 : K.lookup f6 = some ⟨oc6, od6, .func (PySem.W.fnOf "sum_of" "Road.sum_of" (defArgs (inClass (top 3) 6)) (defBody (inClass (top 3) 6)) (defScope (inClass (top 3) 6)) .none kV6 dc6 pm6 an6 cd6 ct6), sl6⟩) (c6 : PySem.W.codeIn K cd6 "Road.sum_of" = true) (k6 : PySem.W.keepIn K (.ref f6) = true)
    (l7 : K.lookup f7 = some ⟨oc7, od7, .func (PySem.W.fnOf "fetched" "Road.fetched" (defArgs (inClass (top 3) 7)) (defBody (inClass (top 3) 7)) (defScope (inClass (top 3) 7)) .none (.ref kD7) dc7 pm7 an7 cd7 ct7), sl7⟩) (c7 : PySem.W.codeIn K cd7 "Road.fetched" = true) (k7 : PySem.W.keepIn K (.ref f7) = true)
    (d7_wait : PySem.W.nsIn K kD7 "wait" = some (some (.int 0 t7_wait)))
    (l8 : K.lookup f8 = some ⟨oc8, od8, .func (PySem.W.fnOf "known" "known" (defArgs (top 4)) (defBody (top 4)) (defScope (top 4)) .none kV8 dc8 pm8 an8 cd8 ct8), sl8⟩) (c8 : PySem.W.codeIn K cd8 "known" = true) (k8 : PySem.W.keepIn K (.ref f8) = true)
    (l9 : K.lookup f9 = some ⟨oc9, od9, .func (PySem.W.fnOf "_law_deck" "_law_deck" (defArgs (top 6)) (defBody (top 6)) (defScope (top 6)) .none kV9 dc9 pm9 an9 cd9 ct9), sl9⟩) (c9 : PySem.W.codeIn K cd9 "_law_deck" = true) (k9 : PySem.W.keepIn K (.ref f9) = true)
    (l10 : K.lookup f10 = some ⟨oc10, od10, .func (PySem.W.fnOf "_law_draw" "_law_draw" (defArgs (top 7)) (defBody (top 7)) (defScope (top 7)) .none kV10 dc10 pm10 an10 cd10 ct10), sl10⟩) (c10 : PySem.W.codeIn K cd10 "_law_draw" = true) (k10 : PySem.W.keepIn K (.ref f10) = true)
    (l11 : K.lookup f11 = some ⟨oc11, od11, .func (PySem.W.fnOf "_law_great" "_law_great" (defArgs (top 8)) (defBody (top 8)) (defScope (top 8)) .none kV11 dc11 pm11 an11 cd11 ct11), sl11⟩) (c11 : PySem.W.codeIn K cd11 "_law_great" = true) (k11 : PySem.W.keepIn K (.ref f11) = true)
    (l12 : K.lookup f12 = some ⟨oc12, od12, .func (PySem.W.fnOf "_law_trip" "_law_trip" (defArgs (top 9)) (defBody (top 9)) (defScope (top 9)) .none kV12 dc12 pm12 an12 cd12 ct12), sl12⟩) (c12 : PySem.W.codeIn K cd12 "_law_trip" = true) (k12 : PySem.W.keepIn K (.ref f12) = true)
    (l13 : K.lookup f13 = some ⟨oc13, od13, .func (PySem.W.fnOf "_law_trip_right" "_law_trip_right" (defArgs (top 10)) (defBody (top 10)) (defScope (top 10)) .none kV13 dc13 pm13 an13 cd13 ct13), sl13⟩) (c13 : PySem.W.codeIn K cd13 "_law_trip_right" = true) (k13 : PySem.W.keepIn K (.ref f13) = true)
    (l14 : K.lookup f14 = some ⟨oc14, od14, .func (PySem.W.fnOf "_law_together_right" "_law_together_right" (defArgs (top 11)) (defBody (top 11)) (defScope (top 11)) .none kV14 dc14 pm14 an14 cd14 ct14), sl14⟩) (c14 : PySem.W.codeIn K cd14 "_law_together_right" = true) (k14 : PySem.W.keepIn K (.ref f14) = true)
    (l15 : K.lookup f15 = some ⟨oc15, od15, .func (PySem.W.fnOf "_law_turned_right" "_law_turned_right" (defArgs (top 12)) (defBody (top 12)) (defScope (top 12)) .none kV15 dc15 pm15 an15 cd15 ct15), sl15⟩) (c15 : PySem.W.codeIn K cd15 "_law_turned_right" = true) (k15 : PySem.W.keepIn K (.ref f15) = true)
    (l16 : K.lookup f16 = some ⟨oc16, od16, .func (PySem.W.fnOf "law" "law" (defArgs (top 13)) (defBody (top 13)) (defScope (top 13)) .none kV16 dc16 pm16 an16 cd16 ct16), sl16⟩) (c16 : PySem.W.codeIn K cd16 "law" = true) (k16 : PySem.W.keepIn K (.ref f16) = true)
    (z_max : PySem.W.nsIn K mainGlobals "max" = some none)
    (z_tuple : PySem.W.nsIn K mainGlobals "tuple" = some none)
    (z_isinstance : PySem.W.nsIn K mainGlobals "isinstance" = some none)
    (z_len : PySem.W.nsIn K mainGlobals "len" = some none)
    (z_range : PySem.W.nsIn K mainGlobals "range" = some none)
    (z_sum : PySem.W.nsIn K mainGlobals "sum" = some none)
    (z_min : PySem.W.nsIn K mainGlobals "min" = some none)
    (z_list : PySem.W.nsIn K mainGlobals "list" = some none)
    : ∃ (D : Ad) (F : Fd), D.K = K ∧ D.fa 16 = f16 ∧ F.fd 16 = PySem.W.fnOf "law" "law" (defArgs (top 13)) (defBody (top 13)) (defScope (top 13)) .none kV16 dc16 pm16 an16 cd16 ct16 ∧ Top D F mg tab nm := by
  refine ⟨⟨K, fun i => [f0, f1, f2, f3, f4, f5, f6, f7, f8, f9, f10, f11, f12, f13, f14, f15, f16].getD i 0, fun i => [C0].getD i 0⟩, ⟨fun i => [PySem.W.fnOf "turns_of" "turns_of" (defArgs (top 1)) (defBody (top 1)) (defScope (top 1)) .none kV0 dc0 pm0 an0 cd0 ct0, PySem.W.fnOf "pieces_by" "pieces_by" (defArgs (top 2)) (defBody (top 2)) (defScope (top 2)) .none kV1 dc1 pm1 an1 cd1 ct1, PySem.W.fnOf "__init__" "Road.__init__" (defArgs (inClass (top 3) 0)) (defBody (inClass (top 3) 0)) (defScope (inClass (top 3) 0)) .none kV2 dc2 pm2 an2 cd2 ct2, PySem.W.fnOf "__eq__" "Road.__eq__" (defArgs (inClass (top 3) 1)) (defBody (inClass (top 3) 1)) (defScope (inClass (top 3) 1)) .none kV3 dc3 pm3 an3 cd3 ct3, PySem.W.fnOf "__len__" "Road.__len__" (defArgs (inClass (top 3) 4)) (defBody (inClass (top 3) 4)) (defScope (inClass (top 3) 4)) .none kV4 dc4 pm4 an4 cd4 ct4, PySem.W.fnOf "speed_at" "Road.speed_at" (defArgs (inClass (top 3) 5)) (defBody (inClass (top 3) 5)) (defScope (inClass (top 3) 5)) .none kV5 dc5 pm5 an5 cd5 ct5, PySem.W.fnOf "sum_of" "Road.sum_of" (defArgs (inClass (top 3) 6)) (defBody (inClass (top 3) 6)) (defScope (inClass (top 3) 6)) .none kV6 dc6 pm6 an6 cd6 ct6, PySem.W.fnOf "fetched" "Road.fetched" (defArgs (inClass (top 3) 7)) (defBody (inClass (top 3) 7)) (defScope (inClass (top 3) 7)) .none (.ref kD7) dc7 pm7 an7 cd7 ct7, PySem.W.fnOf "known" "known" (defArgs (top 4)) (defBody (top 4)) (defScope (top 4)) .none kV8 dc8 pm8 an8 cd8 ct8, PySem.W.fnOf "_law_deck" "_law_deck" (defArgs (top 6)) (defBody (top 6)) (defScope (top 6)) .none kV9 dc9 pm9 an9 cd9 ct9, PySem.W.fnOf "_law_draw" "_law_draw" (defArgs (top 7)) (defBody (top 7)) (defScope (top 7)) .none kV10 dc10 pm10 an10 cd10 ct10, PySem.W.fnOf "_law_great" "_law_great" (defArgs (top 8)) (defBody (top 8)) (defScope (top 8)) .none kV11 dc11 pm11 an11 cd11 ct11, PySem.W.fnOf "_law_trip" "_law_trip" (defArgs (top 9)) (defBody (top 9)) (defScope (top 9)) .none kV12 dc12 pm12 an12 cd12 ct12, PySem.W.fnOf "_law_trip_right" "_law_trip_right" (defArgs (top 10)) (defBody (top 10)) (defScope (top 10)) .none kV13 dc13 pm13 an13 cd13 ct13, PySem.W.fnOf "_law_together_right" "_law_together_right" (defArgs (top 11)) (defBody (top 11)) (defScope (top 11)) .none kV14 dc14 pm14 an14 cd14 ct14, PySem.W.fnOf "_law_turned_right" "_law_turned_right" (defArgs (top 12)) (defBody (top 12)) (defScope (top 12)) .none kV15 dc15 pm15 an15 cd15 ct15, PySem.W.fnOf "law" "law" (defArgs (top 13)) (defBody (top 13)) (defScope (top 13)) .none kV16 dc16 pm16 an16 cd16 ct16].getD i (PySem.W.fnOf "turns_of" "turns_of" (defArgs (top 1)) (defBody (top 1)) (defScope (top 1)) .none kV0 dc0 pm0 an0 cd0 ct0)⟩, rfl, rfl, rfl, ?_⟩
  refine ⟨?_, ?_, ?_, ?_, ?_, ?_, ?_, ?_⟩
  · intro x f hx
    exact (show ∀ z ∈ nm.gf, mg (sN z.1) = some (.ref ([f0, f1, f2, f3, f4, f5, f6, f7, f8, f9, f10, f11, f12, f13, f14, f15, f16].getD z.2 0)) ∧ PySem.W.keepIn K (.ref ([f0, f1, f2, f3, f4, f5, f6, f7, f8, f9, f10, f11, f12, f13, f14, f15, f16].getD z.2 0)) = true from List.forall_mem_cons.mpr ⟨⟨PySem.W.mg_of X G a0, k0⟩, List.forall_mem_cons.mpr ⟨⟨PySem.W.mg_of X G a1, k1⟩, List.forall_mem_cons.mpr ⟨⟨PySem.W.mg_of X G a8, k8⟩, List.forall_mem_cons.mpr ⟨⟨PySem.W.mg_of X G a9, k9⟩, List.forall_mem_cons.mpr ⟨⟨PySem.W.mg_of X G a10, k10⟩, List.forall_mem_cons.mpr ⟨⟨PySem.W.mg_of X G a11, k11⟩, List.forall_mem_cons.mpr ⟨⟨PySem.W.mg_of X G a12, k12⟩, List.forall_mem_cons.mpr ⟨⟨PySem.W.mg_of X G a13, k13⟩, List.forall_mem_cons.mpr ⟨⟨PySem.W.mg_of X G a14, k14⟩, List.forall_mem_cons.mpr ⟨⟨PySem.W.mg_of X G a15, k15⟩, List.forall_mem_cons.mpr ⟨⟨PySem.W.mg_of X G a16, k16⟩, List.forall_mem_nil _⟩⟩⟩⟩⟩⟩⟩⟩⟩⟩⟩) (x, f) hx
  · intro x c hx
    exact (show ∀ z ∈ nm.gc, mg (sN z.1) = some (.ref ([C0].getD z.2 0)) ∧ ∀ f, (tab.cls[z.2]?).bind (·.ini) = some f → Mk K ([C0].getD z.2 0) ([f0, f1, f2, f3, f4, f5, f6, f7, f8, f9, f10, f11, f12, f13, f14, f15, f16].getD f 0) from List.forall_mem_cons.mpr ⟨⟨PySem.W.mg_of X G gC0, fun f hf => by cases hf; exact ⟨mk0, me0_2, fn2, kC0⟩⟩, List.forall_mem_nil _⟩) (x, c) hx
  · intro x v hx
    exact (show ∀ z ∈ nm.gv, ∃ u y, mg (sN z.1) = some u ∧ RelV y u ∧ ∀ ι H, RV (⟨K, fun i => [f0, f1, f2, f3, f4, f5, f6, f7, f8, f9, f10, f11, f12, f13, f14, f15, f16].getD i 0, fun i => [C0].getD i 0⟩ : Ad) ι H z.2 y from List.forall_mem_cons.mpr ⟨⟨_, .ref C0, PySem.W.mg_of X G gC0, rfl, fun _ _ => rfl⟩, List.forall_mem_nil _⟩) (x, v) hx
  · exact (show ∀ z ∈ nm.nb, mg (sN z) = none from List.forall_mem_cons.mpr ⟨PySem.W.mg_none_of X G z_max, List.forall_mem_cons.mpr ⟨PySem.W.mg_none_of X G z_tuple, List.forall_mem_cons.mpr ⟨PySem.W.mg_none_of X G z_isinstance, List.forall_mem_cons.mpr ⟨PySem.W.mg_none_of X G z_len, List.forall_mem_cons.mpr ⟨PySem.W.mg_none_of X G z_range, List.forall_mem_cons.mpr ⟨PySem.W.mg_none_of X G z_sum, List.forall_mem_cons.mpr ⟨PySem.W.mg_none_of X G z_min, List.forall_mem_cons.mpr ⟨PySem.W.mg_none_of X G z_list, List.forall_mem_nil _⟩⟩⟩⟩⟩⟩⟩⟩)
  · refine (show ∀ s ∈ nm.shapes, ∀ d, tab.fns[s.f]? = some d → ShOk _ _ s d from List.forall_mem_cons.mpr ⟨fun d hd => by cases hd; exact sh0  _ _ rfl rfl, List.forall_mem_cons.mpr ⟨fun d hd => by cases hd; exact sh1  _ _ rfl rfl, List.forall_mem_cons.mpr ⟨fun d hd => by cases hd; exact sh2  _ _ rfl rfl, List.forall_mem_cons.mpr ⟨fun d hd => by cases hd; exact sh3  _ _ rfl rfl, List.forall_mem_cons.mpr ⟨fun d hd => by cases hd; exact sh4  _ _ rfl rfl, List.forall_mem_cons.mpr ⟨fun d hd => by cases hd; exact sh5 d7_wait _ _ rfl rfl, List.forall_mem_cons.mpr ⟨fun d hd => by cases hd; exact sh6  _ _ rfl rfl, List.forall_mem_cons.mpr ⟨fun d hd => by cases hd; exact sh7  _ _ rfl rfl, List.forall_mem_cons.mpr ⟨fun d hd => by cases hd; exact sh8  _ _ rfl rfl, List.forall_mem_cons.mpr ⟨fun d hd => by cases hd; exact sh9  _ _ rfl rfl, List.forall_mem_cons.mpr ⟨fun d hd => by cases hd; exact sh10  _ _ rfl rfl, List.forall_mem_cons.mpr ⟨fun d hd => by cases hd; exact sh11  _ _ rfl rfl, List.forall_mem_cons.mpr ⟨fun d hd => by cases hd; exact sh12  _ _ rfl rfl, List.forall_mem_cons.mpr ⟨fun d hd => by cases hd; exact sh13  _ _ rfl rfl, List.forall_mem_cons.mpr ⟨fun d hd => by cases hd; exact sh14  _ _ rfl rfl, List.forall_mem_cons.mpr ⟨fun d hd => by cases hd; exact sh15  _ _ rfl rfl, List.forall_mem_cons.mpr ⟨fun d hd => by cases hd; exact sh16  _ _ rfl rfl, List.forall_mem_nil _⟩⟩⟩⟩⟩⟩⟩⟩⟩⟩⟩⟩⟩⟩⟩⟩⟩)
  · intro c cd hc
    match c, hc with
    | 0, hc => cases hc; exact ⟨⟨pg0, hd0, po0, sa0⟩, fun m f hm => lookup_all (P := fun m f => Meth K C0 (sN m) ([f0, f1, f2, f3, f4, f5, f6, f7, f8, f9, f10, f11, f12, f13, f14, f15, f16].getD f 0)) (show ∀ p ∈ ([("__eq__", 3), ("__len__", 4), ("speed_at", 5), ("sum_of", 6), ("fetched", 7)] : List (String × Nat)), Meth K C0 (sN p.1) ([f0, f1, f2, f3, f4, f5, f6, f7, f8, f9, f10, f11, f12, f13, f14, f15, f16].getD p.2 0) from List.forall_mem_cons.mpr ⟨⟨me0_3, fn3, k3⟩, List.forall_mem_cons.mpr ⟨⟨me0_4, fn4, k4⟩, List.forall_mem_cons.mpr ⟨⟨me0_5, fn5, k5⟩, List.forall_mem_cons.mpr ⟨⟨me0_6, fn6, k6⟩, List.forall_mem_cons.mpr ⟨⟨me0_7, fn7, k7⟩, List.forall_mem_nil _⟩⟩⟩⟩⟩) m f hm, (show ∀ g ∈ nm.fl, NoAttr K C0 (sN g) from List.forall_mem_cons.mpr ⟨na0_pieces, List.forall_mem_nil _⟩)⟩
    | g + 1, hc => exact absurd hc (by simp [tab])
  · refine isf_mk (fun c cd hc => ?_) (.inr ⟨hn, htk⟩) (fun c cd hc => ?_) (fun c d cd cd1 hc hd hne => ?_) (fun c cd hc he => ?_)
    · match c, hc with
      | 0, _ => exact cf_mk pg0 hd0 po0 sa0 ca0 mo0 ic0 ty0 ci0_int ci0_bool ci0_str ci0_tuple ci0_list ci0_dict ib0_non ib0_int ib0_bool ib0_str ib0_tuple ib0_list ib0_dict
      | g + 1, hc => exact absurd hc (by simp [tab])
    · match c, hc with
      | 0, hc => cases hc; rfl
      | g + 1, hc => exact absurd hc (by simp [tab])
    · match c, d, hc, hd with
      | 0, 0, _, _ => exact absurd rfl hne
      | 0, g + 1, _, hd => exact absurd hd (by simp [tab])
      | g + 1, _, hc, _ => exact absurd hc (by simp [tab])
    · match c, hc with
      | 0, _ => exact en0
      | g + 1, hc => exact absurd hc (by simp [tab])
  · intro f d hd
    match f, hd with
    | 0, hd => cases hd; exact ⟨_, _, _, _, _, _, _, _, _, _, _, _, _, _, _, rfl, l0, c0, sc0, by decide, lk0⟩
    | 1, hd => cases hd; exact ⟨_, _, _, _, _, _, _, _, _, _, _, _, _, _, _, rfl, l1, c1, sc1, by decide, lk1⟩
    | 2, hd => cases hd; exact ⟨_, _, _, _, _, _, _, _, _, _, _, _, _, _, _, rfl, l2, c2, sc2, by decide, lk2⟩
    | 3, hd => cases hd; exact ⟨_, _, _, _, _, _, _, _, _, _, _, _, _, _, _, rfl, l3, c3, sc3, by decide, lk3⟩
    | 4, hd => cases hd; exact ⟨_, _, _, _, _, _, _, _, _, _, _, _, _, _, _, rfl, l4, c4, sc4, by decide, lk4⟩
    | 5, hd => cases hd; exact ⟨_, _, _, _, _, _, _, _, _, _, _, _, _, _, _, rfl, l5, c5, sc5, by decide, lk5⟩
    | 6, hd => cases hd; exact ⟨_, _, _, _, _, _, _, _, _, _, _, _, _, _, _, rfl, l6, c6, sc6, by decide, lk6⟩
    | 7, hd => cases hd; exact ⟨_, _, _, _, _, _, _, _, _, _, _, _, _, _, _, rfl, l7, c7, sc7, by decide, lk7⟩
    | 8, hd => cases hd; exact ⟨_, _, _, _, _, _, _, _, _, _, _, _, _, _, _, rfl, l8, c8, sc8, by decide, lk8⟩
    | 9, hd => cases hd; exact ⟨_, _, _, _, _, _, _, _, _, _, _, _, _, _, _, rfl, l9, c9, sc9, by decide, lk9⟩
    | 10, hd => cases hd; exact ⟨_, _, _, _, _, _, _, _, _, _, _, _, _, _, _, rfl, l10, c10, sc10, by decide, lk10⟩
    | 11, hd => cases hd; exact ⟨_, _, _, _, _, _, _, _, _, _, _, _, _, _, _, rfl, l11, c11, sc11, by decide, lk11⟩
    | 12, hd => cases hd; exact ⟨_, _, _, _, _, _, _, _, _, _, _, _, _, _, _, rfl, l12, c12, sc12, by decide, lk12⟩
    | 13, hd => cases hd; exact ⟨_, _, _, _, _, _, _, _, _, _, _, _, _, _, _, rfl, l13, c13, sc13, by decide, lk13⟩
    | 14, hd => cases hd; exact ⟨_, _, _, _, _, _, _, _, _, _, _, _, _, _, _, rfl, l14, c14, sc14, by decide, lk14⟩
    | 15, hd => cases hd; exact ⟨_, _, _, _, _, _, _, _, _, _, _, _, _, _, _, rfl, l15, c15, sc15, by decide, lk15⟩
    | 16, hd => cases hd; exact ⟨_, _, _, _, _, _, _, _, _, _, _, _, _, _, _, rfl, l16, c16, sc16, by decide, lk16⟩
    | g + 17, hd => exact absurd hd (by simp [tab])
end
end Lw
end Rp
namespace Rp
namespace Lw
open PySem PySem.Spec PyProof.Rows
open L2
theorem room_law : Room (2 * 9) callerA := ⟨rfl, by decide, by decide⟩
section
variable {K : PySem.W.Frag} {h : Heap} {mg : Str → Option Value} {f0 f1 f2 f3 f4 f5 f6 f7 f8 f9 f10 f11 f12 f13 f14 f15 f16 C0 : Addr}
  {od0 an0 : Option Addr} {sl0 : Array (Option Value)} {oc0 dc0 pm0 cd0 ct0 : Value} {kV0 : Value}
  {od1 an1 : Option Addr} {sl1 : Array (Option Value)} {oc1 dc1 pm1 cd1 ct1 : Value} {kV1 : Value}
  {od2 an2 : Option Addr} {sl2 : Array (Option Value)} {oc2 dc2 pm2 cd2 ct2 : Value} {kV2 : Value}
  {od3 an3 : Option Addr} {sl3 : Array (Option Value)} {oc3 dc3 pm3 cd3 ct3 : Value} {kV3 : Value}
  {od4 an4 : Option Addr} {sl4 : Array (Option Value)} {oc4 dc4 pm4 cd4 ct4 : Value} {kV4 : Value}
  {od5 an5 : Option Addr} {sl5 : Array (Option Value)} {oc5 dc5 pm5 cd5 ct5 : Value} {kV5 : Value}
  {od6 an6 : Option Addr} {sl6 : Array (Option Value)} {oc6 dc6 pm6 cd6 ct6 : Value} {kV6 : Value}
  {od7 an7 : Option Addr} {sl7 : Array (Option Value)} {oc7 dc7 pm7 cd7 ct7 : Value} {kD7 : Addr}
  {t7_wait : Tok}
  {od8 an8 : Option Addr} {sl8 : Array (Option Value)} {oc8 dc8 pm8 cd8 ct8 : Value} {kV8 : Value}
  {od9 an9 : Option Addr} {sl9 : Array (Option Value)} {oc9 dc9 pm9 cd9 ct9 : Value} {kV9 : Value}
  {od10 an10 : Option Addr} {sl10 : Array (Option Value)} {oc10 dc10 pm10 cd10 ct10 : Value} {kV10 : Value}
  {od11 an11 : Option Addr} {sl11 : Array (Option Value)} {oc11 dc11 pm11 cd11 ct11 : Value} {kV11 : Value}
  {od12 an12 : Option Addr} {sl12 : Array (Option Value)} {oc12 dc12 pm12 cd12 ct12 : Value} {kV12 : Value}
  {od13 an13 : Option Addr} {sl13 : Array (Option Value)} {oc13 dc13 pm13 cd13 ct13 : Value} {kV13 : Value}
  {od14 an14 : Option Addr} {sl14 : Array (Option Value)} {oc14 dc14 pm14 cd14 ct14 : Value} {kV14 : Value}
  {od15 an15 : Option Addr} {sl15 : Array (Option Value)} {oc15 dc15 pm15 cd15 ct15 : Value} {kV15 : Value}
  {od16 an16 : Option Addr} {sl16 : Array (Option Value)} {oc16 dc16 pm16 cd16 ct16 : Value} {kV16 : Value}
theorem all_mk {l : PySem.W.OpenLaw} {w : World} {fa : Addr} (X : K.In h) (G : h.Ns mainGlobals mg) (hfa : mg "law" = some (.ref fa))
    (a0 : PySem.W.nsIn K mainGlobals "turns_of" = some (some (.ref f0)))
    (a1 : PySem.W.nsIn K mainGlobals "pieces_by" = some (some (.ref f1)))
    (a8 : PySem.W.nsIn K mainGlobals "known" = some (some (.ref f8)))
    (a9 : PySem.W.nsIn K mainGlobals "_law_deck" = some (some (.ref f9)))
    (a10 : PySem.W.nsIn K mainGlobals "_law_draw" = some (some (.ref f10)))
    (a11 : PySem.W.nsIn K mainGlobals "_law_great" = some (some (.ref f11)))
    (a12 : PySem.W.nsIn K mainGlobals "_law_trip" = some (some (.ref f12)))
    (a13 : PySem.W.nsIn K mainGlobals "_law_trip_right" = some (some (.ref f13)))
    (a14 : PySem.W.nsIn K mainGlobals "_law_together_right" = some (some (.ref f14)))
    (a15 : PySem.W.nsIn K mainGlobals "_law_turned_right" = some (some (.ref f15)))
    (a16 : PySem.W.nsIn K mainGlobals "law" = some (some (.ref f16)))
    (hn : PySem.W.specialIn K (.builtin "object.__class__") "__get__" = some (some (.builtin "getset_descriptor.__get__")))
    (htk : PySem.W.takesIn K (.builtin "object.__class__") = some true)
    (gC0 : PySem.W.nsIn K mainGlobals "Road" = some (some (.ref C0)))
    (kC0 : PySem.W.keepIn K (.ref C0) = true)
    (mk0 : PySem.W.makesIn K C0 = true)
    (me0_2 : PySem.W.findIn K (.ref C0) "__init__" = some (some (.ref f2)))
    (fn2 : PySem.W.isFn K (.ref f2) = true)
    (me0_3 : PySem.W.findIn K (.ref C0) "__eq__" = some (some (.ref f3)))
    (fn3 : PySem.W.isFn K (.ref f3) = true)
    (me0_4 : PySem.W.findIn K (.ref C0) "__len__" = some (some (.ref f4)))
    (fn4 : PySem.W.isFn K (.ref f4) = true)
    (me0_5 : PySem.W.findIn K (.ref C0) "speed_at" = some (some (.ref f5)))
    (fn5 : PySem.W.isFn K (.ref f5) = true)
    (me0_6 : PySem.W.findIn K (.ref C0) "sum_of" = some (some (.ref f6)))
    (fn6 : PySem.W.isFn K (.ref f6) = true)
    (me0_7 : PySem.W.findIn K (.ref C0) "fetched" = some (some (.ref f7)))
    (fn7 : PySem.W.isFn K (.ref f7) = true)
    (pg0 : PySem.W.plainGet K C0 Str.empty = true)
    (hd0 : PySem.W.hasDictIn K C0 = true)
    (po0 : PySem.W.plainOver K C0 = true)
    (sa0 : PySem.W.findIn K (.ref C0) "__setattr__" = some (some (.builtin "object.__setattr__")))
    (ca0 : PySem.W.findIn K (.ref C0) "__class__" = some (some (.builtin "object.__class__")))
    (mo0 : PySem.W.mroIn K C0 (.type "object") = some true)
    (na0_pieces : PySem.W.findIn K (.ref C0) "pieces" = some none)
    (ic0 : PySem.W.isClsIn K C0 = true)
    (ty0 : PySem.W.typeIn K (.ref C0) = some (.type "type"))
    (ib0_non : PySem.W.subIn K (.type "NoneType") (.ref C0) = some false)
    (ci0_int : PySem.W.subIn K (.ref C0) (.type "int") = some false)
    (ib0_int : PySem.W.subIn K (.type "int") (.ref C0) = some false)
    (ci0_bool : PySem.W.subIn K (.ref C0) (.type "bool") = some false)
    (ib0_bool : PySem.W.subIn K (.type "bool") (.ref C0) = some false)
    (ci0_str : PySem.W.subIn K (.ref C0) (.type "str") = some false)
    (ib0_str : PySem.W.subIn K (.type "str") (.ref C0) = some false)
    (ci0_tuple : PySem.W.subIn K (.ref C0) (.type "tuple") = some false)
    (ib0_tuple : PySem.W.subIn K (.type "tuple") (.ref C0) = some false)
    (ci0_list : PySem.W.subIn K (.ref C0) (.type "list") = some false)
    (ib0_list : PySem.W.subIn K (.type "list") (.ref C0) = some false)
    (ci0_dict : PySem.W.subIn K (.ref C0) (.type "dict") = some false)
    (ib0_dict : PySem.W.subIn K (.type "dict") (.ref C0) = some false)
    (en0 : PySem.W.findIn K (.ref C0) "__ne__" = some (some (.builtin "object.__ne__")))
    (l0 : K.lookup f0 = some ⟨oc0, od0, .func (PySem.W.fnOf "turns_of" "turns_of" (defArgs (top 1)) (defBody (top 1)) (defScope (top 1)) .none kV0 dc0 pm0 an0 cd0 ct0), sl0⟩) (c0 : PySem.W.codeIn K cd0 "turns_of" = true) (k0 : PySem.W.keepIn K (.ref f0) = true)
    (l1 : K.lookup f1 = some ⟨oc1, od1, .func (PySem.W.fnOf "pieces_by" "pieces_by" (defArgs (top 2)) (defBody (top 2)) (defScope (top 2)) .none kV1 dc1 pm1 an1 cd1 ct1), sl1⟩) (c1 : PySem.W.codeIn K cd1 "pieces_by" = true) (k1 : PySem.W.keepIn K (.ref f1) = true)
    (l2 : K.lookup f2 = some ⟨oc2, od2, .func (PySem.W.fnOf "__init__" "Road.__init__" (defArgs (inClass (top 3) 0)) (defBody (inClass (top 3) 0)) (defScope (inClass (top 3) 0)) .none kV2 dc2 pm2 an2 cd2 ct2), sl2⟩) (c2 : PySem.W.codeIn K cd2 "Road.__init__" = true) (k2 : PySem.W.keepIn K (.ref f2) = true)
    (l3 : K.lookup f3 = some ⟨oc3, od3, .func (PySem.W.fnOf "__eq__" "Road.__eq__" (defArgs (inClass (top 3) 1)) (defBody (inClass (top 3) 1)) (defScope (inClass (top 3) 1)) .none kV3 dc3 pm3 an3 cd3 ct3), sl3⟩) (c3 : PySem.W.codeIn K cd3 "Road.__eq__" = true) (k3 : PySem.W.keepIn K (.ref f3) = true)
    (l4 : K.lookup f4 = some ⟨oc4, od4, .func (PySem.W.fnOf "__len__" "Road.__len__" (defArgs (inClass (top 3) 4)) (defBody (inClass (top 3) 4)) (defScope (inClass (top 3) 4)) .none kV4 dc4 pm4 an4 cd4 ct4), sl4⟩) (c4 : PySem.W.codeIn K cd4 "Road.__len__" = true) (k4 : PySem.W.keepIn K (.ref f4) = true)
    (l5 : K.lookup f5 = some ⟨oc5, od5, .func (PySem.W.fnOf "speed_at" "Road.speed_at" (defArgs (inClass (top 3) 5)) (defBody (inClass (top 3) 5)) (defScope (inClass (top 3) 5)) .none kV5 dc5 pm5 an5 cd5 ct5), sl5⟩) (c5 : PySem.W.codeIn K cd5 "Road.speed_at" = true) (k5 : PySem.W.keepIn K (.ref f5) = true)
    (l6 : K.lookup f6 = some ⟨oc6, od6, .func (PySem.W.fnOf "sum_of" "Road.sum_of" (defArgs (inClass (top 3) 6)) (defBody (inClass (top 3) 6)) (defScope (inClass (top 3) 6)) .none kV6 dc6 pm6 an6 cd6 ct6), sl6⟩) (c6 : PySem.W.codeIn K cd6 "Road.sum_of" = true) (k6 : PySem.W.keepIn K (.ref f6) = true)
    (l7 : K.lookup f7 = some ⟨oc7, od7, .func (PySem.W.fnOf "fetched" "Road.fetched" (defArgs (inClass (top 3) 7)) (defBody (inClass (top 3) 7)) (defScope (inClass (top 3) 7)) .none (.ref kD7) dc7 pm7 an7 cd7 ct7), sl7⟩) (c7 : PySem.W.codeIn K cd7 "Road.fetched" = true) (k7 : PySem.W.keepIn K (.ref f7) = true)
    (d7_wait : PySem.W.nsIn K kD7 "wait" = some (some (.int 0 t7_wait)))
    (l8 : K.lookup f8 = some ⟨oc8, od8, .func (PySem.W.fnOf "known" "known" (defArgs (top 4)) (defBody (top 4)) (defScope (top 4)) .none kV8 dc8 pm8 an8 cd8 ct8), sl8⟩) (c8 : PySem.W.codeIn K cd8 "known" = true) (k8 : PySem.W.keepIn K (.ref f8) = true)
    (l9 : K.lookup f9 = some ⟨oc9, od9, .func (PySem.W.fnOf "_law_deck" "_law_deck" (defArgs (top 6)) (defBody (top 6)) (defScope (top 6)) .none kV9 dc9 pm9 an9 cd9 ct9), sl9⟩) (c9 : PySem.W.codeIn K cd9 "_law_deck" = true) (k9 : PySem.W.keepIn K (.ref f9) = true)
    (l10 : K.lookup f10 = some ⟨oc10, od10, .func (PySem.W.fnOf "_law_draw" "_law_draw" (defArgs (top 7)) (defBody (top 7)) (defScope (top 7)) .none kV10 dc10 pm10 an10 cd10 ct10), sl10⟩) (c10 : PySem.W.codeIn K cd10 "_law_draw" = true) (k10 : PySem.W.keepIn K (.ref f10) = true)
    (l11 : K.lookup f11 = some ⟨oc11, od11, .func (PySem.W.fnOf "_law_great" "_law_great" (defArgs (top 8)) (defBody (top 8)) (defScope (top 8)) .none kV11 dc11 pm11 an11 cd11 ct11), sl11⟩) (c11 : PySem.W.codeIn K cd11 "_law_great" = true) (k11 : PySem.W.keepIn K (.ref f11) = true)
    (l12 : K.lookup f12 = some ⟨oc12, od12, .func (PySem.W.fnOf "_law_trip" "_law_trip" (defArgs (top 9)) (defBody (top 9)) (defScope (top 9)) .none kV12 dc12 pm12 an12 cd12 ct12), sl12⟩) (c12 : PySem.W.codeIn K cd12 "_law_trip" = true) (k12 : PySem.W.keepIn K (.ref f12) = true)
    (l13 : K.lookup f13 = some ⟨oc13, od13, .func (PySem.W.fnOf "_law_trip_right" "_law_trip_right" (defArgs (top 10)) (defBody (top 10)) (defScope (top 10)) .none kV13 dc13 pm13 an13 cd13 ct13), sl13⟩) (c13 : PySem.W.codeIn K cd13 "_law_trip_right" = true) (k13 : PySem.W.keepIn K (.ref f13) = true)
    (l14 : K.lookup f14 = some ⟨oc14, od14, .func (PySem.W.fnOf "_law_together_right" "_law_together_right" (defArgs (top 11)) (defBody (top 11)) (defScope (top 11)) .none kV14 dc14 pm14 an14 cd14 ct14), sl14⟩) (c14 : PySem.W.codeIn K cd14 "_law_together_right" = true) (k14 : PySem.W.keepIn K (.ref f14) = true)
    (l15 : K.lookup f15 = some ⟨oc15, od15, .func (PySem.W.fnOf "_law_turned_right" "_law_turned_right" (defArgs (top 12)) (defBody (top 12)) (defScope (top 12)) .none kV15 dc15 pm15 an15 cd15 ct15), sl15⟩) (c15 : PySem.W.codeIn K cd15 "_law_turned_right" = true) (k15 : PySem.W.keepIn K (.ref f15) = true)
    (l16 : K.lookup f16 = some ⟨oc16, od16, .func (PySem.W.fnOf "law" "law" (defArgs (top 13)) (defBody (top 13)) (defScope (top 13)) .none kV16 dc16 pm16 an16 cd16 ct16), sl16⟩) (c16 : PySem.W.codeIn K cd16 "law" = true) (k16 : PySem.W.keepIn K (.ref f16) = true)
    (z_max : PySem.W.nsIn K mainGlobals "max" = some none)
    (z_tuple : PySem.W.nsIn K mainGlobals "tuple" = some none)
    (z_isinstance : PySem.W.nsIn K mainGlobals "isinstance" = some none)
    (z_len : PySem.W.nsIn K mainGlobals "len" = some none)
    (z_range : PySem.W.nsIn K mainGlobals "range" = some none)
    (z_sum : PySem.W.nsIn K mainGlobals "sum" = some none)
    (z_min : PySem.W.nsIn K mainGlobals "min" = some none)
    (z_list : PySem.W.nsIn K mainGlobals "list" = some none)
    : ∃ (k : Nat) (fd : FuncData) (sp : Sp), Room k callerA ∧ (∀ (s : Shared) (u : Value), BindsTo s fd ⟨[u], []⟩ [("_law_script", u)]) ∧ (∀ base : Heap, K.In base → base.Ns mainGlobals mg → GFn l.prog w K mg base k fa fd ["_law_script"] sp) ∧
      ∀ (H : Hp) (a : Addr) (ns : List Int), ns.length ≤ 63 → Only H → SqL K H a (ns.map V.int) → sp [.ref a] H (fun v _ => v = .bl true) fun _ _ _ => False := by
  have e := hfa.symm.trans (PySem.W.mg_of X G a16)
  cases e
  obtain ⟨D, F, eK, ef, eF, t⟩ := top_mk X G a0 a1 a8 a9 a10 a11 a12 a13 a14 a15 a16 hn htk gC0 kC0 mk0 me0_2 fn2 me0_3 fn3 me0_4 fn4 me0_5 fn5 me0_6 fn6 me0_7 fn7 pg0 hd0 po0 sa0 ca0 mo0 na0_pieces ic0 ty0 ib0_non ci0_int ib0_int ci0_bool ib0_bool ci0_str ib0_str ci0_tuple ib0_tuple ci0_list ib0_list ci0_dict ib0_dict en0 l0 c0 k0 l1 c1 k1 l2 c2 k2 l3 c3 k3 l4 c4 k4 l5 c5 k5 l6 c6 k6 l7 c7 k7 d7_wait l8 c8 k8 l9 c9 k9 l10 c10 k10 l11 c11 k11 l12 c12 k12 l13 c13 k13 l14 c14 k14 l15 c15 k15 l16 c16 k16 z_max z_tuple z_isinstance z_len z_range z_sum z_min z_list
  subst eK
  refine ⟨2 * 9, F.fd 16, spC D (wpCall tab 9) 16, room_law, fun s u => ?_, fun base _ _ => ?_, fun H a ns hn only sq => law_sp only sq (plain ns hn)⟩
  · rw [eF]
    exact .of_eq rfl
  · rw [← ef]
    exact defs_ok t 9 16 _ rfl
end
end Lw
end Rp
open PySem PySem.W PyProof.Rows in
set_option maxRecDepth 100000 in
set_option maxHeartbeats 0 in
theorem PySem.Challenge.cw_rateplan_k14_whole_great_roads_holds : PySem.Challenge.rw_rateplan_k14_whole_great_roads.Holds := by
  w_on; o_law; k_head; (case hw => w_witness2)
  k_fill
  refine Rp.law_walk (l := PySem.Challenge.rw_rateplan_k14_whole_great_roads) (n := 63) (x := "_law_script") rfl (by decide +kernel) rfl (fun w h Y => PySem.W.kIn_of Y) ?F
  case F =>
    intro w mg fa h KX G hmg
    refine' Rp.Lw.all_mk KX G hmg ?a0 ?a1 ?a8 ?a9 ?a10 ?a11 ?a12 ?a13 ?a14 ?a15 ?a16 ?hn ?htk ?gC0 ?kC0 ?mk0 ?me0_2 ?fn2 ?me0_3 ?fn3 ?me0_4 ?fn4 ?me0_5 ?fn5 ?me0_6 ?fn6 ?me0_7 ?fn7 ?pg0 ?hd0 ?po0 ?sa0 ?ca0 ?mo0 ?na0_pieces ?ic0 ?ty0 ?ib0_non ?ci0_int ?ib0_int ?ci0_bool ?ib0_bool ?ci0_str ?ib0_str ?ci0_tuple ?ib0_tuple ?ci0_list ?ib0_list ?ci0_dict ?ib0_dict ?en0 ?l0 ?c0 ?k0 ?l1 ?c1 ?k1 ?l2 ?c2 ?k2 ?l3 ?c3 ?k3 ?l4 ?c4 ?k4 ?l5 ?c5 ?k5 ?l6 ?c6 ?k6 ?l7 ?c7 ?k7 ?d7_wait ?l8 ?c8 ?k8 ?l9 ?c9 ?k9 ?l10 ?c10 ?k10 ?l11 ?c11 ?k11 ?l12 ?c12 ?k12 ?l13 ?c13 ?k13 ?l14 ?c14 ?k14 ?l15 ?c15 ?k15 ?l16 ?c16 ?k16 ?z_max ?z_tuple ?z_isinstance ?z_len ?z_range ?z_sum ?z_min ?z_list
    (case a0 => k_is)
    (case a1 => k_is)
    (case a8 => k_is)
    (case a9 => k_is)
    (case a10 => k_is)
    (case a11 => k_is)
    (case a12 => k_is)
    (case a13 => k_is)
    (case a14 => k_is)
    (case a15 => k_is)
    (case a16 => k_is)
    (case hn => k_is)
    (case htk => k_is)
    (case gC0 => k_is)
    (case kC0 => k_is)
    (case mk0 => k_is)
    (case me0_2 => k_is)
    (case fn2 => k_is)
    (case me0_3 => k_is)
    (case fn3 => k_is)
    (case me0_4 => k_is)
    (case fn4 => k_is)
    (case me0_5 => k_is)
    (case fn5 => k_is)
    (case me0_6 => k_is)
    (case fn6 => k_is)
    (case me0_7 => k_is)
    (case fn7 => k_is)
    (case pg0 => k_is)
    (case hd0 => k_is)
    (case po0 => k_is)
    (case sa0 => k_is)
    (case ca0 => k_is)
    (case mo0 => k_is)
    (case na0_pieces => k_is)
    (case ic0 => k_is)
    (case ty0 => k_is)
    (case ib0_non => k_is)
    (case ci0_int => k_is)
    (case ib0_int => k_is)
    (case ci0_bool => k_is)
    (case ib0_bool => k_is)
    (case ci0_str => k_is)
    (case ib0_str => k_is)
    (case ci0_tuple => k_is)
    (case ib0_tuple => k_is)
    (case ci0_list => k_is)
    (case ib0_list => k_is)
    (case ci0_dict => k_is)
    (case ib0_dict => k_is)
    (case en0 => k_is)
    (case l0 => k_is)
    (case c0 => k_is)
    (case k0 => k_is)
    (case l1 => k_is)
    (case c1 => k_is)
    (case k1 => k_is)
    (case l2 => k_is)
    (case c2 => k_is)
    (case k2 => k_is)
    (case l3 => k_is)
    (case c3 => k_is)
    (case k3 => k_is)
    (case l4 => k_is)
    (case c4 => k_is)
    (case k4 => k_is)
    (case l5 => k_is)
    (case c5 => k_is)
    (case k5 => k_is)
    (case l6 => k_is)
    (case c6 => k_is)
    (case k6 => k_is)
    (case l7 => k_is)
    (case c7 => k_is)
    (case k7 => k_is)
    (case d7_wait => k_is)
    (case l8 => k_is)
    (case c8 => k_is)
    (case k8 => k_is)
    (case l9 => k_is)
    (case c9 => k_is)
    (case k9 => k_is)
    (case l10 => k_is)
    (case c10 => k_is)
    (case k10 => k_is)
    (case l11 => k_is)
    (case c11 => k_is)
    (case k11 => k_is)
    (case l12 => k_is)
    (case c12 => k_is)
    (case k12 => k_is)
    (case l13 => k_is)
    (case c13 => k_is)
    (case k13 => k_is)
    (case l14 => k_is)
    (case c14 => k_is)
    (case k14 => k_is)
    (case l15 => k_is)
    (case c15 => k_is)
    (case k15 => k_is)
    (case l16 => k_is)
    (case c16 => k_is)
    (case k16 => k_is)
    (case z_max => k_is)
    (case z_tuple => k_is)
    (case z_isinstance => k_is)
    (case z_len => k_is)
    (case z_range => k_is)
    (case z_sum => k_is)
    (case z_min => k_is)
    (case z_list => k_is)
