import PyProof.Rows.All
import Wide.All
import OpenK.AllK
import Wide.FinOn
import HandS.Zip
import PyProof.EqAt
import PyProof.EqKinds
import PyProof.TupleCall
import KE.KLam
import KE.DataIsa
import KE.DataEq
import KE.DataCmp
import KE.DataAny
import KE.DataFind
import KE.DataMinMax
import KE.SortData
import HandS.ForMost
import HandS.Exc
import HandS.ExcOwn
import HandS.TryOnly
import HandS.Lambda
import HandS.Evl
import HandS.TupAny
import HandS.Style
import HandS.Wide
import HandS.Flow
import HandS.TupMul
import HandS.ExcCtx
import HandS.WordsExc
import HandS.Defaults
import HandS.CallLocal
import KE.SortKeyed
import HandS.HotCalls
import HandS.ExcIs
import HandS.HeadHook4
import HandS.HeadWalk
import KE.KStateDown
import HandS.Ends
import HandS.More
import HandS.Words
import HandS.Head0
import HandS.Head1
import HandS.Head2
import HandS.HeadEnd
import KE.KRevSl
import HandS.SetFor
import HandS.SortInts
import HandS.Strs
import HandS.Conv
import HandS.Nested
import PySem.Challenge.RW_wholerebates_k31_whole_prices_that_are_h
set_option Elab.async false
set_option linter.all false
set_option maxRecDepth 100000
set_option maxHeartbeats 4000000
set_option exponentiation.threshold 500
/-! zip of a tuple and a list, in any order: the library's proof for two tuples (HandS.Zip0), said for both kinds. -/
namespace ZK
open PySem PySem.Spec PyProof.Rows L2
open PySem.Sem (wp)
/-- true: a tuple; false: a list -/
def SQk (b : Bool) (h : Heap) (l : Addr) (xs : Array Value) : Prop := match b with
  | true => h.IsTuple l xs
  | false => h.IsList l xs
def ITk (b : Bool) (h : Heap) (it l : Addr) (i : Nat) : Prop := match b with
  | true => h.IsTupleIter it l i
  | false => h.IsListIter it l i
def itCls (b : Bool) : String := match b with
  | true => "tuple_iterator"
  | false => "list_iterator"
theorem SQk.extBut {b : Bool} {h h' : Heap} {a l : Addr} {xs : Array Value} (x : SQk b h l xs) (e : Heap.ExtBut a h h') (n : l ≠ a) : SQk b h' l xs := by
  cases b
  · exact Heap.IsList.extBut x e n
  · exact Heap.IsTuple.extBut x e n
theorem SQk.push {b : Bool} {h : Heap} {l : Addr} {xs : Array Value} (x : SQk b h l xs) (o : Obj) : SQk b (h.push o) l xs := by
  cases b
  · exact Heap.IsList.push x o
  · exact Heap.IsTuple.push x o
theorem ITk.extBut {b : Bool} {h h' : Heap} {a it l : Addr} {i : Nat} (x : ITk b h it l i) (e : Heap.ExtBut a h h') (n : it ≠ a) : ITk b h' it l i := by
  cases b
  · exact Heap.IsListIter.extBut x e n
  · exact Heap.IsTupleIter.extBut x e n
theorem ITk.at {b : Bool} {h h' : Heap} {it l : Addr} {i : Nat} (x : ITk b h it l i) (e : ∀ o, h.get? it = some o → h'.get? it = some o) : ITk b h' it l i := by
  cases b
  · exact Heap.IsListIter.at x e
  · exact Heap.IsTupleIter.at x e
theorem ITk.lt {b : Bool} {h : Heap} {it l : Addr} {i : Nat} (x : ITk b h it l i) : it < h.objs.size := by
  cases b
  · obtain ⟨_, e, _⟩ := (show h.IsListIter it l i from x)
    exact Heap.lt_size e
  · obtain ⟨_, e, _⟩ := (show h.IsTupleIter it l i from x)
    exact Heap.lt_size e
theorem ITk.ob {b : Bool} {h : Heap} {it l : Addr} {i : Nat} (x : ITk b h it l i) : ∃ o, h.get? it = some o ∧ ∀ v, o.data ≠ .cell v := by
  cases b
  · obtain ⟨o, e, _, d⟩ := (show h.IsListIter it l i from x)
    exact ⟨o, e, fun v q => by rw [d] at q; cases q⟩
  · obtain ⟨o, e, _, d⟩ := (show h.IsTupleIter it l i from x)
    exact ⟨o, e, fun v q => by rw [d] at q; cases q⟩
section
variable {prog : Program} {w : World} {A : Around} {E : Value → Shared → Prop} {s : Shared}
theorem pyIter_k {b : Bool} {l : Addr} {xs : Array Value} {Q : Value → Shared → Prop} (hl : SQk b s.heap l xs) (h : Q (.ref s.heap.objs.size) { s with heap := s.heap.push { cls := .type (itCls b), data := .fields #[.ref l, .int 0 0] } }) : wpAny (model prog w) A (pyIter (.ref l)) Q E s := by
  cases b
  · exact wpAny_pyIter_list hl h
  · exact wpAny_pyIter_tuple hl h
theorem nextOf_k_item {b : Bool} {it l : Addr} {i : Nat} {items} {x : Value} {Q : Value → Shared → Prop} (hit : ITk b s.heap it l i)
    (hl : SQk b s.heap l items) (hx : items[i]? = some x)
    (hQ : ∀ h', ITk b h' it l (i + 1) → Heap.SameBut it s.heap h' → Q x { s with heap := h' }) :
    wpAny (model prog w) A (Builtin.SmallTypes.nextOf (.ref it)) Q E s := by
  cases b
  · exact wpAny_nextOf_list_item hit hl hx hQ
  · exact RZ.nextOf_tuple_item hit hl hx hQ
theorem nextOf_k_end {b : Bool} {it l : Addr} {i : Nat} {items} {Q : Value → Shared → Prop} (hh : A.handled = none)
    (hit : ITk b s.heap it l i) (hl : SQk b s.heap l items) (hx : items[i]? = none)
    (hE : ∀ h' e, Heap.ExtBut it s.heap h' → (∃ o, h'.get? e = some o ∧ o.cls = .type "StopIteration") → E (.ref e) { s with heap := h' }) :
    wpAny (model prog w) A (Builtin.SmallTypes.nextOf (.ref it)) Q E s := by
  cases b
  · exact wpAny_nextOf_list_end hh hit hl hx hE
  · exact RZ.nextOf_tuple_end hh hit hl hx hE
theorem zipK_next_item {b1 b2 : Bool} {z TI TO i1 i2 l1 l2 : Addr} {k1 k2 : Nat} {xs ys : Array Value} {x y a b : Value} {Q : Value → Shared → Prop} (D : ZipApart z TI TO i1 i2 l1 l2)
    (hz : IsZip s.heap z TI TO .none) (hTI : IsPair s.heap TI (.ref i1) (.ref i2)) (hTO : IsPair s.heap TO a b)
    (h1 : ITk b1 s.heap i1 l1 k1) (h2 : ITk b2 s.heap i2 l2 k2) (hl1 : SQk b1 s.heap l1 xs) (hl2 : SQk b2 s.heap l2 ys) (hx : xs[k1]? = some x) (hy : ys[k2]? = some y)
    (hQ : ∀ h', IsZip h' z TI TO (rawInt s.heap.objs.size) → IsPair h' TO x y → ITk b1 h' i1 l1 (k1 + 1) → ITk b2 h' i2 l2 (k2 + 1) → IsPair h' s.heap.objs.size x y → h'.objs.size = s.heap.objs.size + 1 →
      (∀ c o, c ≠ z → c ≠ TO → c ≠ i1 → c ≠ i2 → s.heap.get? c = some o → h'.get? c = some o) → Q (.ref s.heap.objs.size) { s with heap := h' }) :
    wpAny (model prog w) A (Builtin.«zip.__next__» ⟨[.ref z], []⟩) (fun fin s' => ∃ v, fin = .done (.ret v) ∧ Q v s') E s := by
  show wpAny _ _ (field (.ref z) 2 >>= _) _ _ _
  refine wpAny_bind (wpAny_field hz rfl (x := .bool false) rfl ?_)
  show wpAny _ _ (field (.ref z) 3 >>= _) _ _ _
  refine wpAny_bind (wpAny_field hz rfl (x := .ref TI) rfl ?_)
  refine wpAny_bind (wpAny_seqItems hTI rfl ?_)
  show wpAny _ _ (Builtin.SmallTypes.ownedTupleIsFree (.ref z) >>= _) _ _ _
  refine wpAny_bind ?_
  unfold Builtin.SmallTypes.ownedTupleIsFree
  refine wpAny_bind (wpAny_field hz rfl (x := .none) rfl (wpAny_pure ?_))
  simp only [if_true]
  refine wpAny_bind (wpAny_rule ?_)
  refine wpAny_bind (wpAny_field hz rfl (x := .ref TO) rfl ?_)
  refine wpAny_bind (wpAny_setField_rec hz (by simp) fun h₁ hz₁ hs₁ => ?_)
  replace hz₁ : IsZip h₁ z TI TO .ellipsis := hz₁
  refine wpAny_bind ?_
  simp only [List.zipIdx_cons, List.zipIdx_nil, List.forIn_cons, List.forIn_nil]

  refine wpAny_bind (wpAny_bind (wpAny_onRaise ?_))
  show wpAny _ _ (Builtin.SmallTypes.nextOf (.ref i1) >>= _) _ _ _
  refine wpAny_bind (nextOf_k_item (h1.extBut hs₁.extBut D.i1z) (hl1.extBut hs₁.extBut D.l1z) hx fun h₂ h1₂ hs₂ => wpAny_pure ?_)
  have hTO₂ : IsPair h₂ TO a b := hs₂.extBut _ _ D.TOi1 (hs₁.extBut _ _ D.TOz hTO)
  refine wpAny_bind (wpAny_seqItems hTO₂ rfl ?_)
  refine wpAny_bind (wpAny_updateSeq_pair hTO₂ fun h₃ hTO₃ hs₃ => ?_)
  replace hTO₃ : IsPair h₃ TO x b := hTO₃
  refine wpAny_bind (wpAny_letGo (wpAny_pure ?_))

  refine wpAny_bind (wpAny_bind (wpAny_onRaise ?_))
  show wpAny _ _ (Builtin.SmallTypes.nextOf (.ref i2) >>= _) _ _ _
  refine wpAny_bind (nextOf_k_item (((h2.extBut hs₁.extBut D.i2z).extBut hs₂.extBut D.i12.symm).extBut hs₃.extBut D.TOi2.symm)
    (((hl2.extBut hs₁.extBut D.l2z).extBut hs₂.extBut D.l2i1).extBut hs₃.extBut D.l2TO) hy fun h₄ h2₄ hs₄ => wpAny_pure ?_)
  have hTO₄ : IsPair h₄ TO x b := hs₄.extBut _ _ D.TOi2 hTO₃
  refine wpAny_bind (wpAny_seqItems hTO₄ rfl ?_)
  refine wpAny_bind (wpAny_updateSeq_pair hTO₄ fun h₅ hTO₅ hs₅ => ?_)
  replace hTO₅ : IsPair h₅ TO x y := hTO₅
  refine wpAny_bind (wpAny_letGo (wpAny_pure (wpAny_pure ?_)))

  refine wpAny_bind (wpAny_seqItems hTO₅ rfl ?_)
  refine wpAny_bind (wpAny_newTuple ?_)
  have hsz : h₅.objs.size = s.heap.objs.size := by rw [hs₅.1, hs₄.1, hs₃.1, hs₂.1, hs₁.1]
  have hz₅ : IsZip h₅ z TI TO .ellipsis := hs₅.extBut _ _ D.TOz.symm (hs₄.extBut _ _ D.i2z.symm (hs₃.extBut _ _ D.TOz.symm (hs₂.extBut _ _ D.i1z.symm hz₁)))
  have hk₅ : ∀ c o, c ≠ z → c ≠ TO → c ≠ i1 → c ≠ i2 → s.heap.get? c = some o → h₅.get? c = some o := fun c o c1 c2 c3 c4 e =>
    hs₅.extBut _ _ c2 (hs₄.extBut _ _ c4 (hs₃.extBut _ _ c2 (hs₂.extBut _ _ c3 (hs₁.extBut _ _ c1 e))))
  have h1₅ : ITk b1 h₅ i1 l1 (k1 + 1) := ((h1₂.extBut hs₃.extBut D.TOi1.symm).extBut hs₄.extBut D.i12).extBut hs₅.extBut D.TOi1.symm
  have h2₅ : ITk b2 h₅ i2 l2 (k2 + 1) := h2₄.extBut hs₅.extBut D.TOi2.symm
  have hzlt : z < h₅.objs.size := Heap.lt_size hz₅
  have hTOlt : TO < h₅.objs.size := Heap.lt_size hTO₅
  have hi1lt : i1 < h₅.objs.size := h1₅.lt
  have hi2lt : i2 < h₅.objs.size := h2₅.lt
  show wpAny _ _ (Builtin.SmallTypes.ownedTupleHandOut (.ref z) (.ref h₅.objs.size) >>= _) _ _ _
  refine wpAny_bind ?_
  unfold Builtin.SmallTypes.ownedTupleHandOut
  have hz₆ : IsZip (h₅.push { cls := .type "tuple", data := .seq #[x, y] }) z TI TO .ellipsis := Heap.get?_push_of_some _ hz₅
  refine wpAny_bind (wpAny_setField_rec hz₆ (by simp) fun h₇ hz₇ hs₇ => ?_)
  replace hz₇ : IsZip h₇ z TI TO (rawInt h₅.objs.size) := hz₇
  refine wpAny_setField_rec hz₇ (by simp) fun h₈ hz₈ hs₈ => ?_
  replace hz₈ : IsZip h₈ z TI TO (rawInt h₅.objs.size) := hz₈
  have up : ∀ c o, c ≠ z → h₅.get? c = some o → h₈.get? c = some o := fun c o c1 e => hs₈.extBut _ _ c1 (hs₇.extBut _ _ c1 (Heap.get?_push_of_some _ e))
  have hT₈ : IsPair h₈ h₅.objs.size x y := hs₈.extBut _ _ (Nat.ne_of_gt hzlt) (hs₇.extBut _ _ (Nat.ne_of_gt hzlt) (Heap.get?_push_size _ rfl))
  have hz8 : h₈.objs.size = h₅.objs.size + 1 := by rw [hs₈.1, hs₇.1, Heap.size_push]
  rw [hsz] at hz₈ hT₈ hz8
  refine wpAny_pure ⟨_, rfl, ?_⟩
  show Q (.ref h₅.objs.size) _
  rw [hsz]
  exact hQ h₈ hz₈ (up _ _ D.TOz hTO₅) (h1₅.at fun o e => up _ o D.i1z e) (h2₅.at fun o e => up _ o D.i2z e) hT₈ hz8 fun c o c1 c2 c3 c4 e => up c o c1 (hk₅ c o c1 c2 c3 c4 e)

theorem zipK_next_end {b1 b2 : Bool} {z TI TO i1 i2 l1 l2 : Addr} {k1 k2 : Nat} {xs ys : Array Value} {a b : Value} {Q : Fin → Shared → Prop} (hh : A.handled = none) (D : ZipApart z TI TO i1 i2 l1 l2)
    (hz : IsZip s.heap z TI TO .none) (hTI : IsPair s.heap TI (.ref i1) (.ref i2)) (hTO : IsPair s.heap TO a b)
    (h1 : ITk b1 s.heap i1 l1 k1) (h2 : ITk b2 s.heap i2 l2 k2) (hl1 : SQk b1 s.heap l1 xs) (hl2 : SQk b2 s.heap l2 ys) (hend : xs[k1]? = none ∨ ys[k2]? = none)
    (hE : ∀ h' e, (∀ c o, c ≠ z → c ≠ TO → c ≠ i1 → c ≠ i2 → s.heap.get? c = some o → h'.get? c = some o) → (∃ o, h'.get? e = some o ∧ o.cls = .type "StopIteration") → E (.ref e) { s with heap := h' }) :
    wpAny (model prog w) A (Builtin.«zip.__next__» ⟨[.ref z], []⟩) Q E s := by
  show wpAny _ _ (field (.ref z) 2 >>= _) _ _ _
  refine wpAny_bind (wpAny_field hz rfl (x := .bool false) rfl ?_)
  show wpAny _ _ (field (.ref z) 3 >>= _) _ _ _
  refine wpAny_bind (wpAny_field hz rfl (x := .ref TI) rfl ?_)
  refine wpAny_bind (wpAny_seqItems hTI rfl ?_)
  show wpAny _ _ (Builtin.SmallTypes.ownedTupleIsFree (.ref z) >>= _) _ _ _
  refine wpAny_bind ?_
  unfold Builtin.SmallTypes.ownedTupleIsFree
  refine wpAny_bind (wpAny_field hz rfl (x := .none) rfl (wpAny_pure ?_))
  simp only [if_true]
  refine wpAny_bind (wpAny_rule ?_)
  refine wpAny_bind (wpAny_field hz rfl (x := .ref TO) rfl ?_)
  refine wpAny_bind (wpAny_setField_rec hz (by simp) fun h₁ hz₁ hs₁ => ?_)
  replace hz₁ : IsZip h₁ z TI TO .ellipsis := hz₁
  refine wpAny_bind ?_
  simp only [List.zipIdx_cons, List.zipIdx_nil, List.forIn_cons, List.forIn_nil]
  refine wpAny_bind (wpAny_bind (wpAny_onRaise ?_))
  show wpAny _ _ (Builtin.SmallTypes.nextOf (.ref i1) >>= _) _ _ _
  cases hx : xs[k1]? with
  | none =>
    refine wpAny_bind (nextOf_k_end hh (h1.extBut hs₁.extBut D.i1z) (hl1.extBut hs₁.extBut D.l1z) hx fun h₂ e hs₂ he => ?_)
    obtain ⟨oe, hoe, hce⟩ := he
    have hz₂ : IsZip h₂ z TI TO .ellipsis := hs₂ _ _ D.i1z.symm hz₁
    have hez : e ≠ z := fun x => by subst x; rw [hz₂] at hoe; cases hoe; simp at hce
    refine wpAny_setField_rec hz₂ (by simp) fun h₃ _ hs₃ => hE h₃ e (fun c o c1 _ c3 _ x => hs₃.extBut _ _ c1 (hs₂ _ _ c3 (hs₁.extBut _ _ c1 x))) ⟨oe, hs₃.extBut _ _ hez hoe, hce⟩
  | some x =>
    have hy : ys[k2]? = none := by rcases hend with h | h; rw [hx] at h; cases h; exact h
    refine wpAny_bind (nextOf_k_item (h1.extBut hs₁.extBut D.i1z) (hl1.extBut hs₁.extBut D.l1z) hx fun h₂ h1₂ hs₂ => wpAny_pure ?_)
    have hTO₂ : IsPair h₂ TO a b := hs₂.extBut _ _ D.TOi1 (hs₁.extBut _ _ D.TOz hTO)
    refine wpAny_bind (wpAny_seqItems hTO₂ rfl ?_)
    refine wpAny_bind (wpAny_updateSeq_pair hTO₂ fun h₃ hTO₃ hs₃ => ?_)
    refine wpAny_bind (wpAny_letGo (wpAny_pure ?_))
    refine wpAny_bind (wpAny_bind (wpAny_onRaise ?_))
    show wpAny _ _ (Builtin.SmallTypes.nextOf (.ref i2) >>= _) _ _ _
    refine wpAny_bind (nextOf_k_end hh (((h2.extBut hs₁.extBut D.i2z).extBut hs₂.extBut D.i12.symm).extBut hs₃.extBut D.TOi2.symm)
      (((hl2.extBut hs₁.extBut D.l2z).extBut hs₂.extBut D.l2i1).extBut hs₃.extBut D.l2TO) hy fun h₄ e hs₄ he => ?_)
    obtain ⟨oe, hoe, hce⟩ := he
    have hz₄ : IsZip h₄ z TI TO .ellipsis := hs₄ _ _ D.i2z.symm (hs₃.extBut _ _ D.TOz.symm (hs₂.extBut _ _ D.i1z.symm hz₁))
    have hez : e ≠ z := fun x => by subst x; rw [hz₄] at hoe; cases hoe; simp at hce
    refine wpAny_setField_rec hz₄ (by simp) fun h₅ _ hs₅ => hE h₅ e (fun c o c1 c2 c3 c4 x => hs₅.extBut _ _ c1 (hs₄ _ _ c4 (hs₃.extBut _ _ c2 (hs₂.extBut _ _ c3 (hs₁.extBut _ _ c1 x))))) ⟨oe, hs₅.extBut _ _ hez hoe, hce⟩

theorem pyNext_zipK_item {b1 b2 : Bool} {z TI TO i1 i2 l1 l2 : Addr} {k1 k2 : Nat} {xs ys : Array Value} {x y a b : Value} {Q : Option Value → Shared → Prop} (D : ZipApart z TI TO i1 i2 l1 l2)
    (hz : IsZip s.heap z TI TO .none) (hTI : IsPair s.heap TI (.ref i1) (.ref i2)) (hTO : IsPair s.heap TO a b)
    (h1 : ITk b1 s.heap i1 l1 k1) (h2 : ITk b2 s.heap i2 l2 k2) (hl1 : SQk b1 s.heap l1 xs) (hl2 : SQk b2 s.heap l2 ys) (hx : xs[k1]? = some x) (hy : ys[k2]? = some y)
    (hQ : ∀ h', IsZip h' z TI TO (rawInt s.heap.objs.size) → IsPair h' TO x y → ITk b1 h' i1 l1 (k1 + 1) → ITk b2 h' i2 l2 (k2 + 1) → IsPair h' s.heap.objs.size x y → h'.objs.size = s.heap.objs.size + 1 →
      (∀ c o, c ≠ z → c ≠ TO → c ≠ i1 → c ≠ i2 → s.heap.get? c = some o → h'.get? c = some o) → Q (some (.ref s.heap.objs.size)) { s with heap := h' }) :
    wpAny (model prog w) A (pyNext (.ref z)) Q E s := by
  have hT : s.TypeIs (.ref z) "zip" := ⟨_, hz, rfl⟩
  unfold pyNext
  exact wpAny_bind (wpAny_attempt (wpAny_callSpecial?_slot (name := Str.ofString "__next__") hT F.slot_zip_next
    (wpAny_call_entry F.slot_zip_next hT F.entry_zip_next
      (zipK_next_item D hz hTI hTO h1 h2 hl1 hl2 hx hy fun h' a1 a2 a3 a4 a5 a6 a7 => wpAny_pure (hQ h' a1 a2 a3 a4 a5 a6 a7)) (F.args_zip_next_1 _))))

theorem pyNext_zipK_end {b1 b2 : Bool} {z TI TO i1 i2 l1 l2 : Addr} {k1 k2 : Nat} {xs ys : Array Value} {a b : Value} {Q : Option Value → Shared → Prop} (hh : A.handled = none) (D : ZipApart z TI TO i1 i2 l1 l2)
    (hz : IsZip s.heap z TI TO .none) (hTI : IsPair s.heap TI (.ref i1) (.ref i2)) (hTO : IsPair s.heap TO a b)
    (h1 : ITk b1 s.heap i1 l1 k1) (h2 : ITk b2 s.heap i2 l2 k2) (hl1 : SQk b1 s.heap l1 xs) (hl2 : SQk b2 s.heap l2 ys) (hend : xs[k1]? = none ∨ ys[k2]? = none)
    (hQ : ∀ h', (∀ c o, c ≠ z → c ≠ TO → c ≠ i1 → c ≠ i2 → s.heap.get? c = some o → h'.get? c = some o) → Q none { s with heap := h' }) : wpAny (model prog w) A (pyNext (.ref z)) Q E s := by
  have hT : s.TypeIs (.ref z) "zip" := ⟨_, hz, rfl⟩
  unfold pyNext
  refine wpAny_bind (wpAny_attempt (wpAny_callSpecial?_slot (name := Str.ofString "__next__") hT F.slot_zip_next
    (wpAny_call_entry F.slot_zip_next hT F.entry_zip_next (zipK_next_end hh D hz hTI hTO h1 h2 hl1 hl2 hend fun h' e hk he => ?_) (F.args_zip_next_1 _))))
  obtain ⟨o, ho, hc⟩ := he
  refine wpAny_bind (wpAny_isInstance (T := "StopIteration") (b := true) ⟨o, ho, hc⟩ isSubtype_stop ?_)
  exact wpAny_pure (hQ _ hk)
end


abbrev zipKH1 (b1 : Bool) (h : Heap) (l1 : Addr) : Heap := h.push { cls := .type (itCls b1), data := .fields #[.ref l1, .int 0 0] }
abbrev zipKH2 (b1 b2 : Bool) (h : Heap) (l1 l2 : Addr) : Heap := (zipKH1 b1 h l1).push { cls := .type (itCls b2), data := .fields #[.ref l2, .int 0 0] }
abbrev zipKH3 (b1 b2 : Bool) (h : Heap) (l1 l2 : Addr) : Heap := (zipKH2 b1 b2 h l1 l2).push { cls := .type "tuple", data := .seq #[.ref h.objs.size, .ref (zipKH1 b1 h l1).objs.size] }
abbrev zipKH4 (b1 b2 : Bool) (h : Heap) (l1 l2 : Addr) : Heap := (zipKH3 b1 b2 h l1 l2).push { cls := .type "tuple", data := .seq #[.none, .none] }
abbrev zipKH5 (b1 b2 : Bool) (h : Heap) (l1 l2 : Addr) : Heap := (zipKH4 b1 b2 h l1 l2).push { cls := .type "zip", data := .fields #[.none, .bool false, .bool false, .ref (zipKH2 b1 b2 h l1 l2).objs.size, .ref (zipKH3 b1 b2 h l1 l2).objs.size] }
theorem meets_zipK_new (b1 b2 : Bool) (l1 l2 : Addr) (xs ys : Array Value) :
    Meets (Builtin.«zip.__new__» ⟨[.type "zip", .ref l1, .ref l2], []⟩) (fun _ R s => SQk b1 s.heap l1 xs ∧ SQk b2 s.heap l2 ys ∧
      R (.ok (.ret (.ref (zipKH4 b1 b2 s.heap l1 l2).objs.size))) { s with heap := zipKH5 b1 b2 s.heap l1 l2 }) :=
  .of_wp fun prog w A R s h => by
    obtain ⟨hp, g, d, tk, os⟩ := s; obtain ⟨hl1, hl2, h⟩ := h
    have hsub := sub_zip
    have hL1 : SQk b1 (Shared.heap ⟨hp, g, d, tk, os⟩) l1 xs := hl1
    have hL2 : SQk b2 (Shared.heap ⟨hp.push { cls := .type (itCls b1), data := .fields #[.ref l1, .int 0 0] }, g, d, tk, os⟩) l2 ys := SQk.push hl2 _
    wp_walk using pyIter_k hL1, pyIter_k hL2
    exact ⟨_, rfl, h⟩
section
variable {prog : Program} {w : World} {A : Around} {E : Value → Shared → Prop} {s : Shared}
theorem itk_new {b : Bool} {h : Heap} {it l : Addr} (e : h.get? it = some { cls := .type (itCls b), data := .fields #[.ref l, .int 0 0] }) : ITk b h it l 0 := by
  cases b
  · exact ⟨_, e, rfl, rfl⟩
  · exact ⟨_, e, rfl, rfl⟩
theorem call_zipK {b1 b2 : Bool} {l1 l2 : Addr} {xs ys : Array Value} {Q : Value → Shared → Prop} (hl1 : SQk b1 s.heap l1 xs) (hl2 : SQk b2 s.heap l2 ys)
    (h : ∀ h', IsZip h' (s.heap.objs.size + 4) (s.heap.objs.size + 2) (s.heap.objs.size + 3) .none → IsPair h' (s.heap.objs.size + 2) (.ref s.heap.objs.size) (.ref (s.heap.objs.size + 1)) →
      IsPair h' (s.heap.objs.size + 3) .none .none → ITk b1 h' s.heap.objs.size l1 0 → ITk b2 h' (s.heap.objs.size + 1) l2 0 → h'.objs.size = s.heap.objs.size + 5 →
      (∀ c o, s.heap.get? c = some o → h'.get? c = some o) → Q (.ref (s.heap.objs.size + 4)) { s with heap := h' }) :
    wpAny (model prog w) A (call (.type "zip") [.ref l1, .ref l2]) Q E s := by
  refine callType_new F.called_zip (by decide) (F.typeCall_zip_2 _ _) (F.newCall_zip_2 _ _) (fun obj => F.args_object_init_3 obj _ _) F.entry_zip_new
    (meets_zipK_new b1 b2 l1 l2 xs ys) ⟨hl1, hl2, ?_⟩
  have z1 : (zipKH1 b1 s.heap l1).objs.size = s.heap.objs.size + 1 := Heap.size_push ..
  have z2 : (zipKH2 b1 b2 s.heap l1 l2).objs.size = s.heap.objs.size + 2 := by rw [Heap.size_push, z1]
  have z3 : (zipKH3 b1 b2 s.heap l1 l2).objs.size = s.heap.objs.size + 3 := by rw [Heap.size_push, z2]
  have z4 : (zipKH4 b1 b2 s.heap l1 l2).objs.size = s.heap.objs.size + 4 := by rw [Heap.size_push, z3]
  have z5 : (zipKH5 b1 b2 s.heap l1 l2).objs.size = s.heap.objs.size + 5 := by rw [Heap.size_push, z4]
  have g5 : (zipKH5 b1 b2 s.heap l1 l2).get? (zipKH4 b1 b2 s.heap l1 l2).objs.size = some _ := Heap.get?_push_size _ rfl
  have g4 : (zipKH5 b1 b2 s.heap l1 l2).get? (zipKH3 b1 b2 s.heap l1 l2).objs.size = some _ := Heap.get?_push_of_some _ (Heap.get?_push_size _ rfl)
  have g3 : (zipKH5 b1 b2 s.heap l1 l2).get? (zipKH2 b1 b2 s.heap l1 l2).objs.size = some _ := Heap.get?_push_of_some _ (Heap.get?_push_of_some _ (Heap.get?_push_size _ rfl))
  have g2 : (zipKH5 b1 b2 s.heap l1 l2).get? (zipKH1 b1 s.heap l1).objs.size = some _ := Heap.get?_push_of_some _ (Heap.get?_push_of_some _ (Heap.get?_push_of_some _ (Heap.get?_push_size _ rfl)))
  have g1 : (zipKH5 b1 b2 s.heap l1 l2).get? s.heap.objs.size = some _ := Heap.get?_push_of_some _ (Heap.get?_push_of_some _ (Heap.get?_push_of_some _ (Heap.get?_push_of_some _ (Heap.get?_push_size _ rfl))))
  show _ ∧ _
  rw [z2, z3, z4] at g5
  rw [z1, z2] at g3
  rw [z3] at g4
  rw [z1] at g2
  rw [z4]
  exact ⟨⟨_, g5, rfl⟩, h _ g5 g3 g4 (itk_new g1) (itk_new g2) z5 fun c o x =>
    Heap.get?_push_of_some _ (Heap.get?_push_of_some _ (Heap.get?_push_of_some _ (Heap.get?_push_of_some _ (Heap.get?_push_of_some _ x))))⟩
end

def SqK (b : Bool) (K : PySem.W.Frag) (H : Hp) (a : Addr) (xs : List V) : Prop := match b with
  | true => SqT K H a xs
  | false => SqL K H a xs
theorem sqk_get {b : Bool} {X : Cx} {pins : List (Addr × Obj)} {σ : L2.St} {H : Hp} {s : Shared} {a : Addr} {xs : List V} (I : Inv X pins σ H s) (h : SqK b X.K H a xs) : ∃ its, Vals xs its ∧ SQk b s.heap a its.toArray ∧ a < s.heap.objs.size := by
  cases b
  · obtain ⟨its, rv, p, _⟩ := I.list h
    exact ⟨its, rv, p.isList, p.lt⟩
  · obtain ⟨its, rv, p, _⟩ := I.tuple h
    obtain ⟨o, ho, _⟩ := id p
    exact ⟨its, rv, p, Heap.lt_size ho⟩
theorem sqk_inj {b : Bool} {X : Cx} {pins : List (Addr × Obj)} {σ : L2.St} {H : Hp} {s : Shared} {a : Addr} {xs ys : List V} (I : Inv X pins σ H s) (h : SqK b X.K H a xs) (h2 : SqK b X.K H a ys) : xs = ys := by
  cases b
  · exact I.list_inj h h2
  · exact I.tuple_inj h h2
/-- the tuples at a and b as they stand at each turn, the items in new pairs -/
def ItzK (b1 b2 : Bool) (K : PySem.W.Frag) (a b : Addr) : It :=
  ⟨fun i H => ∃ (xs ys : List V) (x y : V), SqK b1 K H a xs ∧ SqK b2 K H b ys ∧ xs[i]? = some x ∧ ys[i]? = some y,
    fun i H v H' => ∃ T x y, v = .ref T ∧ H T = none ∧ H' = upd H T (.tup [x, y]) ∧ (∀ xs, SqK b1 K H a xs → xs[i]? = some x) ∧ ∀ ys, SqK b2 K H b ys → ys[i]? = some y,
    fun i H => ∃ xs ys : List V, SqK b1 K H a xs ∧ SqK b2 K H b ys ∧ (xs.length ≤ i ∨ ys.length ≤ i)⟩
theorem turn_zipK {b1 b2 : Bool} {P : Program} {w : World} {K : PySem.W.Frag} {elts : List Expr} {kk : Nat} {tpos : Pos} {a b z TI TO i1 i2 : Addr} (D : ZipApart z TI TO i1 i2 a b) :
    Turn P w K (.Tuple elts kk tpos) (ItzK b1 b2 K a b) [z, TI, TO, i1, i2] z (fun i h => IsZip h z TI TO .none ∧ IsPair h TI (.ref i1) (.ref i2) ∧ (∃ x y, IsPair h TO x y) ∧ ITk b1 h i1 a i ∧ ITk b2 h i2 b i) where
  mem := by simp
  obj := fun i h st c hc => by
    obtain ⟨hz, hTI, ⟨x, y, hTO⟩, h1, h2⟩ := st
    have e' : c = z ∨ c = TI ∨ c = TO ∨ c = i1 ∨ c = i2 := by simpa using hc
    rcases e' with q | q | q | q | q
    · rw [q]; exact ⟨_, hz, fun v q => nomatch q⟩
    · rw [q]; exact ⟨_, hTI, fun v q => nomatch q⟩
    · rw [q]; exact ⟨_, hTO, fun v q => nomatch q⟩
    · rw [q]; exact h1.ob
    · rw [q]; exact h2.ob
  keep := fun i h h' st k => by
    obtain ⟨hz, hTI, ⟨x, y, hTO⟩, h1, h2⟩ := st
    exact ⟨k z (by simp) _ hz, k TI (by simp) _ hTI, ⟨x, y, k TO (by simp) _ hTO⟩, h1.at fun o q => k i1 (by simp) o q, h2.at fun o q => k i2 (by simp) o q⟩
  item := by
    intro X hP hw hK hc i pins s σ H E I hf st hg
    subst hP hw hK
    obtain ⟨hz, hTI, ⟨x0, y0, hTO⟩, h1, h2⟩ := st
    obtain ⟨xs, ys, x, y, hqx, hqy, hx, hy⟩ := hg
    obtain ⟨its, rv, p, _⟩ := sqk_get I hqx
    obtain ⟨its2, rv2, p2, _⟩ := sqk_get I hqy
    obtain ⟨u, hu, ru⟩ := rv.get hx
    obtain ⟨u2, hu2, ru2⟩ := rv2.get hy
    have hzl : z < s.heap.objs.size := Heap.lt_size hz
    refine pyNext_zipK_item D hz hTI hTO h1 h2 p p2 (x := u) (y := u2) (by simpa using hu) (by simpa using hu2) fun h' z' TO' h1' h2' hT hsz hk => ?_
    refine ⟨_, rfl, wpAny_letOwnedTupleGo_zip (s := { s with heap := h' }) z' fun h'' z'' sb => ?_⟩
    have hT2 : h''.get? s.heap.objs.size = some { cls := .type "tuple", data := .seq #[u, u2] } := (sb.2 _ (Nat.ne_of_gt hzl)).trans hT
    have new : ObjOk X.prog X.w (upd H s.heap.objs.size (.tup [x, y])) h'' s.heap.objs.size (.tup [x, y]) :=
      ⟨by show 2 ≤ sizeLine; decide, [u, u2], .cons ru (.cons ru2 .nil), ⟨_, hT2, rfl, _, rfl⟩⟩
    have I1 : Inv X pins σ (upd H s.heap.objs.size (.tup [x, y])) { s with heap := h'' } :=
      I.turnedNew (t' := s.toks) (ch := [z, TI, TO, i1, i2]) (fun c o hb q => (sb.2 c (fun q' => hb (by simp [q']))).trans (hk c o (fun q' => hb (by simp [q'])) (fun q' => hb (by simp [q'])) (fun q' => hb (by simp [q'])) (fun q' => hb (by simp [q'])) q)) hf (Nat.le_refl _) new
    refine ⟨.ref s.heap.objs.size, _, I1, rfl, ⟨_, x, y, rfl, I.hok.fresh (Nat.le_refl _), rfl, fun l hl => by rw [sqk_inj I hl hqx]; exact hx, fun l hl => by rw [sqk_inj I hl hqy]; exact hy⟩, ⟨z'', ?_, ⟨u, u2, ?_⟩, ?_, ?_⟩, fun c hcm => ?_⟩
    · exact (sb.2 _ D.TIz).trans (hk _ _ D.TIz D.TITO D.TIi1 D.TIi2 hTI)
    · exact (sb.2 _ D.TOz).trans TO'
    · exact h1'.at fun o q => (sb.2 _ D.i1z).trans q
    · exact h2'.at fun o q => (sb.2 _ D.i2z).trans q
    · have hlt : c < s.heap.objs.size := by
        have e' : c = z ∨ c = TI ∨ c = TO ∨ c = i1 ∨ c = i2 := by simpa using hcm
        rcases e' with q | q | q | q | q
        · rw [q]; exact hzl
        · rw [q]; exact Heap.lt_size hTI
        · rw [q]; exact Heap.lt_size hTO
        · rw [q]; exact h1.lt
        · rw [q]; exact h2.lt
      rw [upd_ne (Nat.ne_of_lt hlt)]
      exact (hf c hcm).1
  done := by
    intro X hP hw hK hc i pins s σ H E I hf st hg
    subst hP hw hK
    obtain ⟨hz, hTI, ⟨x0, y0, hTO⟩, h1, h2⟩ := st
    obtain ⟨xs, ys, hqx, hqy, hend⟩ := hg
    obtain ⟨its, rv, p, _⟩ := sqk_get I hqx
    obtain ⟨its2, rv2, p2, _⟩ := sqk_get I hqy
    have l1 := rv.length
    have l2 := rv2.length
    have he : its.toArray[i]? = none ∨ its2.toArray[i]? = none := by
      rcases hend with q | q
      · exact .inl (by simp; omega)
      · exact .inr (by simp; omega)
    exact pyNext_zipK_end (I.ok.hd hc) D hz hTI hTO h1 h2 p p2 he fun h' hk => ⟨rfl, I.turnedL (t' := s.toks) (ch := [z, TI, TO, i1, i2]) (fun c o hb q =>
      hk c o (fun q' => hb (by simp [q'])) (fun q' => hb (by simp [q'])) (fun q' => hb (by simp [q'])) (fun q' => hb (by simp [q'])) q) hf⟩
  self := fun A i s Q E st h => wpAny_pyIter_zip st.1 h

def iZipK (K : PySem.W.Frag) (ta : TA) : TI := fun σ H R => ta σ H fun vs H1 => ∃ b1 b2 a b xs ys, vs = [.ref a, .ref b] ∧ SqK b1 K H1 a xs ∧ SqK b2 K H1 b ys ∧ R (ItzK b1 b2 K a b) H1
theorem pi_zipK {X : Cx} {e e2 : Expr} {ta : TA} {p pos tpos : Pos} {elts : List Expr} {kk : Nat} (hg : Gl X "zip") (hm : X.mg "zip" = none) (ha : PA X [e, e2] ta)
    (hs : starEach [e, e2] X.env = (false, eval e X.env) :: starEach [e2] X.env := by rfl) (hpl : (backTo pos (starEach [e2] X.env)).any (·.1) = false := by rfl) :
    PI X (.Tuple elts kk tpos) (.Call (.Name "zip" p) [e, e2] [] pos) (iZipK X.K ta) := by
  refine ⟨fun pins s σ H R I h => ?_⟩
  refine Call_ (ld_blt I hg hm PyProof.Rows.boot_zip (PyProof.Rows.callWith_type1 (thn (ha.run pos pins s σ H _ I h) fun us s1 ⟨vs, H1, I1, r1, q1⟩ => ?_) hs hpl))
  obtain ⟨b1, b2, a, b, xs, ys, ex, hqx, hqy, q⟩ := q1
  subst ex
  cases r1 with
  | cons r rr =>
    cases rr with
    | cons r' rr =>
      cases rr
      cases r
      cases r'
      have fresh5 : ∀ c, c ∈ [s1.heap.objs.size + 4, s1.heap.objs.size + 2, s1.heap.objs.size + 3, s1.heap.objs.size, s1.heap.objs.size + 1] → FpOk X pins H1 c := fun c hcm => by
        have e' : c = s1.heap.objs.size + 4 ∨ c = s1.heap.objs.size + 2 ∨ c = s1.heap.objs.size + 3 ∨ c = s1.heap.objs.size ∨ c = s1.heap.objs.size + 1 := by simpa using hcm
        have hle : s1.heap.objs.size ≤ c := by
          rcases e' with z | z | z | z | z
          · rw [z]; exact Nat.le_add_right _ _
          · rw [z]; exact Nat.le_add_right _ _
          · rw [z]; exact Nat.le_add_right _ _
          · rw [z]; exact Nat.le_refl _
          · rw [z]; exact Nat.le_add_right _ _
        exact I1.fpOk hle (I1.hok.fresh hle)
      obtain ⟨its, rv, p1, l1⟩ := sqk_get I1 hqx
      obtain ⟨its2, rv2, p2, l2⟩ := sqk_get I1 hqy
      refine call_zipK p1 p2 fun h' hz hTI hTO h1 h2 hsz hk => wpAny_pyIter_zip hz ?_
      have I2 : Inv X pins σ H1 { s1 with heap := h' } := I1.kept (t' := s1.toks) hk
      exact ⟨s1.heap.objs.size + 4, [s1.heap.objs.size + 4, s1.heap.objs.size + 2, s1.heap.objs.size + 3, s1.heap.objs.size, s1.heap.objs.size + 1], _, _, H1, rfl, I2, turn_zipK (PySem.W.ktu_apart s1.heap.objs.size a b l1 l2), ⟨hz, hTI, ⟨_, _, hTO⟩, h1, h2⟩, fresh5, q⟩
end ZK

/-! The data layer, part 1: data, registers, the store, the monad; how they stand for HandS's values and heaps. -/
namespace DL
open PySem PySem.Spec PyProof.Rows L2 Evl LamX

/-- a register: closed data; a mutable object by its number; a def or class by its number; tuples and lists of such -/
inductive U where
  | d (x : PyData)
  | m (n : Nat)
  | fn (n : Nat)
  | tu (l : List U)
  | li (l : List U)
/-- a mutable object -/
inductive MO where
  | lst (l : List PyData)
  | dct (l : List (Key × PyData))
  | obj (c : Nat) (fs : List (Str × U))
  | gone
/-- an error: an own class without data, or with one attribute -/
inductive Er where
  | own (c : Nat)
  | fld (c : Nat) (f : Str) (x : PyData)
inductive Res (α : Type) where
  | ok (a : α) (μ : List MO)
  | err (e : Er) (μ : List MO)
  | stuck
abbrev M (α : Type) := List MO → Res α
abbrev Env' := List (Option U)
def pur {α : Type} (a : α) : M α := fun μ => .ok a μ
def bnd {α β : Type} (x : M α) (f : α → M β) : M β := fun μ => match x μ with
  | .ok a μ' => f a μ'
  | .err e μ' => .err e μ'
  | .stuck => .stuck
def stk {α : Type} : M α := fun _ => .stuck
def ofO {α : Type} : Option α → M α
  | some a => pur a
  | none => stk
@[simp] theorem bnd_pur {α β : Type} (a : α) (f : α → M β) : bnd (pur a) f = f a := rfl
@[simp] theorem bnd_stk {α β : Type} (f : α → M β) : bnd stk f = (stk : M β) := rfl
@[simp] theorem bnd_bnd {α β γ : Type} (x : M α) (f : α → M β) (h : β → M γ) : bnd (bnd x f) h = bnd x fun a => bnd (f a) h := by
  funext μ
  unfold bnd
  cases x μ <;> rfl
@[simp] theorem bnd_id {α : Type} (x : M α) : bnd x pur = x := by
  funext μ
  unfold bnd pur
  cases x μ <;> rfl

abbrev DE := Env' → M U
abbrev DT := Env' → M Bool
abbrev DA := Env' → M (List U)
/-- how a statement ends -/
inductive Fl where
  | nx
  | ret (u : U)
  | brk
  | cnt
abbrev DS := Env' → M (Fl × Env')

/-! ### what stands for what -/
/- v stands for the data x -/
mutual
inductive Dq (K : PySem.W.Frag) (H : Hp) : V → PyData → Prop
  | non : Dq K H .non .none
  | bl (b : Bool) : Dq K H (.bl b) (.bool b)
  | int (i : Int) : Dq K H (.int i) (.int i)
  | str (x : Str) : Dq K H (.str x) (.str x)
  | lst {a : Addr} {xs : List V} {ds : List PyData} : SqL K H a xs → DqAll K H xs ds → Dq K H (.ref a) (.list ds)
  | tup {a : Addr} {xs : List V} {ds : List PyData} : SqT K H a xs → DqAll K H xs ds → Dq K H (.ref a) (.tuple ds)
inductive DqAll (K : PySem.W.Frag) (H : Hp) : List V → List PyData → Prop
  | nil : DqAll K H [] []
  | cons {v : V} {vs : List V} {d : PyData} {ds : List PyData} : Dq K H v d → DqAll K H vs ds → DqAll K H (v :: vs) (d :: ds)
end
/-- tables of code objects, and things known to stay -/
structure ZZ where
  kn : List (Addr × HO)
  kp : Hp → Prop
  mono : ∀ F F' : Hp, Ex F F' → kp F → kp F'
structure TZ where
  tabs : List (Addr × Str)
  z : ZZ
structure Gp where
  K : PySem.W.Frag
  fa : Nat → V
  T : TZ
mutual
inductive Rp (g : Gp) (F : Hp) (m : List Addr) : V → U → Prop
  | d {v : V} {x : PyData} : Dq g.K F v x → Rp g F m v (.d x)
  | m {a : Addr} {n : Nat} : m[n]? = some a → Rp g F m (.ref a) (.m n)
  | fn {n : Nat} : Rp g F m (g.fa n) (.fn n)
  | tu {a : Addr} {vs : List V} {us : List U} : SqT g.K F a vs → RpAll g F m vs us → Rp g F m (.ref a) (.tu us)
  | li {a : Addr} {vs : List V} {us : List U} : SqL g.K F a vs → RpAll g F m vs us → Rp g F m (.ref a) (.li us)
inductive RpAll (g : Gp) (F : Hp) (m : List Addr) : List V → List U → Prop
  | nil : RpAll g F m [] []
  | cons {v : V} {vs : List V} {u : U} {us : List U} : Rp g F m v u → RpAll g F m vs us → RpAll g F m (v :: vs) (u :: us)
end
mutual
theorem Dq.mo {K : PySem.W.Frag} {F F' : Hp} (e : Ex F F') : ∀ (x : PyData) (v : V), Dq K F v x → Dq K F' v x
  | .none, _, h => by cases h; exact .non
  | .bool b, _, h => by cases h; exact .bl b
  | .int i, _, h => by cases h; exact .int i
  | .str x, _, h => by cases h; exact .str x
  | .list xs, _, h => by
    cases h with
    | lst h1 h2 => exact .lst (ex_l e h1) (DqAll.mo e xs _ h2)
  | .tuple xs, _, h => by
    cases h with
    | tup h1 h2 => exact .tup (ex_t e h1) (DqAll.mo e xs _ h2)
  | .dict _, _, h => by cases h
theorem DqAll.mo {K : PySem.W.Frag} {F F' : Hp} (e : Ex F F') : ∀ (xs : List PyData) (vs : List V), DqAll K F vs xs → DqAll K F' vs xs
  | [], _, h => by cases h; exact .nil
  | x :: xs, _, h => by
    cases h with
    | cons h1 h2 => exact .cons (Dq.mo e x _ h1) (DqAll.mo e xs _ h2)
end
mutual
theorem Dq.dp {K : PySem.W.Frag} {F : Hp} : ∀ (x : PyData) (v : V), Dq K F v x → Dp K F v x
  | .none, _, h => by cases h; exact .non
  | .bool b, _, h => by cases h; exact .bl b
  | .int i, _, h => by cases h; exact .int i
  | .str x, _, h => by cases h; exact .str x
  | .list xs, _, h => by
    cases h with
    | lst h1 h2 => exact .lst h1 (DqAll.dp xs _ h2)
  | .tuple xs, _, h => by
    cases h with
    | tup h1 h2 => exact .tup h1 (DqAll.dp xs _ h2)
  | .dict _, _, h => by cases h
theorem DqAll.dp {K : PySem.W.Frag} {F : Hp} : ∀ (xs : List PyData) (vs : List V), DqAll K F vs xs → DpAll K F vs xs
  | [], _, h => by cases h; exact .nil
  | x :: xs, _, h => by
    cases h with
    | cons h1 h2 => exact .cons (Dq.dp x _ h1) (DqAll.dp xs _ h2)
end
theorem pre_get {α : Type} {l l' : List α} (p : l <+: l') {n : Nat} {a : α} (h : l[n]? = some a) : l'[n]? = some a := by
  obtain ⟨r, rfl⟩ := p
  rw [List.getElem?_append_left (List.getElem?_eq_some_iff.mp h).1]
  exact h
mutual
theorem Rp.mo {g : Gp} {F F' : Hp} {m m' : List Addr} (e : Ex F F') (p : m <+: m') : ∀ (u : U) (v : V), Rp g F m v u → Rp g F' m' v u
  | .d x, _, h => by cases h with | d h => exact .d (Dq.mo e x _ h)
  | .m n, _, h => by cases h with | m h => exact .m (pre_get p h)
  | .fn n, _, h => by cases h; exact .fn
  | .tu us, _, h => by cases h with | tu h1 h2 => exact .tu (ex_t e h1) (RpAll.mo e p us _ h2)
  | .li us, _, h => by cases h with | li h1 h2 => exact .li (ex_l e h1) (RpAll.mo e p us _ h2)
theorem RpAll.mo {g : Gp} {F F' : Hp} {m m' : List Addr} (e : Ex F F') (p : m <+: m') : ∀ (us : List U) (vs : List V), RpAll g F m vs us → RpAll g F' m' vs us
  | [], _, h => by cases h; exact .nil
  | u :: us, _, h => by cases h with | cons h1 h2 => exact .cons (Rp.mo e p u _ h1) (RpAll.mo e p us _ h2)
end
theorem DqAll.len {K : PySem.W.Frag} {F : Hp} : ∀ {xs : List PyData} {vs : List V}, DqAll K F vs xs → vs.length = xs.length
  | [], _, h => by cases h; rfl
  | x :: xs, _, h => by
    cases h with
    | cons h1 h2 => rw [List.length_cons, List.length_cons, DqAll.len h2]
theorem RpAll.len {g : Gp} {F : Hp} {m : List Addr} : ∀ {us : List U} {vs : List V}, RpAll g F m vs us → vs.length = us.length
  | [], _, h => by cases h; rfl
  | u :: us, _, h => by
    cases h with
    | cons h1 h2 => rw [List.length_cons, List.length_cons, RpAll.len h2]

/-- the store's object -/
def MoR (g : Gp) (F : Hp) (m : List Addr) (H : Hp) (a : Addr) : MO → Prop
  | .lst ds => ∃ vs, H a = some (.lst vs) ∧ DqAll g.K F vs ds
  | .dct kvs => ∃ vs, H a = some (.dK vs) ∧ Paired (fun (p : Key × V) (q : Key × PyData) => p.1 = q.1 ∧ Dq g.K F p.2 q.2) vs kvs
  | .obj c fs => ∃ C dx vs, g.fa c = .ref C ∧ H a = some (.ins C dx vs) ∧ Paired (fun (p : Str × V) (q : Str × U) => p.1 = q.1 ∧ Rp g F m p.2 q.2) vs fs
  | .gone => ∃ u, H a = some u ∧ (∀ ps, u ≠ .tbl ps) ∧ ∀ z, u ≠ .ext z
theorem MoR.mo {g : Gp} {F F' : Hp} {m m' : List Addr} {H H' : Hp} {a : Addr} {o : MO} (e : Ex F F') (p : m <+: m') (k : ∀ o, H a = some o → H' a = some o) (h : MoR g F m H a o) : MoR g F' m' H' a o := by
  cases o with
  | lst ds => obtain ⟨vs, h1, h2⟩ := h; exact ⟨vs, k _ h1, DqAll.mo e _ _ h2⟩
  | dct kvs => obtain ⟨vs, h1, h2⟩ := h; exact ⟨vs, k _ h1, Paired.mapP h2 fun p q z => ⟨z.1, Dq.mo e _ _ z.2⟩⟩
  | obj c fs => obtain ⟨C, dx, vs, h0, h1, h2⟩ := h; exact ⟨C, dx, vs, h0, k _ h1, Paired.mapP h2 fun a b z => ⟨z.1, Rp.mo e p _ _ z.2⟩⟩
  | gone => obtain ⟨u, h1, h2⟩ := h; exact ⟨u, k _ h1, h2⟩
theorem MoR.there {g : Gp} {F : Hp} {m : List Addr} {H : Hp} {a : Addr} {o : MO} (h : MoR g F m H a o) : ∃ u, H a = some u ∧ ∀ ps, u ≠ .tbl ps := by
  cases o with
  | lst ds => obtain ⟨vs, h1, _⟩ := h; exact ⟨_, h1, fun _ z => by cases z⟩
  | dct kvs => obtain ⟨vs, h1, _⟩ := h; exact ⟨_, h1, fun _ z => by cases z⟩
  | obj c fs => obtain ⟨C, dx, vs, _, h1, _⟩ := h; exact ⟨_, h1, fun _ z => by cases z⟩
  | gone => obtain ⟨u, h1, h2, _⟩ := h; exact ⟨u, h1, h2⟩
theorem MoR.nx {g : Gp} {F : Hp} {m : List Addr} {H : Hp} {a : Addr} {o : MO} (h : MoR g F m H a o) {z : Heap → Prop} : H a ≠ some (.ext z) := fun e => by
  cases o with
  | lst ds =>
    obtain ⟨vs, h1, _⟩ := h
    rw [h1] at e
    cases e
  | dct kvs =>
    obtain ⟨vs, h1, _⟩ := h
    rw [h1] at e
    cases e
  | obj c fs =>
    obtain ⟨C, dx, vs, _, h1, _⟩ := h
    rw [h1] at e
    cases e
  | gone =>
    obtain ⟨u, h1, _, h2⟩ := h
    rw [h1] at e
    cases e
    exact h2 _ rfl
/-- the state -/
structure Ok (g : Gp) (F : Hp) (μ : List MO) (m : List Addr) (H : Hp) : Prop where
  ex : Ex F H
  len : m.length = μ.length
  nd : m.Nodup
  nf : ∀ (i : Nat) a o, m[i]? = some a → μ[i]? = some o → o ≠ .gone → F a = none
  nt : ∀ b ps, F b ≠ some (.tbl ps)
  at_ : ∀ (i : Nat) a o, m[i]? = some a → μ[i]? = some o → MoR g F m H a o
  tab : Tabs g.T.tabs H
  kn : ∀ p ∈ g.T.z.kn, H p.1 = some p.2 ∧ p.1 ∉ m ∧ ∃ z, p.2 = .ext z
  kp : g.T.z.kp F
/-- what a step keeps -/
structure Gr (F H : Hp) (m : List Addr) (F' H' : Hp) (m' : List Addr) : Prop where
  ef : Ex F F'
  pm : m <+: m'
  un : ∀ b o, F b = none → b ∉ m → H b = some o → (∀ ps, o ≠ .tbl ps) → H' b = some o ∧ F' b = none ∧ b ∉ m'
theorem Gr.refl (F H : Hp) (m : List Addr) : Gr F H m F H m := ⟨Ex.refl F, List.prefix_rfl, fun _ _ h1 h2 h3 _ => ⟨h3, h1, h2⟩⟩
theorem Gr.trans {F H F1 H1 F2 H2 : Hp} {m m1 m2 : List Addr} (a : Gr F H m F1 H1 m1) (b : Gr F1 H1 m1 F2 H2 m2) : Gr F H m F2 H2 m2 :=
  ⟨a.ef.trans b.ef, a.pm.trans b.pm, fun c o h1 h2 h3 h4 => by
    obtain ⟨k1, k2, k3⟩ := a.un c o h1 h2 h3 h4
    exact b.un c o k2 k3 k1 h4⟩
/-- the slots -/
def EnvR (g : Gp) (F : Hp) (m : List Addr) (σ : L2.St) (ρ : Env') : Prop := σ.length = ρ.length ∧ ∀ (i : Nat) u, ρ[i]? = some (some u) → ∃ v, σ[i]? = some (some v) ∧ Rp g F m v u
theorem EnvR.mo {g : Gp} {F F' : Hp} {m m' : List Addr} {σ : L2.St} {ρ : Env'} (e : Ex F F') (p : m <+: m') (h : EnvR g F m σ ρ) : EnvR g F' m' σ ρ :=
  ⟨h.1, fun i u q => let ⟨v, h1, h2⟩ := h.2 i u q; ⟨v, h1, Rp.mo e p _ _ h2⟩⟩
theorem EnvR.gr {g : Gp} {F F' H H' : Hp} {m m' : List Addr} {σ : L2.St} {ρ : Env'} (r : Gr F H m F' H' m') (h : EnvR g F m σ ρ) : EnvR g F' m' σ ρ := h.mo r.ef r.pm
theorem Rp.gr {g : Gp} {F F' H H' : Hp} {m m' : List Addr} {v : V} {u : U} (r : Gr F H m F' H' m') (h : Rp g F m v u) : Rp g F' m' v u := Rp.mo r.ef r.pm _ _ h
theorem RpAll.gr {g : Gp} {F F' H H' : Hp} {m m' : List Addr} {v : List V} {u : List U} (r : Gr F H m F' H' m') (h : RpAll g F m v u) : RpAll g F' m' v u := RpAll.mo r.ef r.pm _ _ h
/-- an error -/
def ErR (g : Gp) (F H : Hp) (cls : Value) (d : Option Addr) : Er → Prop
  | .own c => ∃ C, g.fa c = .ref C ∧ cls = .ref C ∧ d = none
  | .fld c f x => ∃ C dd v, g.fa c = .ref C ∧ cls = .ref C ∧ d = some dd ∧ H dd = some (.xd [(f, v)]) ∧ Dq g.K F v x

/-! ### ends -/
def Post (g : Gp) {α β : Type} (R : Hp → List Addr → β → α → Prop) (r : Res α) (F H : Hp) (m : List Addr) (Q : β → Hp → Prop) (W : Value → Option Addr → Hp → Prop) : Prop :=
  match r with
  | .ok a μ' => ∀ b F' H' m', Gr F H m F' H' m' → Ok g F' μ' m' H' → R F' m' b a → Q b H'
  | .err e μ' => ∀ cls d F' H' m', Gr F H m F' H' m' → Ok g F' μ' m' H' → ErR g F' H' cls d e → W cls d H'
  | .stuck => False
section
variable {g : Gp} {α β : Type} {R : Hp → List Addr → β → α → Prop} {r : Res α} {F H F1 H1 : Hp} {m m1 : List Addr} {Q : β → Hp → Prop} {W : Value → Option Addr → Hp → Prop}
theorem Post.gr (h : Post g R r F H m Q W) (e : Gr F H m F1 H1 m1) : Post g R r F1 H1 m1 Q W := by
  cases r with
  | ok a μ' => exact fun b F' H' m' e' => h b F' H' m' (e.trans e')
  | err er μ' => exact fun c d F' H' m' e' => h c d F' H' m' (e.trans e')
  | stuck => exact h
end
abbrev RU (g : Gp) : Hp → List Addr → V → U → Prop := fun F m v u => Rp g F m v u
abbrev RUs (g : Gp) : Hp → List Addr → List V → List U → Prop := fun F m v u => RpAll g F m v u
abbrev RB : Hp → List Addr → Bool → Bool → Prop := fun _ _ a b => a = b
/-- a statement's end -/
def PostS (g : Gp) (r : Res (Fl × Env')) (F H : Hp) (m : List Addr) (n : Nat) (D : Ends) (W : WX) : Prop :=
  match r with
  | .ok (.nx, ρ) μ' => ∀ σ F' H' m', Gr F H m F' H' m' → Ok g F' μ' m' H' → EnvR g F' m' σ ρ → ρ.length = n → D.nx σ H'
  | .ok (.brk, ρ) μ' => ∀ σ F' H' m', Gr F H m F' H' m' → Ok g F' μ' m' H' → EnvR g F' m' σ ρ → ρ.length = n → D.bk σ H'
  | .ok (.cnt, ρ) μ' => ∀ σ F' H' m', Gr F H m F' H' m' → Ok g F' μ' m' H' → EnvR g F' m' σ ρ → ρ.length = n → D.ct σ H'
  | .ok (.ret u, _) μ' => ∀ v F' H' m', Gr F H m F' H' m' → Ok g F' μ' m' H' → Rp g F' m' v u → D.rt v H'
  | .err e μ' => ∀ cls d σ F' H' m', Gr F H m F' H' m' → Ok g F' μ' m' H' → ErR g F' H' cls d e → σ.length = n → W cls d σ H'
  | .stuck => False
theorem PostS.gr {g : Gp} {r : Res (Fl × Env')} {F H F1 H1 : Hp} {m m1 : List Addr} {n : Nat} {D : Ends} {W : WX} (h : PostS g r F H m n D W) (e : Gr F H m F1 H1 m1) : PostS g r F1 H1 m1 n D W := by
  cases r with
  | ok a μ' =>
    obtain ⟨fl, ρ⟩ := a
    cases fl with
    | nx => exact fun σ F' H' m' e' => h σ F' H' m' (e.trans e')
    | brk => exact fun σ F' H' m' e' => h σ F' H' m' (e.trans e')
    | cnt => exact fun σ F' H' m' e' => h σ F' H' m' (e.trans e')
    | ret u => exact fun v F' H' m' e' => h v F' H' m' (e.trans e')
  | err er μ' => exact fun c d σ F' H' m' e' => h c d σ F' H' m' (e.trans e')
  | stuck => exact h

/-! ### simulations -/
def SimE (g : Gp) (W : WX) (t : TE) (de : DE) : Prop := ∀ ρ μ m F σ H Q, Ok g F μ m H → EnvR g F m σ ρ → Post g (RU g) (de ρ μ) F H m Q (fun c d H' => W c d σ H') → t σ H Q
def SimT (g : Gp) (W : WX) (t : TT) (de : DT) : Prop := ∀ ρ μ m F σ H Q, Ok g F μ m H → EnvR g F m σ ρ → Post g RB (de ρ μ) F H m Q (fun c d H' => W c d σ H') → t σ H Q
def SimA (g : Gp) (W : WX) (t : TA) (de : DA) : Prop := ∀ ρ μ m F σ H Q, Ok g F μ m H → EnvR g F m σ ρ → Post g (RUs g) (de ρ μ) F H m Q (fun c d H' => W c d σ H') → t σ H Q
def SimS (g : Gp) (W : WX) (t : TS) (ds : DS) : Prop := ∀ ρ μ m F σ H D, Ok g F μ m H → EnvR g F m σ ρ → PostS g (ds ρ μ) F H m ρ.length D W → t D σ H

abbrev gp (X : Cx) (fa : Nat → V) (T : TZ) : Gp := ⟨X.K, fa, T⟩
def DPE (X : Cx) (fa : Nat → V) (T : TZ) (W : WX) (e : Expr) (de : DE) : Prop := ∃ t, PE X e t ∧ SimE (gp X fa T) W t de
def DPT (X : Cx) (fa : Nat → V) (T : TZ) (W : WX) (e : Expr) (de : DT) : Prop := ∃ t, PT X e t ∧ SimT (gp X fa T) W t de
def DPW (X : Cx) (fa : Nat → V) (T : TZ) (W : WX) (e : Expr) (de : DT) : Prop := ∃ t, PW X e t ∧ SimT (gp X fa T) W t de
def DPA (X : Cx) (fa : Nat → V) (T : TZ) (W : WX) (es : List Expr) (de : DA) : Prop := ∃ t, PA X es t ∧ SimA (gp X fa T) W t de
def DPS (X : Cx) (fa : Nat → V) (T : TZ) (W : WX) (st : Stmt) (ds : DS) : Prop := ∃ t, PS X st t ∧ SimS (gp X fa T) W t ds
def DPSs (X : Cx) (fa : Nat → V) (T : TZ) (W : WX) (sts : List Stmt) (ds : DS) : Prop := ∃ t, PSs X sts t ∧ SimS (gp X fa T) W t ds

/-! ### tools -/
section
variable {g : Gp}
/-- bind: the first part ends well, or the whole ends as it does -/
theorem post_bnd {α β γ δ : Type} {R : Hp → List Addr → β → α → Prop} {R' : Hp → List Addr → δ → γ → Prop} {x : M α} {f : α → M γ} {μ : List MO} {F H : Hp} {m : List Addr} {Q' : β → Hp → Prop} {Q : δ → Hp → Prop} {W : Value → Option Addr → Hp → Prop}
    (h : Post g R' (bnd x f μ) F H m Q W)
    (k : ∀ a μ1 b F1 H1 m1, x μ = .ok a μ1 → Gr F H m F1 H1 m1 → Ok g F1 μ1 m1 H1 → R F1 m1 b a → Post g R' (f a μ1) F1 H1 m1 Q W → Q' b H1) : Post g R (x μ) F H m Q' W := by
  unfold bnd at h
  cases e : x μ with
  | ok a μ1 =>
    rw [e] at h
    exact fun b F1 H1 m1 r o q => k a μ1 b F1 H1 m1 e r o q (h.gr r)
  | err er μ1 =>
    rw [e] at h
    exact h
  | stuck =>
    rw [e] at h
    exact h
theorem post_ofO {α β : Type} {R : Hp → List Addr → β → α → Prop} {o : Option α} {μ : List MO} {F H : Hp} {m : List Addr} {Q : β → Hp → Prop} {W : Value → Option Addr → Hp → Prop}
    (h : Post g R (ofO o μ) F H m Q W) : ∃ a, o = some a ∧ Post g R (Res.ok a μ) F H m Q W := by
  cases o with
  | none => exact h.elim
  | some a => exact ⟨a, rfl, h⟩
/-- a value that stands as the state is -/
theorem post_here {α β : Type} {R : Hp → List Addr → β → α → Prop} {a : α} {b : β} {μ : List MO} {F H : Hp} {m : List Addr} {Q : β → Hp → Prop} {W : Value → Option Addr → Hp → Prop}
    (h : Post g R (Res.ok a μ) F H m Q W) (o : Ok g F μ m H) (r : R F m b a) : Q b H := h b F H m (Gr.refl F H m) o r
/-- a new object in the frozen part -/
theorem Ok.froz {F H : Hp} {μ : List MO} {m : List Addr} {p : Addr} {u : HO} (o : Ok g F μ m H) (hp : H p = none) (hu : ∀ ps, u ≠ .tbl ps) : Ok g (upd F p u) μ m (upd H p u) ∧ Gr F H m (upd F p u) (upd H p u) m := by
  have fp : F p = none := fresh_back o.ex hp
  have pm : p ∉ m := fun z => by
    obtain ⟨i, hi⟩ := List.getElem?_of_mem z
    have hl : i < μ.length := by
      rw [← o.len]
      exact (List.getElem?_eq_some_iff.mp hi).1
    obtain ⟨x, hx, _⟩ := (o.at_ i p _ hi (List.getElem?_eq_getElem hl)).there
    rw [hp] at hx
    cases hx
  refine ⟨⟨fun b w e => ?_, o.len, o.nd, fun i a w h1 h2 h3 => ?_, fun b ps e => ?_, fun i a w h1 h2 => (o.at_ i a w h1 h2).mo (Ex.new fp) List.prefix_rfl fun x hx => ?_, o.tab.ext (Ex.new hp), fun q hq => ⟨by rw [upd_ne (ne_of_none (o.kn q hq).1 hp)]; exact (o.kn q hq).1, (o.kn q hq).2⟩, g.T.z.mono _ _ (Ex.new fp) o.kp⟩, Ex.new fp, List.prefix_rfl, fun b w h1 h2 h3 h4 => ⟨?_, ?_, h2⟩⟩
  · by_cases hb : b = p
    · rw [hb, upd_same] at e ⊢
      exact e
    · rw [upd_ne hb] at e ⊢
      exact o.ex b w e
  · rw [upd_ne (show a ≠ p from fun z => pm (by rw [← z]; exact List.mem_of_getElem? h1))]
    exact o.nf i a w h1 h2 h3
  · by_cases hb : b = p
    · rw [hb, upd_same] at e
      exact hu ps (Option.some.inj e)
    · rw [upd_ne hb] at e
      exact o.nt b ps e
  · rw [upd_ne (ne_of_none hx hp)]
    exact hx
  · rw [upd_ne (ne_of_none h3 hp)]
    exact h3
  · rw [upd_ne (ne_of_none h3 hp)]
    exact h1
/-- what a register shows as data: itself, or the list that it names -/
def peek (μ : List MO) : U → Option PyData
  | .d x => some x
  | .m n => (match μ[n]? with
    | some (.lst ds) => some (.list ds)
    | _ => none)
  | _ => none
theorem peek_ok {F H : Hp} {μ : List MO} {m : List Addr} {v : V} {u : U} {x : PyData} (o : Ok g F μ m H) (r : Rp g F m v u) (h : peek μ u = some x) : Dq g.K H v x := by
  cases r with
  | d h' =>
    have e : _ = x := Option.some.inj h
    subst e
    exact Dq.mo o.ex _ _ h'
  | @m a n h' =>
    have h : (match μ[n]? with
      | some (MO.lst ds) => some (PyData.list ds)
      | _ => none) = some x := h
    cases e : μ[n]? with
    | none =>
      rw [e] at h
      cases h
    | some w =>
      rw [e] at h
      cases w with
      | lst ds =>
        have e2 : PyData.list ds = x := Option.some.inj h
        subst e2
        obtain ⟨vs, h1, h2⟩ := o.at_ n a _ h' e
        exact .lst (sq_of h1) (DqAll.mo o.ex _ _ h2)
      | dct _ => cases h
      | obj _ _ => cases h
      | gone => cases h
  | fn => cases h
  | tu _ _ => cases h
  | li _ _ => cases h
end
end DL

/-! The data layer, part 2: expressions. -/
namespace DL
open PySem PySem.Spec PyProof.Rows L2 Evl LamX

/-! ### judgements by canonical readings -/
def canE (g : Gp) (W : WX) (de : DE) : TE := fun σ H Q => ∃ ρ μ m F, Ok g F μ m H ∧ EnvR g F m σ ρ ∧ Post g (RU g) (de ρ μ) F H m Q (fun c d H' => W c d σ H')
def canT (g : Gp) (W : WX) (de : DT) : TT := fun σ H Q => ∃ ρ μ m F, Ok g F μ m H ∧ EnvR g F m σ ρ ∧ Post g RB (de ρ μ) F H m Q (fun c d H' => W c d σ H')
def canA (g : Gp) (W : WX) (de : DA) : TA := fun σ H Q => ∃ ρ μ m F, Ok g F μ m H ∧ EnvR g F m σ ρ ∧ Post g (RUs g) (de ρ μ) F H m Q (fun c d H' => W c d σ H')
def canS (g : Gp) (W : WX) (ds : DS) : TS := fun D σ H => ∃ ρ μ m F, Ok g F μ m H ∧ EnvR g F m σ ρ ∧ PostS g (ds ρ μ) F H m ρ.length D W
abbrev CE' (X : Cx) (fa : Nat → V) (T : TZ) (W : WX) (e : Expr) (de : DE) : Prop := PE X e (canE (gp X fa T) W de)
abbrev CT' (X : Cx) (fa : Nat → V) (T : TZ) (W : WX) (e : Expr) (de : DT) : Prop := PT X e (canT (gp X fa T) W de)
abbrev CW' (X : Cx) (fa : Nat → V) (T : TZ) (W : WX) (e : Expr) (de : DT) : Prop := PW X e (canT (gp X fa T) W de)
abbrev CA' (X : Cx) (fa : Nat → V) (T : TZ) (W : WX) (es : List Expr) (de : DA) : Prop := PA X es (canA (gp X fa T) W de)
abbrev CS' (X : Cx) (fa : Nat → V) (T : TZ) (W : WX) (st : Stmt) (ds : DS) : Prop := PS X st (canS (gp X fa T) W ds)
abbrev CSs (X : Cx) (fa : Nat → V) (T : TZ) (W : WX) (st : List Stmt) (ds : DS) : Prop := PSs X st (canS (gp X fa T) W ds)
section
variable {X : Cx} {fa : Nat → V} {T : TZ} {W : WX}
theorem mkE {e : Expr} {t : TE} {de : DE} (h : PE X e t) (s : SimE (gp X fa T) W t de) : CE' X fa T W e de := ⟨fun pins st σ H Q I ⟨ρ, μ, m, F, o, r, p⟩ => h.run pins st σ H Q I (s ρ μ m F σ H Q o r p)⟩
theorem mkT {e : Expr} {t : TT} {de : DT} (h : PT X e t) (s : SimT (gp X fa T) W t de) : CT' X fa T W e de := ⟨fun pins st σ H Q I ⟨ρ, μ, m, F, o, r, p⟩ => h.run pins st σ H Q I (s ρ μ m F σ H Q o r p)⟩
theorem mkW {e : Expr} {t : TT} {de : DT} (h : PW X e t) (s : SimT (gp X fa T) W t de) : CW' X fa T W e de := ⟨fun wh pins st σ H Q I ⟨ρ, μ, m, F, o, r, p⟩ => h.run wh pins st σ H Q I (s ρ μ m F σ H Q o r p)⟩
theorem mkA {es : List Expr} {t : TA} {de : DA} (h : PA X es t) (s : SimA (gp X fa T) W t de) : CA' X fa T W es de := ⟨fun pos pins st σ H Q I ⟨ρ, μ, m, F, o, r, p⟩ => h.run pos pins st σ H Q I (s ρ μ m F σ H Q o r p)⟩
theorem mkS {st : Stmt} {t : TS} {ds : DS} (h : PS X st t) (s : SimS (gp X fa T) W t ds) : CS' X fa T W st ds := ⟨fun pins st σ H Q I ⟨ρ, μ, m, F, o, r, p⟩ => h.run pins st σ H Q I (s ρ μ m F σ H Q o r p)⟩
theorem mkSs {st : List Stmt} {t : TS} {ds : DS} (h : PSs X st t) (s : SimS (gp X fa T) W t ds) : CSs X fa T W st ds := ⟨fun pins st σ H Q I ⟨ρ, μ, m, F, o, r, p⟩ => h.run pins st σ H Q I (s ρ μ m F σ H Q o r p)⟩
/-- a part, then the rest -/
theorem useE {g : Gp} {de : DE} {β γ : Type} {R : Hp → List Addr → γ → β → Prop} {f : U → M β} {ρ : Env'} {μ : List MO} {m : List Addr} {F H : Hp} {σ : L2.St} {Q : γ → Hp → Prop} {Q' : VK} (o : Ok g F μ m H) (r : EnvR g F m σ ρ)
    (h : Post g R (bnd (de ρ) f μ) F H m Q (fun c d H' => W c d σ H'))
    (k : ∀ u μ1 v F1 H1 m1, Gr F H m F1 H1 m1 → Ok g F1 μ1 m1 H1 → EnvR g F1 m1 σ ρ → Rp g F1 m1 v u → Post g R (f u μ1) F1 H1 m1 Q (fun c d H' => W c d σ H') → Q' v H1) : canE g W de σ H Q' :=
  ⟨ρ, μ, m, F, o, r, post_bnd h fun u μ1 v F1 H1 m1 _ e o1 rv p => k u μ1 v F1 H1 m1 e o1 (r.gr e) rv p⟩
theorem useT {g : Gp} {de : DT} {β γ : Type} {R : Hp → List Addr → γ → β → Prop} {f : Bool → M β} {ρ : Env'} {μ : List MO} {m : List Addr} {F H : Hp} {σ : L2.St} {Q : γ → Hp → Prop} {Q' : Bool → Hp → Prop} (o : Ok g F μ m H) (r : EnvR g F m σ ρ)
    (h : Post g R (bnd (de ρ) f μ) F H m Q (fun c d H' => W c d σ H'))
    (k : ∀ u μ1 F1 H1 m1, Gr F H m F1 H1 m1 → Ok g F1 μ1 m1 H1 → EnvR g F1 m1 σ ρ → Post g R (f u μ1) F1 H1 m1 Q (fun c d H' => W c d σ H') → Q' u H1) : canT g W de σ H Q' :=
  ⟨ρ, μ, m, F, o, r, post_bnd h fun u μ1 v F1 H1 m1 _ e o1 rv p => by
    have rv : v = u := rv
    rw [rv]
    exact k u μ1 F1 H1 m1 e o1 (r.gr e) p⟩
theorem useA {g : Gp} {de : DA} {β γ : Type} {R : Hp → List Addr → γ → β → Prop} {f : List U → M β} {ρ : Env'} {μ : List MO} {m : List Addr} {F H : Hp} {σ : L2.St} {Q : γ → Hp → Prop} {Q' : List V → Hp → Prop} (o : Ok g F μ m H) (r : EnvR g F m σ ρ)
    (h : Post g R (bnd (de ρ) f μ) F H m Q (fun c d H' => W c d σ H'))
    (k : ∀ u μ1 v F1 H1 m1, Gr F H m F1 H1 m1 → Ok g F1 μ1 m1 H1 → EnvR g F1 m1 σ ρ → RpAll g F1 m1 v u → Post g R (f u μ1) F1 H1 m1 Q (fun c d H' => W c d σ H') → Q' v H1) : canA g W de σ H Q' :=
  ⟨ρ, μ, m, F, o, r, post_bnd h fun u μ1 v F1 H1 m1 _ e o1 rv p => k u μ1 v F1 H1 m1 e o1 (r.gr e) rv p⟩
end

/-! ### views of data -/
/-- v shows the data x in the state: frozen, or a list of the store -/
def Vw (K : PySem.W.Frag) (F H : Hp) (v : V) (x : PyData) : Prop := Dq K F v x ∨ ∃ a vs ds, v = .ref a ∧ x = .list ds ∧ H a = some (.lst vs) ∧ DqAll K F vs ds
section
variable {g : Gp} {K : PySem.W.Frag} {F H : Hp} {μ : List MO} {m : List Addr} {v : V} {u : U} {x : PyData}
theorem vw_of (o : Ok g F μ m H) (r : Rp g F m v u) (h : peek μ u = some x) : Vw g.K F H v x := by
  cases r with
  | d h' =>
    have e : _ = x := Option.some.inj h
    subst e
    exact .inl h'
  | @m a n h' =>
    have h : (match μ[n]? with
      | some (MO.lst ds) => some (PyData.list ds)
      | _ => none) = some x := h
    cases e : μ[n]? with
    | none =>
      rw [e] at h
      cases h
    | some w =>
      rw [e] at h
      cases w with
      | lst ds =>
        have e2 : PyData.list ds = x := Option.some.inj h
        subst e2
        obtain ⟨vs, h1, h2⟩ := o.at_ n a _ h' e
        exact .inr ⟨a, vs, ds, rfl, rfl, h1, h2⟩
      | dct _ => cases h
      | obj _ _ => cases h
      | gone => cases h
  | fn => cases h
  | tu _ _ => cases h
  | li _ _ => cases h
theorem Vw.dp (e : Ex F H) (h : Vw K F H v x) : Dq K H v x := by
  rcases h with h | ⟨a, vs, ds, rfl, rfl, h1, h2⟩
  · exact Dq.mo e _ _ h
  · exact .lst (sq_of h1) (DqAll.mo e _ _ h2)
theorem Vw.int {i : Int} (h : Vw K F H v (.int i)) : v = .int i := by
  rcases h with h | ⟨a, vs, ds, _, e, _⟩
  · cases h; rfl
  · cases e
theorem Vw.bl {b : Bool} (h : Vw K F H v (.bool b)) : v = .bl b := by
  rcases h with h | ⟨a, vs, ds, _, e, _⟩
  · cases h; rfl
  · cases e
theorem Vw.non (h : Vw K F H v .none) : v = .non := by
  rcases h with h | ⟨a, vs, ds, _, e, _⟩
  · cases h; rfl
  · cases e
theorem Vw.str {s : Str} (h : Vw K F H v (.str s)) : v = .str s := by
  rcases h with h | ⟨a, vs, ds, _, e, _⟩
  · cases h; rfl
  · cases e
theorem Vw.lst {ds : List PyData} (ex : Ex F H) (h : Vw K F H v (.list ds)) : ∃ a vs, v = .ref a ∧ SqL K H a vs ∧ DqAll K F vs ds := by
  rcases h with h | ⟨a, vs, ds', rfl, e, h1, h2⟩
  · cases h with
    | lst h1 h2 => exact ⟨_, _, rfl, ex_l ex h1, h2⟩
  · cases e
    exact ⟨a, vs, rfl, sq_of h1, h2⟩
theorem Vw.tup {ds : List PyData} (h : Vw K F H v (.tuple ds)) : ∃ a vs, v = .ref a ∧ SqT K F a vs ∧ DqAll K F vs ds := by
  rcases h with h | ⟨a, vs, ds', _, e, _⟩
  · cases h with
    | tup h1 h2 => exact ⟨_, _, rfl, h1, h2⟩
  · cases e
end
mutual
theorem Dq.plain {K : PySem.W.Frag} {F : Hp} : ∀ {x : PyData} {v : V}, Dq K F v x → x.plain = true
  | .none, _, _ => rfl
  | .bool _, _, _ => rfl
  | .int _, _, _ => rfl
  | .str _, _, _ => rfl
  | .list xs, _, h => by cases h with | lst _ h2 => exact DqAll.plain h2
  | .tuple xs, _, h => by cases h with | tup _ h2 => exact DqAll.plain h2
  | .dict _, _, h => by cases h
theorem DqAll.plain {K : PySem.W.Frag} {F : Hp} : ∀ {xs : List PyData} {vs : List V}, DqAll K F vs xs → PyData.plainAll xs = true
  | [], _, _ => rfl
  | x :: xs, _, h => by
    cases h with
    | cons h1 h2 => rw [PyData.plainAll, Dq.plain h1, DqAll.plain h2] <;> rfl
end
theorem DqAll.app {K : PySem.W.Frag} {F : Hp} : ∀ {xs ys : List PyData} {vs ws : List V}, DqAll K F vs xs → DqAll K F ws ys → DqAll K F (vs ++ ws) (xs ++ ys)
  | [], _, _, _, h, k => by cases h; exact k
  | x :: xs, _, _, _, h, k => by cases h with | cons h1 h2 => exact .cons h1 (DqAll.app h2 k)
theorem DqAll.take {K : PySem.W.Frag} {F : Hp} : ∀ {xs : List PyData} {vs : List V} (n : Nat), DqAll K F vs xs → DqAll K F (vs.take n) (xs.take n)
  | _, _, 0, _ => by rw [List.take_zero, List.take_zero]; exact .nil
  | [], _, n + 1, h => by cases h; exact .nil
  | x :: xs, _, n + 1, h => by cases h with | cons h1 h2 => exact .cons h1 (DqAll.take n h2)
theorem DqAll.drop {K : PySem.W.Frag} {F : Hp} : ∀ {xs : List PyData} {vs : List V} (n : Nat), DqAll K F vs xs → DqAll K F (vs.drop n) (xs.drop n)
  | _, _, 0, h => h
  | [], _, n + 1, h => by cases h; exact .nil
  | x :: xs, _, n + 1, h => by cases h with | cons h1 h2 => exact DqAll.drop n h2
theorem DqAll.get {K : PySem.W.Frag} {F : Hp} : ∀ {xs : List PyData} {vs : List V} {i : Nat} {x : PyData}, DqAll K F vs xs → xs[i]? = some x → ∃ v, vs[i]? = some v ∧ Dq K F v x
  | [], _, _, _, h, e => by cases e
  | y :: ys, _, 0, x, h, e => by
    cases h with
    | cons h1 h2 =>
      cases e
      exact ⟨_, rfl, h1⟩
  | y :: ys, _, i + 1, x, h, e => by
    cases h with
    | cons h1 h2 =>
      obtain ⟨v, q1, q2⟩ := DqAll.get (i := i) h2 (by simpa using e)
      exact ⟨v, by simpa using q1, q2⟩
theorem DqAll.set {K : PySem.W.Frag} {F : Hp} {v : V} {x : PyData} (r : Dq K F v x) : ∀ {xs : List PyData} {vs : List V} (i : Nat), DqAll K F vs xs → DqAll K F (vs.set i v) (xs.set i x)
  | [], _, _, h => by cases h; exact .nil
  | y :: ys, _, 0, h => by cases h with | cons h1 h2 => exact .cons r h2
  | y :: ys, _, i + 1, h => by cases h with | cons h1 h2 => exact .cons h1 (DqAll.set r i h2)
theorem DqAll.ints {K : PySem.W.Frag} {F : Hp} : ∀ {ns : List Int} {vs : List V}, DqAll K F vs (ns.map .int) → vs = ns.map .int
  | [], _, h => by cases h; rfl
  | n :: ns, _, h => by
    cases h with
    | cons h1 h2 =>
      cases h1
      rw [DqAll.ints h2, List.map_cons]
theorem DqAll.ofInts {K : PySem.W.Frag} {F : Hp} : ∀ ns : List Int, DqAll K F (ns.map V.int) (ns.map .int)
  | [] => .nil
  | n :: ns => .cons (.int n) (DqAll.ofInts ns)

/-! ### operations on two values -/
def rCan (g : Gp) (f : PyData → PyData → Option PyData) : R2 := fun x y H Q => ∃ F μ m dx dy z, Ok g F μ m H ∧ Vw g.K F H x dx ∧ Vw g.K F H y dy ∧ f dx dy = some z ∧
  ∀ v F' H', Gr F H m F' H' m → Ok g F' μ m H' → Dq g.K F' v z → Q v H'
def dOp (f : PyData → PyData → Option PyData) (da db : DE) : DE := fun ρ => bnd (da ρ) fun a => bnd (db ρ) fun b μ => match peek μ a, peek μ b with
  | some x, some y => (match f x y with
    | some z => .ok (.d z) μ
    | none => .stuck)
  | _, _ => .stuck
section
variable {X : Cx} {fa : Nat → V} {T : TZ} {W : WX}
theorem sim_op {g : Gp} {f : PyData → PyData → Option PyData} {da db : DE} : SimE g W (tOp (rCan g f) (canE g W da) (canE g W db)) (dOp f da db) := fun ρ μ m F σ H Q o r h =>
  useE o r h fun a μ1 v1 F1 H1 m1 e1 o1 r1 q1 p1 => useE o1 r1 p1 fun b μ2 v2 F2 H2 m2 e2 o2 r2 q2 p2 => by
    have q1' := q1.gr e2
    cases ea : peek μ2 a with
    | none =>
      simp only [ea] at p2
      exact p2.elim
    | some x =>
      cases eb : peek μ2 b with
      | none =>
        simp only [ea, eb] at p2
        exact p2.elim
      | some y =>
        simp only [ea, eb] at p2
        cases ef : f x y with
        | none =>
          rw [ef] at p2
          exact p2.elim
        | some z =>
          rw [ef] at p2
          exact ⟨F2, μ2, m2, x, y, z, o2, vw_of o2 q1' ea, vw_of o2 q2 eb, ef, fun v F' H' e' o' d' => p2 v F' H' m2 e' o' (.d d')⟩
theorem dp_op {op : Operator} {f : PyData → PyData → Option PyData} {a b : Expr} {da db : DE} {pos : Pos} (ho : OpR X (binaryOp op) (rCan (gp X fa T) f)) (ha : CE' X fa T W a da) (hb : CE' X fa T W b db) : CE' X fa T W (.BinOp a op b pos) (dOp f da db) :=
  mkE (pe_op ho ha hb) sim_op
theorem dp_cmp {op : CmpOp} {f : PyData → PyData → Option PyData} {a b : Expr} {da db : DE} {pos : Pos} (ho : OpR X (compareOp op) (rCan (gp X fa T) f)) (ha : CE' X fa T W a da) (hb : CE' X fa T W b db) (hm : behindInMarks op b = false) : CE' X fa T W (.Compare a [op] [b] pos) (dOp f da db) :=
  mkE (pe_cmpR ho ha hb hm) sim_op
theorem rp_bl {g : Gp} {F : Hp} {m : List Addr} {v : V} {b : Bool} (h : Rp g F m v (.d (.bool b))) : v = .bl b := by
  cases h with
  | d h => cases h; rfl
/-- a test of a truth value -/
def dTest (de : DE) : DT := fun ρ => bnd (de ρ) fun u => match u with
  | .d (.bool b) => pur b
  | _ => stk
theorem sim_tB {g : Gp} {de : DE} : SimT g W (tB (canE g W de)) (dTest de) := fun ρ μ m F σ H Q o r h =>
  useE o r h fun u μ1 v F1 H1 m1 e1 o1 r1 q1 p1 => by
    cases u with
    | d x =>
      cases x with
      | bool b => exact ⟨b, rp_bl q1, p1 b F1 H1 m1 (Gr.refl _ _ _) o1 rfl⟩
      | _ => exact p1.elim
    | _ => exact p1.elim
theorem sim_tTest {g : Gp} {t : TE} {de : DE} (s : SimE g W t de) : SimT g W (tTest t) (dTest de) := fun ρ μ m F σ H Q o r h => s ρ μ m F σ H _ o r (post_bnd h fun u μ1 v F1 H1 m1 _ e1 o1 q1 p1 => by
    have q1 : Rp g F1 m1 v u := q1
    cases u with
    | d x =>
      cases x with
      | bool b => exact ⟨b, rp_bl q1, p1 b F1 H1 m1 (Gr.refl _ _ _) o1 rfl⟩
      | _ => exact p1.elim
    | _ => exact p1.elim)
theorem dt_val {e : Expr} {de : DE} (h : CE' X fa T W e de) (he : ∀ whole, isTrue e X.env whole = (do let v ← whole; standAt e.pos; holding [v] (truthy v)) := by intro _; rfl) : CT' X fa T W e (dTest de) := mkT (pt_val h he) sim_tB
theorem dt_cmp {op : CmpOp} {f : PyData → PyData → Option PyData} {a b : Expr} {da db : DE} {pos : Pos} (ho : OpR X (compareOp op) (rCan (gp X fa T) f)) (ha : CE' X fa T W a da) (hb : CE' X fa T W b db) (hm : behindInMarks op b = false) : CT' X fa T W (.Compare a [op] [b] pos) (dTest (dOp f da db)) :=
  mkT (pt_cmpR ho ha hb hm) (sim_tTest sim_op)

/-! ### names, constants -/
def dV (i : Nat) : DE := fun ρ => match ρ[i]? with
  | some (some u) => pur u
  | _ => stk
def dC (x : PyData) : DE := fun _ => pur (.d x)
def dF (n : Nat) : DE := fun _ => pur (.fn n)
theorem dp_v (i : Nat) {x : Str} {pos : Pos} (hN : X.N[i]? = some x := by rfl) (hv : Vis X.env.scope x := by first | exact Or.inl rfl | exact Or.inr (Or.inl rfl) | exact Or.inr (Or.inr rfl)) (hd : (x == ("__debug__" : Str)) = false := by decide)
    (hcd : (x == ("__classdict__" : Str)) = false := by decide) : CE' X fa T W (.Name x pos) (dV i) := mkE (pe_var hN hv hd hcd) fun ρ μ m F σ H Q o r h => by
  unfold dV at h
  cases e : ρ[i]? with
  | none =>
    rw [e] at h
    exact h.elim
  | some w =>
    rw [e] at h
    cases w with
    | none => exact h.elim
    | some u =>
      obtain ⟨v, h1, h2⟩ := r.2 i u e
      exact ⟨v, h1, post_here h o h2⟩
theorem sim_c {g : Gp} {v : V} {x : PyData} (hx : ∀ F, Dq g.K F v x) : SimE g W (tC v) (dC x) := fun ρ μ m F σ H Q o r h => post_here h o (.d (hx F))
theorem dp_int {i : Int} {j : Nat} {pos : Pos} : CE' X fa T W (.Constant (.int i) j pos) (dC (.int i)) := mkE pe_int (sim_c fun _ => .int i)
theorem dp_bl {b : Bool} {j : Nat} {pos : Pos} : CE' X fa T W (.Constant (.bool b) j pos) (dC (.bool b)) := mkE pe_bl (sim_c fun _ => .bl b)
theorem dp_non {j : Nat} {pos : Pos} : CE' X fa T W (.Constant .none j pos) (dC .none) := mkE pe_non (sim_c fun _ => .non)
theorem dp_str {x : Str} {j : Nat} {pos : Pos} : CE' X fa T W (.Constant (.str x) j pos) (dC (.str x)) := mkE pe_str (sim_c fun _ => .str x)
/-- a module's number or text -/
theorem dp_gint {x : Str} {i : Int} {pos : Pos} (hg : Gl X x) (hm : ∃ t, X.mg x = some (.int i t)) (hd : (x == ("__debug__" : Str)) = false := by decide) : CE' X fa T W (.Name x pos) (dC (.int i)) := by
  obtain ⟨t, hm⟩ := hm
  exact mkE (pe_glob (v := .int i) hg hm ⟨t, rfl⟩ hd) (sim_c fun _ => .int i)
theorem dp_gstr {x z : Str} {pos : Pos} (hg : Gl X x) (hm : ∃ t, X.mg x = some (.str z t)) (hd : (x == ("__debug__" : Str)) = false := by decide) : CE' X fa T W (.Name x pos) (dC (.str z)) := by
  obtain ⟨t, hm⟩ := hm
  exact mkE (pe_glob (v := .str z) hg hm ⟨t, rfl⟩ hd) (sim_c fun _ => .str z)
/-- a module's def or class as a value -/
theorem dp_gfn {x : Str} {n : Nat} {f : Addr} {pos : Pos} (hg : Gl X x) (hm : X.mg x = some (.ref f)) (hf : fa n = .ref f) (hd : (x == ("__debug__" : Str)) = false := by decide) : CE' X fa T W (.Name x pos) (dF n) :=
  mkE (pe_glob (v := fa n) hg hm (by rw [hf]; rfl) hd) fun ρ μ m F σ H Q o r h => post_here h o .fn

/-! ### tests -/
def dAnd (a b : DT) : DT := fun ρ => bnd (a ρ) fun c => if c = true then b ρ else pur false
def dOr (a b : DT) : DT := fun ρ => bnd (a ρ) fun c => if c = true then pur true else b ρ
def dNot (a : DT) : DT := fun ρ => bnd (a ρ) fun c => pur (!c)
theorem sim_and {g : Gp} {da db : DT} : SimT g W (tAnd (canT g W da) (canT g W db)) (dAnd da db) := fun ρ μ m F σ H Q o r h => useT o r h fun c μ1 F1 H1 m1 e1 o1 r1 p1 => by
  cases c with
  | true => exact iteT ⟨ρ, μ1, m1, F1, o1, r1, p1⟩
  | false => exact iteF (post_here p1 o1 rfl)
theorem sim_or {g : Gp} {da db : DT} : SimT g W (tOr (canT g W da) (canT g W db)) (dOr da db) := fun ρ μ m F σ H Q o r h => useT o r h fun c μ1 F1 H1 m1 e1 o1 r1 p1 => by
  cases c with
  | true => exact iteT (post_here p1 o1 rfl)
  | false => exact iteF ⟨ρ, μ1, m1, F1, o1, r1, p1⟩
theorem dw_and1 {a : Expr} {da : DT} {pos : Pos} (ha : CT' X fa T W a da) : CW' X fa T W (.BoolOp .And [a] pos) da := pw_and1 ha
theorem dw_or1 {a : Expr} {da : DT} {pos : Pos} (ha : CT' X fa T W a da) : CW' X fa T W (.BoolOp .Or [a] pos) da := pw_or1 ha
theorem dw_and {a b : Expr} {rest : List Expr} {da db : DT} {pos : Pos} (ha : CT' X fa T W a da) (hb : CW' X fa T W (.BoolOp .And (b :: rest) pos) db) : CW' X fa T W (.BoolOp .And (a :: b :: rest) pos) (dAnd da db) := mkW (pw_and ha hb) sim_and
theorem dw_or {a b : Expr} {rest : List Expr} {da db : DT} {pos : Pos} (ha : CT' X fa T W a da) (hb : CW' X fa T W (.BoolOp .Or (b :: rest) pos) db) : CW' X fa T W (.BoolOp .Or (a :: b :: rest) pos) (dOr da db) := mkW (pw_or ha hb) sim_or
theorem dt_w {a : Expr} {da : DT} (h : CW' X fa T W a da) : CT' X fa T W a da := h.pt
theorem dt_not {a : Expr} {da : DT} {pos : Pos} (ha : CT' X fa T W a da) : CT' X fa T W (.UnaryOp .Not a pos) (dNot da) := mkT (pt_not ha) fun ρ μ m F σ H Q o r h => useT o r h fun c μ1 F1 H1 m1 e1 o1 r1 p1 => post_here p1 o1 rfl
/-- .. as values -/
def dAndV (a b : DE) : DE := fun ρ => bnd (a ρ) fun u => match u with
  | .d (.bool c) => if c = true then b ρ else pur (.d (.bool false))
  | _ => stk
def dOrV (a b : DE) : DE := fun ρ => bnd (a ρ) fun u => match u with
  | .d (.bool c) => if c = true then pur (.d (.bool true)) else b ρ
  | _ => stk
def dNotV (a : DE) : DE := fun ρ => bnd (a ρ) fun u => match u with
  | .d (.bool c) => pur (.d (.bool (!c)))
  | _ => stk
theorem dp_one {op : BoolOp} {a : Expr} {da : DE} {pos : Pos} (ha : CE' X fa T W a da) : CE' X fa T W (.BoolOp op [a] pos) da := pe_one ha
theorem dp_and {a b : Expr} {rest : List Expr} {da db : DE} {pos : Pos} (ha : CE' X fa T W a da) (hb : CE' X fa T W (.BoolOp .And (b :: rest) pos) db) : CE' X fa T W (.BoolOp .And (a :: b :: rest) pos) (dAndV da db) :=
  mkE (pe_and ha hb) fun ρ μ m F σ H Q o r h => useE o r h fun u μ1 v F1 H1 m1 e1 o1 r1 q1 p1 => by
    cases u with
    | d x =>
      cases x with
      | bool c =>
        refine ⟨c, rp_bl q1, ?_⟩
        cases c with
        | true => exact iteT ⟨ρ, μ1, m1, F1, o1, r1, p1⟩
        | false => exact iteF (post_here p1 o1 (.d (.bl false)))
      | _ => exact p1.elim
    | _ => exact p1.elim
theorem dp_or {a b : Expr} {rest : List Expr} {da db : DE} {pos : Pos} (ha : CE' X fa T W a da) (hb : CE' X fa T W (.BoolOp .Or (b :: rest) pos) db) : CE' X fa T W (.BoolOp .Or (a :: b :: rest) pos) (dOrV da db) :=
  mkE (pe_or ha hb) fun ρ μ m F σ H Q o r h => useE o r h fun u μ1 v F1 H1 m1 e1 o1 r1 q1 p1 => by
    cases u with
    | d x =>
      cases x with
      | bool c =>
        refine ⟨c, rp_bl q1, ?_⟩
        cases c with
        | true => exact iteT (post_here p1 o1 (.d (.bl true)))
        | false => exact iteF ⟨ρ, μ1, m1, F1, o1, r1, p1⟩
      | _ => exact p1.elim
    | _ => exact p1.elim
theorem dp_not {a : Expr} {da : DE} {pos : Pos} (ha : CE' X fa T W a da) : CE' X fa T W (.UnaryOp .Not a pos) (dNotV da) :=
  mkE (pe_not ha) fun ρ μ m F σ H Q o r h => useE o r h fun u μ1 v F1 H1 m1 e1 o1 r1 q1 p1 => by
    cases u with
    | d x =>
      cases x with
      | bool c => exact ⟨c, rp_bl q1, post_here p1 o1 (.d (.bl (!c)))⟩
      | _ => exact p1.elim
    | _ => exact p1.elim
def dIf (t : DT) (a b : DE) : DE := fun ρ => bnd (t ρ) fun c => if c = true then a ρ else b ρ
theorem dp_if {c a b : Expr} {dc : DT} {da db : DE} {pos : Pos} (hc : CT' X fa T W c dc) (ha : CE' X fa T W a da) (hb : CE' X fa T W b db) : CE' X fa T W (.IfExp c a b pos) (dIf dc da db) :=
  mkE (pe_ifExp hc ha hb) fun ρ μ m F σ H Q o r h => useT o r h fun u μ1 F1 H1 m1 e1 o1 r1 p1 => by
    cases u with
    | true => exact iteT ⟨ρ, μ1, m1, F1, o1, r1, p1⟩
    | false => exact iteF ⟨ρ, μ1, m1, F1, o1, r1, p1⟩

/-! ### arguments, displays -/
def dNil : DA := fun _ => pur []
def dCons (a : DE) (r : DA) : DA := fun ρ => bnd (a ρ) fun u => bnd (r ρ) fun us => pur (u :: us)
theorem da_nil : CA' X fa T W [] dNil := mkA pa_nil fun ρ μ m F σ H Q o r h => post_here h o .nil
theorem da_cons {e : Expr} {es : List Expr} {da : DE} {dr : DA} (ha : CE' X fa T W e da) (hr : CA' X fa T W es dr) (hs : starEach (e :: es) X.env = (false, eval e X.env) :: starEach es X.env := by rfl) : CA' X fa T W (e :: es) (dCons da dr) :=
  mkA (pa_cons ha hr hs) fun ρ μ m F σ H Q o r h => useE o r h fun u μ1 v F1 H1 m1 e1 o1 r1 q1 p1 => useA o1 r1 p1 fun us μ2 vs F2 H2 m2 e2 o2 r2 q2 p2 => post_here p2 o2 (.cons (q1.gr e2) q2)
/-- all data? -/
def allD : List U → Option (List PyData)
  | [] => some []
  | .d x :: r => (match allD r with
    | some xs => some (x :: xs)
    | none => none)
  | _ :: _ => none
def tupU (us : List U) : U := match allD us with
  | some xs => .d (.tuple xs)
  | none => .tu us
def lstU (us : List U) : U := match allD us with
  | some xs => .d (.list xs)
  | none => .li us
theorem allD_rp {g : Gp} {F : Hp} {m : List Addr} : ∀ {us : List U} {vs : List V} {xs : List PyData}, RpAll g F m vs us → allD us = some xs → DqAll g.K F vs xs
  | [], _, _, h, e => by cases h; cases e; exact .nil
  | .d x :: r, _, xs, h, e => by
    cases h with
    | cons h1 h2 =>
      cases h1 with
      | d h1 =>
        unfold allD at e
        cases er : allD r with
        | none =>
          rw [er] at e
          cases e
        | some ys =>
          rw [er] at e
          cases e
          exact .cons h1 (allD_rp h2 er)
  | .m _ :: _, _, _, _, e => by cases e
  | .fn _ :: _, _, _, _, e => by cases e
  | .tu _ :: _, _, _, _, e => by cases e
  | .li _ :: _, _, _, _, e => by cases e
theorem rp_tup {g : Gp} {F : Hp} {m : List Addr} {p : Addr} {us : List U} {vs : List V} (hp : F p = some (.tup vs)) (h : RpAll g F m vs us) : Rp g F m (.ref p) (tupU us) := by
  unfold tupU
  cases e : allD us with
  | none => exact .tu (st_of hp) h
  | some xs => exact .d (.tup (st_of hp) (allD_rp h e))
theorem rp_lst {g : Gp} {F : Hp} {m : List Addr} {p : Addr} {us : List U} {vs : List V} (hp : F p = some (.lst vs)) (h : RpAll g F m vs us) : Rp g F m (.ref p) (lstU us) := by
  unfold lstU
  cases e : allD us with
  | none => exact .li (sq_of hp) h
  | some xs => exact .d (.lst (sq_of hp) (allD_rp h e))
def big : Nat := 1000000
theorem big_line {n : Nat} (h : n ≤ big) : n ≤ sizeLine := Nat.le_trans h (by decide)
theorem big_lt {n : Nat} (h : n < big) : n < sizeLine := Nat.lt_of_lt_of_le h (by decide)
def dTup (a : DA) : DE := fun ρ => bnd (a ρ) fun us => if us.length ≤ big then pur (tupU us) else stk
def dLst (a : DA) : DE := fun ρ => bnd (a ρ) fun us => if us.length ≤ big then pur (lstU us) else stk
/-- a list that will be changed -/
def dLstM (a : DA) : DE := fun ρ => bnd (a ρ) fun us μ => match allD us with
  | some xs => if us.length ≤ big then .ok (.m μ.length) (μ ++ [.lst xs]) else .stuck
  | none => .stuck
theorem dp_tup {es : List Expr} {da : DA} {x1 : Nat} {pos : Pos} (h : CA' X fa T W es da) : CE' X fa T W (.Tuple es x1 pos) (dTup da) :=
  mkE (pe_tup h) fun ρ μ m F σ H Q o r h => useA o r h fun us μ1 vs F1 H1 m1 e1 o1 r1 q1 p1 => by
    by_cases hl : us.length ≤ big
    · rw [if_pos hl] at p1
      refine ⟨by rw [q1.len]; exact big_line hl, fun p hp => ?_⟩
      obtain ⟨o2, e2⟩ := o1.froz (u := .tup vs) hp (fun _ z => by cases z)
      exact p1 _ _ _ _ e2 o2 (rp_tup upd_same (q1.gr e2))
    · rw [if_neg hl] at p1
      exact p1.elim
theorem dp_lst {es : List Expr} {da : DA} {pos : Pos} (h : CA' X fa T W es da) : CE' X fa T W (.List es pos) (dLst da) :=
  mkE (pe_lst h) fun ρ μ m F σ H Q o r h => useA o r h fun us μ1 vs F1 H1 m1 e1 o1 r1 q1 p1 => by
    by_cases hl : us.length ≤ big
    · rw [if_pos hl] at p1
      refine ⟨by rw [q1.len]; exact big_line hl, fun p hp => ?_⟩
      obtain ⟨o2, e2⟩ := o1.froz (u := .lst vs) hp (fun _ z => by cases z)
      exact p1 _ _ _ _ e2 o2 (rp_lst upd_same (q1.gr e2))
    · rw [if_neg hl] at p1
      exact p1.elim
end
/-- a new object of the store -/
theorem Ok.alloc {g : Gp} {F H : Hp} {μ : List MO} {m : List Addr} {p : Addr} {u : HO} {mo : MO} (o : Ok g F μ m H) (hp : H p = none) (hu : ∀ ps, u ≠ .tbl ps) (hm : MoR g F (m ++ [p]) (upd H p u) p mo) :
    Ok g F (μ ++ [mo]) (m ++ [p]) (upd H p u) ∧ Gr F H m F (upd H p u) (m ++ [p]) := by
  have fp : F p = none := fresh_back o.ex hp
  have pm : p ∉ m := fun z => by
    obtain ⟨i, hi⟩ := List.getElem?_of_mem z
    have hl : i < μ.length := by
      rw [← o.len]
      exact (List.getElem?_eq_some_iff.mp hi).1
    obtain ⟨x, hx, _⟩ := (o.at_ i p _ hi (List.getElem?_eq_getElem hl)).there
    rw [hp] at hx
    cases hx
  have split : ∀ {i a}, (m ++ [p])[i]? = some a → (i < m.length ∧ m[i]? = some a) ∨ (i = m.length ∧ a = p) := fun {i a} h1 => by
    by_cases hi : i < m.length
    · rw [List.getElem?_append_left hi] at h1
      exact .inl ⟨hi, h1⟩
    · have hi2 : i = m.length := by
        have := (List.getElem?_eq_some_iff.mp h1).1
        rw [List.length_append, List.length_singleton] at this
        omega
      subst hi2
      rw [List.getElem?_append_right (Nat.le_refl _), Nat.sub_self] at h1
      cases h1
      exact .inr ⟨rfl, rfl⟩
  refine ⟨⟨fun b w e => ?_, ?_, ?_, fun i a w h1 h2 h3 => ?_, o.nt, fun i a w h1 h2 => ?_, o.tab.ext (Ex.new hp), fun q hq => ⟨by rw [upd_ne (ne_of_none (o.kn q hq).1 hp)]; exact (o.kn q hq).1, fun z => (List.mem_append.mp z).elim (o.kn q hq).2.1 fun z => ne_of_none (o.kn q hq).1 hp (List.mem_singleton.mp z), (o.kn q hq).2.2⟩, o.kp⟩, Ex.refl F, List.prefix_append _ _, fun b w h1 h2 h3 h4 => ⟨?_, h1, ?_⟩⟩
  · rw [upd_ne (ne_of_none (o.ex b w e) hp)]
    exact o.ex b w e
  · rw [List.length_append, List.length_append, o.len] <;> rfl
  · rw [List.nodup_append]
    refine ⟨o.nd, List.nodup_cons.mpr ⟨List.not_mem_nil, List.nodup_nil⟩, fun a ha b hb => ?_⟩
    rw [List.mem_singleton.mp hb]
    exact fun z => pm (by rw [← z]; exact ha)
  · rcases split h1 with ⟨hi, h1⟩ | ⟨hi, h1⟩
    · rw [List.getElem?_append_left (by rw [← o.len]; exact hi)] at h2
      exact o.nf i a w h1 h2 h3
    · rw [h1]
      exact fp
  · by_cases hi : i < m.length
    · rw [List.getElem?_append_left hi] at h1
      rw [List.getElem?_append_left (by rw [← o.len]; exact hi)] at h2
      exact (o.at_ i a w h1 h2).mo (Ex.refl F) (List.prefix_append _ _) fun x hx => by
        rw [upd_ne (ne_of_none hx hp)]
        exact hx
    · have hi2 : i = m.length := by
        have := (List.getElem?_eq_some_iff.mp h1).1
        rw [List.length_append, List.length_singleton] at this
        omega
      subst hi2
      rw [List.getElem?_append_right (Nat.le_refl _), Nat.sub_self] at h1
      rw [o.len, List.getElem?_append_right (Nat.le_refl _), Nat.sub_self] at h2
      cases h1
      cases h2
      exact hm
  · rw [upd_ne (ne_of_none h3 hp)]
    exact h3
  · intro z
    rcases List.mem_append.mp z with z | z
    · exact h2 z
    · rw [List.mem_singleton.mp z, hp] at h3
      cases h3
theorem rp_new {g : Gp} {F H : Hp} {μ : List MO} {m : List Addr} {p : Addr} (o : Ok g F μ m H) : Rp g F (m ++ [p]) (.ref p) (.m μ.length) := .m (by rw [← o.len, List.getElem?_append_right (Nat.le_refl _), Nat.sub_self]; rfl)
section
variable {X : Cx} {fa : Nat → V} {T : TZ} {W : WX}
theorem dp_lstM {es : List Expr} {da : DA} {pos : Pos} (h : CA' X fa T W es da) : CE' X fa T W (.List es pos) (dLstM da) :=
  mkE (pe_lst h) fun ρ μ m F σ H Q o r h => useA o r h fun us μ1 vs F1 H1 m1 e1 o1 r1 q1 p1 => by
    cases ea : allD us with
    | none =>
      simp only [ea] at p1
      exact p1.elim
    | some xs =>
      simp only [ea] at p1
      by_cases hl : us.length ≤ big
      · rw [if_pos hl] at p1
        refine ⟨by rw [q1.len]; exact big_line hl, fun p hp => ?_⟩
        obtain ⟨o2, e2⟩ := o1.alloc (u := .lst vs) (mo := .lst xs) hp (fun _ z => by cases z) ⟨vs, upd_same, allD_rp q1 ea⟩
        exact p1 _ _ _ _ e2 o2 (rp_new o1)
      · rw [if_neg hl] at p1
        exact p1.elim
end
end DL

/-! The data layer, part 3: operators on data. -/
namespace DL
open PySem PySem.Spec PyProof.Rows L2 Evl LamX

theorem rd_lst {X : Cx} {pins : List (Addr × Obj)} {σ : L2.St} {H : Hp} {s : Shared} {a : Addr} {xs : List V} (I : Inv X pins σ H s) (h : SqL X.K H a xs) :
    xs.length ≤ sizeLine ∧ ∃ (its : List Value) (n : Nat), Vals xs its ∧ xs.length = its.length ∧ ∃ o, s.heap.get? a = some o ∧ o.cls = .type "list" ∧ o.dict = none ∧ o.data = .seq its.toArray n := by
  obtain ⟨its, r, ⟨o, n, e, h1, h2, h3⟩, z⟩ := I.list h
  exact ⟨z, its, n, r, r.length, o, e, h1, h2, h3⟩
/-- list + list, known lists too -/
def rCatR (K : PySem.W.Frag) : R2 := fun x y H Q => ∃ l b xs zs, x = .ref l ∧ y = .ref b ∧ SqL K H l xs ∧ SqL K H b zs ∧ xs.length + zs.length ≤ sizeLine ∧ ∀ p, H p = none → Q (.ref p) (upd H p (.lst (xs ++ zs)))
theorem op_catR {X : Cx} : OpR X (binaryOp .Add) (rCatR X.K) := by
  intro pins s σ H x y v u Q I rx ry h
  obtain ⟨l, b, xs, zs, rfl, rfl, hH, hB, hz, q⟩ := h
  cases rx
  cases ry
  obtain ⟨z, its, n, r, hl, ⟨cls, dd, data, sl⟩, e, h1, h2, h3⟩ := rd_lst I hH
  obtain ⟨z2, its2, n2, r2, hl2, ⟨cls2, dd2, data2, sl2⟩, e2, h4, h5, h6⟩ := rd_lst I hB
  simp only at h1 h2 h3 h4 h5 h6
  subst h1 h2 h3 h4 h5 h6
  have ea : its.toArray ++ its2.toArray = (its ++ its2).toArray := by simp
  refine concat_meets ⟨_, e, rfl⟩ ⟨_, e2, rfl⟩ noFill_list_add seq_list_add PySem.F.slot_list_add PySem.F.entry_list_add (PySem.F.args_list_add_2 _ _) (PyProof.Rows.list_addW l b its.toArray its2.toArray n n2 none none sl sl2 (by simp only [List.size_toArray]; omega)) ⟨e, e2, ?_⟩
  rw [ea]
  exact ⟨.ref _, _, I.lnew (t' := s.toks) (r.append r2) (by rw [List.length_append]; omega), rfl, q _ I.fresh⟩
def rRepR (K : PySem.W.Frag) : R2 := fun x y H Q => ∃ l k xs, x = .ref l ∧ y = .int k ∧ SqL K H l xs ∧ -(2 ^ 63) ≤ k ∧ k < 2 ^ 63 ∧ xs.length * k.toNat ≤ sizeLine ∧
  ∀ p, H p = none → Q (.ref p) (upd H p (.lst (List.replicate k.toNat xs).flatten))
theorem int_rmulW (a : Int) (t : Tok) (l : Addr) (items : Array Value) (n : Nat) (dd : Option Addr) (sl : Array (Option Value)) :
    Meets (Builtin.«int.__rmul__» ⟨[.int a t, .ref l], []⟩) (fun _ R s => s.heap.get? l = some { cls := .type "list", dict := dd, data := .seq items n, slots := sl } ∧ R (.ok (.ret Value.notImplemented)) s) :=
  .of_wp fun prog w A R s h => by obtain ⟨hp, g, d, tk, os⟩ := s; obtain ⟨hl, h⟩ := h; wp_walk; exact ⟨_, rfl, h⟩
theorem list_mulW (l : Addr) (items : Array Value) (n : Nat) (dd : Option Addr) (sl : Array (Option Value)) (x : Int) (u : Tok) (hc0 : ¬(!Builtin.List.listFitsIndex x) = true) (hc1 : ¬items.size * x.toNat > (2 ^ 63 - 1) / 8) (hc2 : ¬Builtin.List.listTooLong (items.size * x.toNat) = true) :
    Meets (Builtin.«list.__mul__» ⟨[.ref l, .int x u], []⟩) (fun _ R s => s.heap.get? l = some { cls := .type "list", dict := dd, data := .seq items n, slots := sl } ∧ R (.ok (.ret (Value.ref s.heap.objs.size))) { s with heap := s.heap.push { cls := Value.type "list", data := Data.seq (List.foldl (fun x1 x2 => x1 ++ x2) #[] (List.replicate (if items.isEmpty = true then 0 else x.toNat) items)) }, toks := s.toks }) :=
  .of_wp fun prog w A R s h => by
    obtain ⟨hp, g, d, tk, os⟩ := s; obtain ⟨hl, h⟩ := h
    have hsz := AutoListH.joined_fits hc2
    wp_walk; refine wpAny_ite_false (decide_eq_false (Nat.not_lt.mpr hsz)) ?_; wp_walk; exact ⟨_, rfl, h⟩
theorem op_repR {X : Cx} : OpR X (binaryOp .Mult) (rRepR X.K) := by
  intro pins s σ H x y v u Q I rx ry h
  obtain ⟨l, k, xs, rfl, rfl, hH, h1, h2, hz, q⟩ := h
  cases rx
  obtain ⟨t, rfl⟩ := ry
  obtain ⟨z, its, n, r, hl, ⟨cls, dd, data, sl⟩, e, h1', h2', h3'⟩ := rd_lst I hH
  simp only at h1' h2' h3'
  subst h1' h2' h3'
  have hlen : its.toArray.size * k.toNat ≤ sizeLine := by rw [List.size_toArray, ← hl]; exact hz
  have hcap : ¬ its.toArray.size * k.toNat > (2 ^ 63 - 1) / 8 := by
    have : (sizeLine : Nat) ≤ (2 ^ 63 - 1) / 8 := by decide
    omega
  have hfit : ¬ (!Builtin.List.listFitsIndex k) = true := by
    rw [fitsIndex_both h1 h2]
    exact Bool.false_ne_true
  have hlong : ¬ Builtin.List.listTooLong (its.toArray.size * k.toNat) = true := by
    rw [notLongL hlen]
    exact Bool.false_ne_true
  have hnew : List.foldl (fun x1 x2 => x1 ++ x2) #[] (List.replicate (if its.toArray.isEmpty = true then 0 else k.toNat) its.toArray) = (List.replicate k.toNat its).flatten.toArray := by
    have f0 : ∀ m : Nat, List.foldl (fun x1 x2 => x1 ++ x2) #[] (List.replicate m its.toArray) = (List.replicate m its).flatten.toArray := fun m => by
      have := foldl_rep its m []
      rw [List.nil_append] at this
      exact this
    rw [f0]
    cases its with
    | nil => simp
    | cons a r' => rw [if_neg (by simp)]
  refine wpAny_binaryOp_repeat_ref (T := "list") (U := "int") (by decide) ⟨_, e, rfl⟩ (fun s' => typeIs_int s' k t) noFill_list_mul F.fills_int_mul F.slot_int_rmul repeat_list F.slot_int_index.lookup
    (call_meets F.slot_int_rmul (typeIs_int s k t) F.entry_int_rmul (F.args_int_rmul_2 _ _) (int_rmulW k t l its.toArray n none sl)
      ⟨e, rfl, ⟨_, e, rfl⟩, call_meets F.slot_list_mul ⟨_, e, rfl⟩ F.entry_list_mul (F.args_list_mul_2 _ _) (list_mulW l its.toArray n none sl k t hfit hcap hlong) ⟨e, ?_⟩⟩)
  rw [hnew]
  exact ⟨.ref _, _, I.lnew (t' := s.toks) (r.rep k.toNat) (by rw [PyProof.Rows.lm_len_rep_flat, Nat.mul_comm]; exact hz), rfl, q _ I.fresh⟩

theorem DqAll.rep {K : PySem.W.Frag} {F : Hp} {vs : List V} {xs : List PyData} (h : DqAll K F vs xs) : ∀ k : Nat, DqAll K F (List.replicate k vs).flatten (List.replicate k xs).flatten
  | 0 => .nil
  | k + 1 => by
    rw [List.replicate_succ, List.replicate_succ, List.flatten_cons, List.flatten_cons]
    exact h.app (DqAll.rep h k)

def addP : PyData → PyData → Option PyData
  | .int i, .int j => some (.int (i + j))
  | .list xs, .list ys => if xs.length + ys.length ≤ big then some (.list (xs ++ ys)) else none
  | .tuple xs, .tuple ys => if xs.length + ys.length ≤ big then some (.tuple (xs ++ ys)) else none
  | .str a, .str b => if a.length + b.length ≤ big then some (.str (a ++ b)) else none
  | _, _ => none
def subP : PyData → PyData → Option PyData
  | .int i, .int j => some (.int (i - j))
  | _, _ => none
/-- a number within 2 ^ 64 on one side, or both small enough -/
def mulOk (i j : Int) : Bool := decide ((-(2 ^ 64) < i ∧ i < 2 ^ 64) ∨ (-(2 ^ 64) < j ∧ j < 2 ^ 64) ∨ (i.natAbs < 2 ^ 400 ∧ j.natAbs < 2 ^ 400))
def mulP : PyData → PyData → Option PyData
  | .int i, .int j => if mulOk i j = true then some (.int (i * j)) else none
  | .list xs, .int k => if 0 ≤ k ∧ k < 1000 ∧ xs.length ≤ 1000 then some (.list (List.replicate k.toNat xs).flatten) else none
  | .tuple xs, .int k => if xs ≠ [] ∧ 2 ≤ k ∧ k ≤ 1000 ∧ xs.length ≤ 1000 then some (.tuple (List.replicate k.toNat xs).flatten) else none
  | _, _ => none
def divP : PyData → PyData → Option PyData
  | .int i, .int j => if 0 < j ∧ j.natAbs < 2 ^ 400 then some (.int (i / j)) else none
  | _, _ => none
def modP : PyData → PyData → Option PyData
  | .int i, .int j => if 0 < j then some (.int (i % j)) else none
  | _, _ => none
def powP : PyData → PyData → Option PyData
  | .int i, .int j => if 0 ≤ j ∧ j ≤ 1000 ∧ i.natAbs < 2 ^ 64 then some (.int (i ^ j.toNat)) else none
  | _, _ => none
section
variable {X : Cx} {fa : Nat → V} {T : TZ}
theorem op_addD : OpR X (binaryOp .Add) (rCan (gp X fa T) addP) := by
  intro pins s σ H x y v u Q I rx ry ⟨F, μ, m, dx, dy, z, o, hx, hy, e, k⟩
  cases dx with
  | int i =>
    cases dy with
    | int j =>
      cases e
      exact op_add pins s σ H x y v u Q I rx ry ⟨i, j, hx.int, hy.int, k _ F H (Gr.refl _ _ _) o (.int _)⟩
    | _ => cases e
  | list xs =>
    cases dy with
    | list ys =>
      obtain ⟨a, vs, ea, ha, ra⟩ := hx.lst o.ex
      obtain ⟨b, ws, eb, hb, rb⟩ := hy.lst o.ex
      have e : (if xs.length + ys.length ≤ big then some (PyData.list (xs ++ ys)) else none) = some z := e
      by_cases hl : xs.length + ys.length ≤ big
      · rw [if_pos hl] at e
        cases e
        refine op_catR pins s σ H x y v u Q I rx ry ⟨a, b, vs, ws, ea, eb, ha, hb, by rw [ra.len, rb.len]; exact big_line hl, fun p hp => ?_⟩
        obtain ⟨o2, e2⟩ := o.froz (u := .lst (vs ++ ws)) hp (fun _ z => by cases z)
        exact k _ _ _ e2 o2 (.lst (sq_of upd_same) (DqAll.mo e2.ef _ _ (ra.app rb)))
      · rw [if_neg hl] at e
        cases e
    | _ => cases e
  | tuple xs =>
    cases dy with
    | tuple ys =>
      obtain ⟨a, vs, ea, ha, ra⟩ := hx.tup
      obtain ⟨b, ws, eb, hb, rb⟩ := hy.tup
      have e : (if xs.length + ys.length ≤ big then some (PyData.tuple (xs ++ ys)) else none) = some z := e
      by_cases hl : xs.length + ys.length ≤ big
      · rw [if_pos hl] at e
        cases e
        refine op_catA pins s σ H x y v u Q I rx ry ⟨a, b, vs, ws, ea, eb, ex_t o.ex ha, ex_t o.ex hb, by rw [ra.len, rb.len]; exact big_line hl, fun h0 => ?_, fun h0 h1 => ?_, fun _ _ p hp => ?_⟩
        · subst h0
          cases ra
          exact k _ F H (Gr.refl _ _ _) o (.tup hb rb)
        · subst h1
          cases rb
          rw [List.append_nil] at k
          exact k _ F H (Gr.refl _ _ _) o (.tup ha ra)
        · obtain ⟨o2, e2⟩ := o.froz (u := .tup (vs ++ ws)) hp (fun _ z => by cases z)
          exact k _ _ _ e2 o2 (.tup (st_of upd_same) (DqAll.mo e2.ef _ _ (ra.app rb)))
      · rw [if_neg hl] at e
        cases e
    | _ => cases e
  | str a =>
    cases dy with
    | str b =>
      have e : (if a.length + b.length ≤ big then some (PyData.str (a ++ b)) else none) = some z := e
      by_cases hl : a.length + b.length ≤ big
      · rw [if_pos hl] at e
        cases e
        exact op_add_str pins s σ H x y v u Q I rx ry ⟨a, b, hx.str, hy.str, big_line hl, k _ F H (Gr.refl _ _ _) o (.str _)⟩
      · rw [if_neg hl] at e
        cases e
    | _ => cases e
  | _ => cases e
theorem op_subD : OpR X (binaryOp .Sub) (rCan (gp X fa T) subP) := by
  intro pins s σ H x y v u Q I rx ry ⟨F, μ, m, dx, dy, z, o, hx, hy, e, k⟩
  cases dx with
  | int i =>
    cases dy with
    | int j =>
      cases e
      exact op_sub pins s σ H x y v u Q I rx ry ⟨i, j, hx.int, hy.int, k _ F H (Gr.refl _ _ _) o (.int _)⟩
    | _ => cases e
  | _ => cases e
theorem op_mulD : OpR X (binaryOp .Mult) (rCan (gp X fa T) mulP) := by
  intro pins s σ H x y v u Q I rx ry ⟨F, μ, m, dx, dy, z, o, hx, hy, e, k⟩
  cases dx with
  | int i =>
    cases dy with
    | int j =>
      have e : (if mulOk i j = true then some (PyData.int (i * j)) else none) = some z := e
      by_cases hc : mulOk i j = true
      · rw [if_pos hc] at e
        cases e
        have hc := of_decide_eq_true (show decide _ = true from hc)
        rcases hc with hc | hc | hc
        · exact op_mul pins s σ H x y v u Q I rx ry ⟨i, j, hx.int, hy.int, .inl hc, k _ F H (Gr.refl _ _ _) o (.int _)⟩
        · exact op_mul pins s σ H x y v u Q I rx ry ⟨i, j, hx.int, hy.int, .inr hc, k _ F H (Gr.refl _ _ _) o (.int _)⟩
        · exact op_mulW pins s σ H x y v u Q I rx ry ⟨i, j, hx.int, hy.int, wide_mul hc.1 hc.2 (by decide) (by decide) (by decide), k _ F H (Gr.refl _ _ _) o (.int _)⟩
      · rw [if_neg hc] at e
        cases e
    | _ => cases e
  | list xs =>
    cases dy with
    | int n =>
      have e : (if 0 ≤ n ∧ n < 1000 ∧ xs.length ≤ 1000 then some (PyData.list (List.replicate n.toNat xs).flatten) else none) = some z := e
      by_cases hc : 0 ≤ n ∧ n < 1000 ∧ xs.length ≤ 1000
      · rw [if_pos hc] at e
        cases e
        obtain ⟨a, vs, ea, ha, ra⟩ := hx.lst o.ex
        refine op_repR pins s σ H x y v u Q I rx ry ⟨a, n, vs, ea, hy.int, ha, by omega, by omega, ?_, fun p hp => ?_⟩
        · rw [ra.len]
          have h1 : n.toNat ≤ 1000 := by omega
          have h2 : xs.length * n.toNat ≤ 1000 * 1000 := Nat.mul_le_mul hc.2.2 h1
          exact big_line h2
        · obtain ⟨o2, e2⟩ := o.froz (u := .lst (List.replicate n.toNat vs).flatten) hp (fun _ z => by cases z)
          exact k _ _ _ e2 o2 (.lst (sq_of upd_same) (DqAll.mo e2.ef _ _ (ra.rep _)))
      · rw [if_neg hc] at e
        cases e
    | _ => cases e
  | tuple xs =>
    cases dy with
    | int n =>
      have e : (if xs ≠ [] ∧ 2 ≤ n ∧ n ≤ 1000 ∧ xs.length ≤ 1000 then some (PyData.tuple (List.replicate n.toNat xs).flatten) else none) = some z := e
      by_cases hc : xs ≠ [] ∧ 2 ≤ n ∧ n ≤ 1000 ∧ xs.length ≤ 1000
      · rw [if_pos hc] at e
        cases e
        obtain ⟨a, vs, ea, ha, ra⟩ := hx.tup
        refine op_repT pins s σ H x y v u Q I rx ry ⟨a, n, vs, ea, hy.int, ex_t o.ex ha, fun z => hc.1 (by
          have := ra.len
          rw [z] at this
          exact List.eq_nil_of_length_eq_zero this.symm), hc.2.1, hc.2.2.1, by rw [ra.len]; exact hc.2.2.2, fun p hp => ?_⟩
        obtain ⟨o2, e2⟩ := o.froz (u := .tup (List.replicate n.toNat vs).flatten) hp (fun _ z => by cases z)
        exact k _ _ _ e2 o2 (.tup (st_of upd_same) (DqAll.mo e2.ef _ _ (ra.rep _)))
      · rw [if_neg hc] at e
        cases e
    | _ => cases e
  | _ => cases e
theorem op_divD : OpR X (binaryOp .FloorDiv) (rCan (gp X fa T) divP) := by
  intro pins s σ H x y v u Q I rx ry ⟨F, μ, m, dx, dy, z, o, hx, hy, e, k⟩
  cases dx with
  | int i =>
    cases dy with
    | int j =>
      have e : (if 0 < j ∧ j.natAbs < 2 ^ 400 then some (PyData.int (i / j)) else none) = some z := e
      by_cases hc : 0 < j ∧ j.natAbs < 2 ^ 400
      · rw [if_pos hc] at e
        cases e
        exact op_fdivW pins s σ H x y v u Q I rx ry ⟨i, j, hx.int, hy.int, wide_div hc.1 hc.2 (by decide) (by decide), k _ F H (Gr.refl _ _ _) o (.int _)⟩
      · rw [if_neg hc] at e
        cases e
    | _ => cases e
  | _ => cases e
theorem op_modD : OpR X (binaryOp .Mod) (rCan (gp X fa T) modP) := by
  intro pins s σ H x y v u Q I rx ry ⟨F, μ, m, dx, dy, z, o, hx, hy, e, k⟩
  cases dx with
  | int i =>
    cases dy with
    | int j =>
      have e : (if 0 < j then some (PyData.int (i % j)) else none) = some z := e
      by_cases hc : 0 < j
      · rw [if_pos hc] at e
        cases e
        exact op_mod pins s σ H x y v u Q I rx ry ⟨i, j, hx.int, hy.int, hc, k _ F H (Gr.refl _ _ _) o (.int _)⟩
      · rw [if_neg hc] at e
        cases e
    | _ => cases e
  | _ => cases e
theorem op_powD : OpR X (binaryOp .Pow) (rCan (gp X fa T) powP) := by
  intro pins s σ H x y v u Q I rx ry ⟨F, μ, m, dx, dy, z, o, hx, hy, e, k⟩
  cases dx with
  | int i =>
    cases dy with
    | int j =>
      have e : (if 0 ≤ j ∧ j ≤ 1000 ∧ i.natAbs < 2 ^ 64 then some (PyData.int (i ^ j.toNat)) else none) = some z := e
      by_cases hc : 0 ≤ j ∧ j ≤ 1000 ∧ i.natAbs < 2 ^ 64
      · rw [if_pos hc] at e
        cases e
        exact op_pow pins s σ H x y v u Q I rx ry ⟨i, j, hx.int, hy.int, ⟨hc.1, by omega, hc.2.2⟩, k _ F H (Gr.refl _ _ _) o (.int _)⟩
      · rw [if_neg hc] at e
        cases e
    | _ => cases e
  | _ => cases e
/-! ### one operand -/
def negP : PyData → Option PyData
  | .int i => some (.int (-i))
  | _ => none
def dUn (f : PyData → Option PyData) (da : DE) : DE := fun ρ => bnd (da ρ) fun u μ => match peek μ u with
  | some x => (match f x with
    | some z => .ok (.d z) μ
    | none => .stuck)
  | none => .stuck
theorem dp_neg {W : WX} {a : Expr} {da : DE} {pos : Pos} (ha : CE' X fa T W a da) : CE' X fa T W (.UnaryOp .USub a pos) (dUn negP da) :=
  mkE (pe_un un_neg ha) fun ρ μ m F σ H Q o r h => useE o r h fun u μ1 v F1 H1 m1 e1 o1 r1 q1 p1 => by
    cases ea : peek μ1 u with
    | none =>
      simp only [ea] at p1
      exact p1.elim
    | some x =>
      simp only [ea] at p1
      cases x with
      | int i => exact ⟨i, (vw_of o1 q1 ea).int, post_here p1 o1 (.d (.int _))⟩
      | _ => exact p1.elim

/-! ### comparisons -/
def cl (x y : PyData) : Bool := decide (min x.depth y.depth ≤ 100)
def eqP (x y : PyData) : Option PyData := if cl x y = true then some (.bool (PyData.eqv x y)) else none
def neP (x y : PyData) : Option PyData := if cl x y = true then some (.bool (!PyData.eqv x y)) else none
def numP (f : Int → Int → Bool) : PyData → PyData → Option PyData
  | .int i, .int j => some (.bool (f i j))
  | _, _ => none
def ltP : PyData → PyData → Option PyData := numP fun i j => decide (i < j)
def leP : PyData → PyData → Option PyData := numP fun i j => decide (i ≤ j)
def gtP : PyData → PyData → Option PyData := numP fun i j => decide (j < i)
def geP : PyData → PyData → Option PyData := numP fun i j => decide (j ≤ i)
def isNP : PyData → PyData → Option PyData
  | .none, .none => some (.bool true)
  | _, .none => some (.bool false)
  | .bool a, .bool b => some (.bool (decide (a = b)))
  | _, _ => none
def notNP : PyData → PyData → Option PyData
  | .none, .none => some (.bool false)
  | _, .none => some (.bool true)
  | .bool a, .bool b => some (.bool (!decide (a = b)))
  | _, _ => none
/-- the room that a comparison of data wants -/
theorem room100 {k : Nat} {A : Around} (hr : Room k A) : A.units + 110 < cLine := by have := hr.un; omega
theorem op_eqP (hu : X.A.units + 110 < cLine) : OpR X (compareOp .Eq) (rCan (gp X fa T) eqP) := by
  intro pins s σ H x y v u Q I rx ry ⟨F, μ, m, dx, dy, z, o, hx, hy, e, k⟩
  unfold eqP at e
  by_cases hc : cl dx dy = true
  · rw [if_pos hc] at e
    cases e
    have hc := of_decide_eq_true (show decide _ = true from hc)
    have hx := hx.dp o.ex
    have hy := hy.dp o.ex
    obtain ⟨as, r1⟩ := Dp.reads I _ _ _ (Dq.dp _ _ hx) rx
    obtain ⟨bs, r2⟩ := Dp.reads I _ _ _ (Dq.dp _ _ hy) ry
    exact PySem.SeqAt.eq_plain r1 r2 hx.plain hy.plain (by omega) ⟨.bl _, H, I, rfl, k _ F H (Gr.refl _ _ _) o (.bl _)⟩
  · rw [if_neg hc] at e
    cases e
theorem op_neP (hu : X.A.units + 110 < cLine) : OpR X (compareOp .NotEq) (rCan (gp X fa T) neP) := by
  intro pins s σ H x y v u Q I rx ry ⟨F, μ, m, dx, dy, z, o, hx, hy, e, k⟩
  unfold neP at e
  by_cases hc : cl dx dy = true
  · rw [if_pos hc] at e
    cases e
    have hc := of_decide_eq_true (show decide _ = true from hc)
    have hx := hx.dp o.ex
    have hy := hy.dp o.ex
    obtain ⟨as, r1⟩ := Dp.reads I _ _ _ (Dq.dp _ _ hx) rx
    obtain ⟨bs, r2⟩ := Dp.reads I _ _ _ (Dq.dp _ _ hy) ry
    exact PySem.SeqAt.ne_plain r1 r2 hx.plain hy.plain (by omega) ⟨.bl _, H, I, rfl, k _ F H (Gr.refl _ _ _) o (.bl _)⟩
  · rw [if_neg hc] at e
    cases e
theorem op_numP {op : CmpOp} {f : Int → Int → Bool} (ho : OpR X (compareOp op) (rI0 fun i j => .bl (f i j))) : OpR X (compareOp op) (rCan (gp X fa T) (numP f)) := by
  intro pins s σ H x y v u Q I rx ry ⟨F, μ, m, dx, dy, z, o, hx, hy, e, k⟩
  cases dx with
  | int i =>
    cases dy with
    | int j =>
      cases e
      exact ho pins s σ H x y v u Q I rx ry ⟨i, j, hx.int, hy.int, k _ F H (Gr.refl _ _ _) o (.bl _)⟩
    | _ => cases e
  | _ => cases e
theorem op_ltP : OpR X (compareOp .Lt) (rCan (gp X fa T) ltP) := op_numP op_lt
theorem op_leP : OpR X (compareOp .LtE) (rCan (gp X fa T) leP) := op_numP op_le
theorem op_gtP : OpR X (compareOp .Gt) (rCan (gp X fa T) gtP) := op_numP op_gt
theorem op_geP : OpR X (compareOp .GtE) (rCan (gp X fa T) geP) := op_numP op_ge
theorem Vw.notNon {K : PySem.W.Frag} {F H : Hp} {v : V} {x : PyData} (h : Vw K F H v x) : decide (v = .non) = (match x with
    | .none => true
    | _ => false) := by
  rcases h with h | ⟨a, vs, ds, rfl, rfl, h1, h2⟩
  · cases h <;> simp
  · simp
theorem op_isNP : OpR X (compareOp .Is) (rCan (gp X fa T) isNP) := by
  intro pins s σ H x y v u Q I rx ry ⟨F, μ, m, dx, dy, z, o, hx, hy, e, k⟩
  have hn := hx.notNon
  cases dy with
  | none =>
    refine op_isN pins s σ H x y v u Q I rx ry ⟨hy.non, ?_⟩
    rw [hn]
    cases dx <;> (cases e; exact k _ F H (Gr.refl _ _ _) o (.bl _))
  | bool b =>
    cases dx with
    | bool a =>
      cases e
      exact op_isBl pins s σ H x y v u Q I rx ry ⟨a, b, hx.bl, hy.bl, k _ F H (Gr.refl _ _ _) o (.bl _)⟩
    | _ => cases e
  | _ => cases dx <;> cases e
theorem op_notNP : OpR X (compareOp .IsNot) (rCan (gp X fa T) notNP) := by
  intro pins s σ H x y v u Q I rx ry ⟨F, μ, m, dx, dy, z, o, hx, hy, e, k⟩
  have hn := hx.notNon
  cases dy with
  | none =>
    refine op_notN pins s σ H x y v u Q I rx ry ⟨hy.non, ?_⟩
    rw [hn]
    cases dx <;> (cases e; exact k _ F H (Gr.refl _ _ _) o (.bl _))
  | bool b =>
    cases dx with
    | bool a =>
      cases e
      exact op_notBl pins s σ H x y v u Q I rx ry ⟨a, b, hx.bl, hy.bl, k _ F H (Gr.refl _ _ _) o (.bl _)⟩
    | _ => cases e
  | _ => cases dx <;> cases e
/-- x in xs, a list or a tuple of data -/
def inP (neg : Bool) (x : PyData) : PyData → Option PyData
  | .list xs => if decide (min (PyData.depthAll xs) x.depth ≤ 100) = true then some (.bool (if neg then !(xs.any fun y => PyData.eqv y x) else xs.any fun y => PyData.eqv y x)) else none
  | .tuple xs => if decide (min (PyData.depthAll xs) x.depth ≤ 100) = true then some (.bool (if neg then !(xs.any fun y => PyData.eqv y x) else xs.any fun y => PyData.eqv y x)) else none
  | _ => none
theorem op_inP (hu : X.A.units + 110 < cLine) : OpR X (compareOp .In) (rCan (gp X fa T) (inP false)) := by
  intro pins s σ H x y v u Q I rx ry ⟨F, μ, m, dx, dy, z, o, hx, hy, e, k⟩
  have hx := hx.dp o.ex
  have hy' := hy.dp o.ex
  obtain ⟨as, r1⟩ := Dp.reads I _ _ _ (Dq.dp _ _ hx) rx
  obtain ⟨bs, r2⟩ := Dp.reads I _ _ _ (Dq.dp _ _ hy') ry
  have hp := hy'.plain
  cases dy with
  | list xs =>
    have e : (if decide (min (PyData.depthAll xs) dx.depth ≤ 100) = true then some (PyData.bool (xs.any fun y => PyData.eqv y dx)) else none) = some z := e
    by_cases hc : decide (min (PyData.depthAll xs) dx.depth ≤ 100) = true
    · rw [if_pos hc] at e
      cases e
      have hc := of_decide_eq_true hc
      exact PySem.SeqAt.in_list_data r2 r1 hp hx.plain (by omega) ⟨.bl _, H, I, rfl, k _ F H (Gr.refl _ _ _) o (.bl _)⟩
    · rw [if_neg hc] at e
      cases e
  | tuple xs =>
    have e : (if decide (min (PyData.depthAll xs) dx.depth ≤ 100) = true then some (PyData.bool (xs.any fun y => PyData.eqv y dx)) else none) = some z := e
    by_cases hc : decide (min (PyData.depthAll xs) dx.depth ≤ 100) = true
    · rw [if_pos hc] at e
      cases e
      have hc := of_decide_eq_true hc
      exact PySem.SeqAt.in_tuple_data r2 r1 hp hx.plain (by omega) ⟨.bl _, H, I, rfl, k _ F H (Gr.refl _ _ _) o (.bl _)⟩
    · rw [if_neg hc] at e
      cases e
  | _ => cases e
theorem op_ninP (hu : X.A.units + 110 < cLine) : OpR X (compareOp .NotIn) (rCan (gp X fa T) (inP true)) := by
  intro pins s σ H x y v u Q I rx ry ⟨F, μ, m, dx, dy, z, o, hx, hy, e, k⟩
  have hx := hx.dp o.ex
  have hy' := hy.dp o.ex
  obtain ⟨as, r1⟩ := Dp.reads I _ _ _ (Dq.dp _ _ hx) rx
  obtain ⟨bs, r2⟩ := Dp.reads I _ _ _ (Dq.dp _ _ hy') ry
  have hp := hy'.plain
  cases dy with
  | list xs =>
    have e : (if decide (min (PyData.depthAll xs) dx.depth ≤ 100) = true then some (PyData.bool (!xs.any fun y => PyData.eqv y dx)) else none) = some z := e
    by_cases hc : decide (min (PyData.depthAll xs) dx.depth ≤ 100) = true
    · rw [if_pos hc] at e
      cases e
      have hc := of_decide_eq_true hc
      exact PySem.SeqAt.notIn_list_data r2 r1 hp hx.plain (by omega) ⟨.bl _, H, I, rfl, k _ F H (Gr.refl _ _ _) o (.bl _)⟩
    · rw [if_neg hc] at e
      cases e
  | tuple xs =>
    have e : (if decide (min (PyData.depthAll xs) dx.depth ≤ 100) = true then some (PyData.bool (!xs.any fun y => PyData.eqv y dx)) else none) = some z := e
    by_cases hc : decide (min (PyData.depthAll xs) dx.depth ≤ 100) = true
    · rw [if_pos hc] at e
      cases e
      have hc := of_decide_eq_true hc
      exact PySem.SeqAt.notIn_tuple_data r2 r1 hp hx.plain (by omega) ⟨.bl _, H, I, rfl, k _ F H (Gr.refl _ _ _) o (.bl _)⟩
    · rw [if_neg hc] at e
      cases e
  | _ => cases e
/-! ### chains of two comparisons -/
def opU (f : PyData → PyData → Option PyData) (a b : U) : M U := fun μ => match peek μ a, peek μ b with
  | some x, some y => (match f x y with
    | some z => .ok (.d z) μ
    | none => .stuck)
  | _, _ => .stuck
def dChain (f f' : PyData → PyData → Option PyData) (da db dc : DE) : DE := fun ρ => bnd (da ρ) fun a => bnd (db ρ) fun b => bnd (opU f a b) fun t => match t with
  | .d (.bool true) => bnd (dc ρ) fun c => opU f' b c
  | .d (.bool false) => pur (.d (.bool false))
  | _ => stk
theorem use_opU {g : Gp} {f : PyData → PyData → Option PyData} {a b : U} {x y : V} {β γ : Type} {R : Hp → List Addr → γ → β → Prop} {k : U → M β} {μ : List MO} {m : List Addr} {F H : Hp} {Q : γ → Hp → Prop} {Q' : VK} {WW : Value → Option Addr → Hp → Prop}
    (o : Ok g F μ m H) (ra : Rp g F m x a) (rb : Rp g F m y b) (h : Post g R (bnd (opU f a b) k μ) F H m Q WW)
    (kk : ∀ z v F1 H1, Gr F H m F1 H1 m → Ok g F1 μ m H1 → Dq g.K F1 v z → Post g R (k (.d z) μ) F1 H1 m Q WW → Q' v H1) : rCan g f x y H Q' := by
  unfold bnd opU at h
  cases ea : peek μ a with
  | none =>
    simp only [ea] at h
    exact h.elim
  | some dx =>
    cases eb : peek μ b with
    | none =>
      simp only [ea, eb] at h
      exact h.elim
    | some dy =>
      simp only [ea, eb] at h
      cases ef : f dx dy with
      | none =>
        simp only [ef] at h
        exact h.elim
      | some z =>
        simp only [ef] at h
        exact ⟨F, μ, m, dx, dy, z, o, vw_of o ra ea, vw_of o rb eb, ef, fun v F1 H1 e1 o1 d1 => kk z v F1 H1 e1 o1 d1 (h.gr e1)⟩
theorem sim_chain {g : Gp} {W : WX} {f f' : PyData → PyData → Option PyData} {da db dc : DE} : SimE g W (tChain (rCan g f) (rCan g f') (canE g W da) (canE g W db) (canE g W dc)) (dChain f f' da db dc) := fun ρ μ m F σ H Q o r h =>
  useE o r h fun a μ1 x F1 H1 m1 e1 o1 r1 q1 p1 => useE o1 r1 p1 fun b μ2 y F2 H2 m2 e2 o2 r2 q2 p2 => use_opU o2 (q1.gr e2) q2 p2 fun z v F3 H3 e3 o3 d3 p3 => by
    cases z with
    | bool t =>
      cases d3
      refine ⟨t, rfl, ?_⟩
      cases t with
      | true =>
        refine iteT (useE o3 (r2.gr e3) p3 fun c μ4 w F4 H4 m4 e4 o4 r4 q4 p4 => ?_)
        have p4' : Post g (RU g) (bnd (opU f' b c) pur μ4) F4 H4 m4 Q (fun c d H' => W c d σ H') := by
          rw [bnd_id]
          exact p4
        exact use_opU o4 ((q2.gr e3).gr e4) q4 p4' fun z v F5 H5 e5 o5 d5 p5 => post_here p5 o5 (.d d5)
      | false => exact iteF (post_here p3 o3 (.d (.bl false)))
    | _ => exact p3.elim
theorem dp_chain {W : WX} {op op' : CmpOp} {f f' : PyData → PyData → Option PyData} {a b c : Expr} {da db dc : DE} {pos : Pos} (ho : OpR X (compareOp op) (rCan (gp X fa T) f)) (ho' : OpR X (compareOp op') (rCan (gp X fa T) f')) (ha : CE' X fa T W a da) (hb : CE' X fa T W b db) (hc : CE' X fa T W c dc)
    (hm : lastMarks [op, op'] [b, c] = false := by with_unfolding_all rfl) : CE' X fa T W (.Compare a [op, op'] [b, c] pos) (dChain f f' da db dc) := mkE (pe_chain ho ho' ha hb hc hm) sim_chain
theorem dt_chain {W : WX} {op op' : CmpOp} {f f' : PyData → PyData → Option PyData} {a b c : Expr} {da db dc : DE} {pos : Pos} (ho : OpR X (compareOp op) (rCan (gp X fa T) f)) (ho' : OpR X (compareOp op') (rCan (gp X fa T) f')) (ha : CE' X fa T W a da) (hb : CE' X fa T W b db) (hc : CE' X fa T W c dc)
    (hm : lastMarks [op, op'] [b, c] = false := by with_unfolding_all rfl) : CT' X fa T W (.Compare a [op, op'] [b, c] pos) (dTest (dChain f f' da db dc)) := mkT (pt_chain ho ho' ha hb hc hm) (sim_tTest sim_chain)
end
end DL

/-! The data layer, part 4: items, slices, built-in calls. -/
namespace DL
open PySem PySem.Spec PyProof.Rows L2 Evl LamX

/-! ### items -/
def ixP : PyData → PyData → Option PyData
  | .list xs, .int i => atI xs i
  | .tuple xs, .int i => atI xs i
  | .str z, .int i => if z.length ≤ big then (atI z.cps.toList i).map fun c => .str ⟨#[c]⟩ else none
  | _, _ => none
theorem DqAll.atI {K : PySem.W.Frag} {F : Hp} {xs : List PyData} {vs : List V} {i : Int} {x : PyData} (h : DqAll K F vs xs) (e : L2.atI xs i = some x) : ∃ v, L2.atI vs i = some v ∧ Dq K F v x := by
  unfold L2.atI at e ⊢
  rw [h.len]
  cases q : ixN xs.length i with
  | none =>
    rw [q] at e
    cases e
  | some j =>
    rw [q] at e
    exact h.get e
section
variable {X : Cx} {fa : Nat → V} {T : TZ} {W : WX}
theorem ix_D : IxR X (rCan (gp X fa T) ixP) := by
  intro value slice pins s σ H x y v u Q I rx ry ⟨F, μ, m, dx, dy, z, o, hx, hy, e, k⟩ hs
  cases dx with
  | list xs =>
    cases dy with
    | int i =>
      obtain ⟨a, vs, ea, ha, ra⟩ := hx.lst o.ex
      obtain ⟨w, e1, e2⟩ := ra.atI e
      exact ix_list value slice pins s σ H x y v u Q I rx ry ⟨a, vs, i, w, ea, hy.int, ha, e1, k _ F H (Gr.refl _ _ _) o e2⟩ hs
    | _ => cases e
  | tuple xs =>
    cases dy with
    | int i =>
      obtain ⟨a, vs, ea, ha, ra⟩ := hx.tup
      obtain ⟨w, e1, e2⟩ := ra.atI e
      exact ix_tup value slice pins s σ H x y v u Q I rx ry ⟨a, vs, i, w, ea, hy.int, ex_t o.ex ha, e1, k _ F H (Gr.refl _ _ _) o e2⟩ hs
    | _ => cases e
  | str zz =>
    cases dy with
    | int i =>
      have e : (if zz.length ≤ big then (atI zz.cps.toList i).map fun c => PyData.str ⟨#[c]⟩ else none) = some z := e
      by_cases hl : zz.length ≤ big
      · rw [if_pos hl] at e
        cases ec : atI zz.cps.toList i with
        | none =>
          rw [ec] at e
          cases e
        | some c =>
          rw [ec] at e
          cases e
          exact ix_str value slice pins s σ H x y v u Q I rx ry ⟨zz, i, c, hx.str, hy.int, big_line hl, ec, k _ F H (Gr.refl _ _ _) o (.str _)⟩ hs
      · rw [if_neg hl] at e
        cases e
    | _ => cases e
  | _ => cases e
theorem dp_ix {a b : Expr} {da db : DE} {pos : Pos} (ha : CE' X fa T W a da) (hb : CE' X fa T W b db) (hs : PlainIx b := by exact fun _ _ => rfl) : CE' X fa T W (.Subscript a b pos) (dOp ixP da db) := mkE (pe_ix ix_D ha hb hs) sim_op
/-! ### slices -/
def cutL {α : Type} (xs : List α) (lo hi : Option Int) : List α := (xs.drop (HT.sIx xs.length 0 lo)).take (HT.sIx xs.length xs.length hi - HT.sIx xs.length 0 lo)
theorem DqAll.cut {K : PySem.W.Frag} {F : Hp} {xs : List PyData} {vs : List V} (h : DqAll K F vs xs) (lo hi : Option Int) : DqAll K F (cutV vs lo hi) (cutL xs lo hi) := by
  unfold cutV cutL
  rw [h.len]
  exact (h.drop _).take _
def slP (x : PyData) (lo hi : Option Int) : Option PyData := match x with
  | .list xs => some (.list (cutL xs lo hi))
  | .tuple xs => some (.tuple (cutL xs lo hi))
  | .str z => if z.length ≤ big then some (.str (cutS z lo hi)) else none
  | _ => none
def rSlCan (g : Gp) : V → Option Int → Option Int → Hp → VK → Prop := fun x lo hi H Q => ∃ F μ m dx z, Ok g F μ m H ∧ Vw g.K F H x dx ∧ slP dx lo hi = some z ∧ ∀ v F' H', Gr F H m F' H' m → Ok g F' μ m H' → Dq g.K F' v z → Q v H'
theorem sl_D : SlR X (rSlCan (gp X fa T)) := by
  intro pins s σ H x v vl vu lo hi sl Q I rx hs pl pu ⟨F, μ, m, dx, z, o, hx, e, k⟩
  cases dx with
  | list xs =>
    cases e
    obtain ⟨a, vs, ea, ha, ra⟩ := hx.lst o.ex
    refine sl_list pins s σ H x v vl vu lo hi sl Q I rx hs pl pu ⟨a, vs, ea, ha, fun p hp => ?_⟩
    obtain ⟨o2, e2⟩ := o.froz (u := .lst (cutV vs lo hi)) hp (fun _ z => by cases z)
    exact k _ _ _ e2 o2 (.lst (sq_of upd_same) (DqAll.mo e2.ef _ _ (ra.cut lo hi)))
  | tuple xs =>
    cases e
    obtain ⟨a, vs, ea, ha, ra⟩ := hx.tup
    refine sl_tupA pins s σ H x v vl vu lo hi sl Q I rx hs pl pu ⟨a, vs, ea, ex_t o.ex ha, fun hw => ?_, fun _ p hp => ?_⟩
    · have ec : cutL xs lo hi = xs := by
        unfold cutL
        rw [ra.len] at hw
        rw [hw.1, hw.2, List.drop_zero, Nat.sub_zero, List.take_length]
      rw [ec] at k
      exact k _ F H (Gr.refl _ _ _) o (.tup ha ra)
    · obtain ⟨o2, e2⟩ := o.froz (u := .tup (cutV vs lo hi)) hp (fun _ z => by cases z)
      exact k _ _ _ e2 o2 (.tup (st_of upd_same) (DqAll.mo e2.ef _ _ (ra.cut lo hi)))
  | str zz =>
    have e : (if zz.length ≤ big then some (PyData.str (cutS zz lo hi)) else none) = some z := e
    by_cases hl : zz.length ≤ big
    · rw [if_pos hl] at e
      cases e
      exact sl_str pins s σ H x v vl vu lo hi sl Q I rx hs pl pu ⟨zz, hx.str, big_line hl, k _ F H (Gr.refl _ _ _) o (.str _)⟩
    · rw [if_neg hl] at e
      cases e
  | _ => cases e
/-- a part of a slice -/
abbrev DO := Env' → M (Option Int)
abbrev RO : Hp → List Addr → Option Int → Option Int → Prop := fun _ _ a b => a = b
def dNo : DO := fun _ => pur none
def dPart (de : DE) : DO := fun ρ => bnd (de ρ) fun u => match u with
  | .d (.int i) => pur (some i)
  | _ => stk
def canO (g : Gp) (W : WX) (de : DO) : TO := fun σ H Q => ∃ ρ μ m F, Ok g F μ m H ∧ EnvR g F m σ ρ ∧ Post g RO (de ρ μ) F H m Q (fun c d H' => W c d σ H')
abbrev CO' (X : Cx) (fa : Nat → V) (T : TZ) (W : WX) (e : Option Expr) (de : DO) : Prop := PO X e (canO (gp X fa T) W de)
theorem useO {g : Gp} {de : DO} {β γ : Type} {R : Hp → List Addr → γ → β → Prop} {f : Option Int → M β} {ρ : Env'} {μ : List MO} {m : List Addr} {F H : Hp} {σ : L2.St} {Q : γ → Hp → Prop} {Q' : Option Int → Hp → Prop} (o : Ok g F μ m H) (r : EnvR g F m σ ρ)
    (h : Post g R (bnd (de ρ) f μ) F H m Q (fun c d H' => W c d σ H'))
    (k : ∀ u μ1 F1 H1 m1, Gr F H m F1 H1 m1 → Ok g F1 μ1 m1 H1 → EnvR g F1 m1 σ ρ → Post g R (f u μ1) F1 H1 m1 Q (fun c d H' => W c d σ H') → Q' u H1) : canO g W de σ H Q' :=
  ⟨ρ, μ, m, F, o, r, post_bnd h fun u μ1 v F1 H1 m1 _ e o1 rv p => by
    have rv : v = u := rv
    rw [rv]
    exact k u μ1 F1 H1 m1 e o1 (r.gr e) p⟩
theorem do_no : CO' X fa T W none dNo := ⟨fun pins s σ H Q I ⟨ρ, μ, m, F, o, r, p⟩ => po_none.run pins s σ H Q I (post_here p o rfl)⟩
theorem rp_int {g : Gp} {F : Hp} {m : List Addr} {v : V} {i : Int} (h : Rp g F m v (.d (.int i))) : v = .int i := by
  cases h with
  | d h => cases h; rfl
theorem do_part {e : Expr} {de : DE} (h : CE' X fa T W e de) : CO' X fa T W (some e) (dPart de) := ⟨fun pins s σ H Q I ⟨ρ, μ, m, F, o, r, p⟩ => (po_some h).run pins s σ H Q I (useE o r p fun u μ1 v F1 H1 m1 e1 o1 r1 q1 p1 => by
  cases u with
  | d x =>
    cases x with
    | int i => exact ⟨i, rp_int q1, post_here p1 o1 rfl⟩
    | _ => exact p1.elim
  | _ => exact p1.elim)⟩
def dSl (de : DE) (lo hi : DO) : DE := fun ρ => bnd (de ρ) fun u => bnd (lo ρ) fun l => bnd (hi ρ) fun h μ => match peek μ u with
  | some x => (match slP x l h with
    | some z => .ok (.d z) μ
    | none => .stuck)
  | none => .stuck
theorem dp_sl {e : Expr} {lo hi : Option Expr} {de : DE} {dl dh : DO} {p2 pos : Pos} (he : CE' X fa T W e de) (hl : CO' X fa T W lo dl) (hh : CO' X fa T W hi dh) : CE' X fa T W (.Subscript e (.Slice lo hi none p2) pos) (dSl de dl dh) :=
  mkE (pe_slice sl_D he hl hh) fun ρ μ m F σ H Q o r h => useE o r h fun u μ1 v F1 H1 m1 e1 o1 r1 q1 p1 => useO o1 r1 p1 fun l μ2 F2 H2 m2 e2 o2 r2 p2 => useO o2 r2 p2 fun hh μ3 F3 H3 m3 e3 o3 r3 p3 => by
    cases ea : peek μ3 u with
    | none =>
      simp only [ea] at p3
      exact p3.elim
    | some x =>
      simp only [ea] at p3
      cases es : slP x l hh with
      | none =>
        simp only [es] at p3
        exact p3.elim
      | some z =>
        simp only [es] at p3
        exact ⟨F3, μ3, m3, x, z, o3, vw_of o3 ((q1.gr e2).gr e3) ea, es, fun v' F' H' e' o' d' => p3 v' F' H' m3 e' o' (.d d')⟩


/-! ### a built-in called with one value -/
def rc1 (g : Gp) (f : PyData → Option PyData) : List V → Hp → VK → Prop := fun vs H Q => ∃ F μ m x dx z, vs = [x] ∧ Ok g F μ m H ∧ Vw g.K F H x dx ∧ f dx = some z ∧ ∀ v F' H', Gr F H m F' H' m → Ok g F' μ m H' → Dq g.K F' v z → Q v H'
theorem sim_c1 {g : Gp} {f : PyData → Option PyData} {de : DE} : SimE g W (tCB (rc1 g f) (canA g W (dCons de dNil))) (dUn f de) := fun ρ μ m F σ H Q o r h => by
  have h : Post g (RU g) (bnd (dCons de dNil ρ) (fun us μ => match us with
      | [u] => (match peek μ u with
        | some x => (match f x with
          | some z => .ok (.d z) μ
          | none => .stuck)
        | none => .stuck)
      | _ => .stuck) μ) F H m Q (fun c d H' => W c d σ H') := by
    have e : bnd (dCons de dNil ρ) (fun us μ => match us with
      | [u] => (match peek μ u with
        | some x => (match f x with
          | some z => .ok (.d z) μ
          | none => .stuck)
        | none => .stuck)
      | _ => .stuck) = dUn f de ρ := by
      unfold dCons dNil dUn
      rw [bnd_bnd]
      rfl
    rw [e]
    exact h
  exact useA o r h fun us μ1 vs F1 H1 m1 e1 o1 r1 q1 p1 => by
    cases q1 with
    | nil => exact p1.elim
    | cons q1 q2 =>
      cases q2 with
      | cons _ _ => exact p1.elim
      | nil =>
        rename_i x u
        have p1 : Post g (RU g) (match peek μ1 u with
          | some x => (match f x with
            | some z => Res.ok (U.d z) μ1
            | none => .stuck)
          | none => .stuck) F1 H1 m1 Q (fun c d H' => W c d σ H') := p1
        cases ea : peek μ1 u with
        | none =>
          simp only [ea] at p1
          exact p1.elim
        | some x =>
          simp only [ea] at p1
          cases es : f x with
          | none =>
            simp only [es] at p1
            exact p1.elim
          | some z =>
            simp only [es] at p1
            exact ⟨F1, μ1, m1, _, x, z, rfl, o1, vw_of o1 q1 ea, es, fun v' F' H' e' o' d' => p1 v' F' H' m1 e' o' (.d d')⟩
theorem dp_b1 {id : String} {x : Str} {f : PyData → Option PyData} {e : Expr} {de : DE} {p pos : Pos} (hc : CallR X (.builtin id) (rc1 (gp X fa T) f)) (he : CE' X fa T W e de) (hg : Gl X x) (hm : X.mg x = none) (hv : bootBuiltins x = some (.builtin id)) (hn : x ≠ "__name__" := by decide) (hdb : (x == ("__debug__" : Str)) = false := by decide)
    (hs : starEach [e] X.env = (false, eval e X.env) :: starEach [] X.env := by rfl) (hpl : (backTo pos (starEach [] X.env)).any (·.1) = false := by rfl) : CE' X fa T W (.Call (.Name x p) [e] [] pos) (dUn f de) :=
  mkE (pe_callB hc hg hm hv (da_cons he da_nil hs) hn hdb hs hpl) sim_c1
theorem dp_t1 {id : String} {x : Str} {f : PyData → Option PyData} {e : Expr} {de : DE} {p pos : Pos} (hc : CallR X (.type id) (rc1 (gp X fa T) f)) (he : CE' X fa T W e de) (hg : Gl X x) (hm : X.mg x = none) (hv : bootBuiltins x = some (.type id)) (hn : x ≠ "__name__" := by decide) (hdb : (x == ("__debug__" : Str)) = false := by decide)
    (hs : starEach [e] X.env = (false, eval e X.env) :: starEach [] X.env := by rfl) (hpl : (backTo pos (starEach [] X.env)).any (·.1) = false := by rfl) : CE' X fa T W (.Call (.Name x p) [e] [] pos) (dUn f de) :=
  mkE (pe_callTy hc hg hm hv (da_cons he da_nil hs) hn hdb hs hpl) sim_c1
/-- len -/
def lenP : PyData → Option PyData
  | .list xs => some (.int xs.length)
  | .tuple xs => some (.int xs.length)
  | .str z => if z.length ≤ big then some (.int z.length) else none
  | _ => none
theorem cr_lenP : CallR X (.builtin "len") (rc1 (gp X fa T) lenP) := by
  intro pins s σ H vs us Q I rs ⟨F, μ, m, x, dx, z, e0, o, hx, e, k⟩
  subst e0
  cases dx with
  | list xs =>
    cases e
    obtain ⟨a, ws, ea, ha, ra⟩ := hx.lst o.ex
    subst ea
    refine call_len_seq pins s σ H _ us Q I rs ⟨a, ws, rfl, .inl ha, ?_⟩
    rw [ra.len]
    exact k _ F H (Gr.refl _ _ _) o (.int _)
  | tuple xs =>
    cases e
    obtain ⟨a, ws, ea, ha, ra⟩ := hx.tup
    subst ea
    refine call_len_seq pins s σ H _ us Q I rs ⟨a, ws, rfl, .inr (ex_t o.ex ha), ?_⟩
    rw [ra.len]
    exact k _ F H (Gr.refl _ _ _) o (.int _)
  | str zz =>
    have e : (if zz.length ≤ big then some (PyData.int zz.length) else none) = some z := e
    by_cases hl : zz.length ≤ big
    · rw [if_pos hl] at e
      cases e
      have hx := hx.str
      subst hx
      exact call_len_str pins s σ H _ us Q I rs ⟨zz, rfl, big_line hl, k _ F H (Gr.refl _ _ _) o (.int _)⟩
    · rw [if_neg hl] at e
      cases e
  | _ => cases e
/-- int(n), int(flag) -/
def intP : PyData → Option PyData
  | .int i => some (.int i)
  | .bool b => some (.int (if b then 1 else 0))
  | _ => none
theorem cr_intP : CallR X (.type "int") (rc1 (gp X fa T) intP) := by
  intro pins s σ H vs us Q I rs ⟨F, μ, m, x, dx, z, e0, o, hx, e, k⟩
  subst e0
  cases dx with
  | int i =>
    cases e
    have hx := hx.int
    subst hx
    exact call_int1 pins s σ H _ us Q I rs (.inl ⟨i, rfl, k _ F H (Gr.refl _ _ _) o (.int _)⟩)
  | bool b =>
    cases e
    have hx := hx.bl
    subst hx
    exact call_int1 pins s σ H _ us Q I rs (.inr ⟨b, rfl, k _ F H (Gr.refl _ _ _) o (.int _)⟩)
  | _ => cases e
/-- bool(flag), bool(n) -/
def boolP : PyData → Option PyData
  | .int i => some (.bool (i != 0))
  | .bool b => some (.bool b)
  | _ => none
theorem cr_boolP : CallR X (.type "bool") (rc1 (gp X fa T) boolP) := by
  intro pins s σ H vs us Q I rs ⟨F, μ, m, x, dx, z, e0, o, hx, e, k⟩
  subst e0
  cases dx with
  | int i =>
    cases e
    have hx := hx.int
    subst hx
    exact call_bool1 pins s σ H _ us Q I rs (.inl ⟨i, rfl, k _ F H (Gr.refl _ _ _) o (.bl _)⟩)
  | bool b =>
    cases e
    have hx := hx.bl
    subst hx
    exact call_bool1 pins s σ H _ us Q I rs (.inr ⟨b, rfl, k _ F H (Gr.refl _ _ _) o (.bl _)⟩)
  | _ => cases e
/-- tuple(xs) -/
def tupP : PyData → Option PyData
  | .list xs => some (.tuple xs)
  | .tuple xs => some (.tuple xs)
  | _ => none
theorem cr_tupP : CallR X (.type "tuple") (rc1 (gp X fa T) tupP) := by
  intro pins s σ H vs us Q I rs ⟨F, μ, m, x, dx, z, e0, o, hx, e, k⟩
  subst e0
  cases dx with
  | list xs =>
    cases e
    obtain ⟨a, ws, ea, ha, ra⟩ := hx.lst o.ex
    subst ea
    refine call_tuple_of pins s σ H _ us Q I rs ⟨a, ws, rfl, .inl ⟨ha, fun p hp => ?_⟩⟩
    obtain ⟨o2, e2⟩ := o.froz (u := .tup ws) hp (fun _ z => by cases z)
    exact k _ _ _ e2 o2 (.tup (st_of upd_same) (DqAll.mo e2.ef _ _ ra))
  | tuple xs =>
    cases e
    obtain ⟨a, ws, ea, ha, ra⟩ := hx.tup
    subst ea
    exact call_tuple_of pins s σ H _ us Q I rs ⟨a, ws, rfl, .inr ⟨ex_t o.ex ha, k _ F H (Gr.refl _ _ _) o (.tup ha ra)⟩⟩
  | _ => cases e
/-- list(xs), never changed -/
def lstP : PyData → Option PyData
  | .list xs => some (.list xs)
  | .tuple xs => some (.list xs)
  | _ => none
theorem cr_lstP : CallR X (.type "list") (rc1 (gp X fa T) lstP) := by
  intro pins s σ H vs us Q I rs ⟨F, μ, m, x, dx, z, e0, o, hx, e, k⟩
  subst e0
  cases dx with
  | list xs =>
    cases e
    obtain ⟨a, ws, ea, ha, ra⟩ := hx.lst o.ex
    subst ea
    refine call_list_of pins s σ H _ us Q I rs ⟨a, ws, rfl, .inl ha, fun p hp => ?_⟩
    obtain ⟨o2, e2⟩ := o.froz (u := .lst ws) hp (fun _ z => by cases z)
    exact k _ _ _ e2 o2 (.lst (sq_of upd_same) (DqAll.mo e2.ef _ _ ra))
  | tuple xs =>
    cases e
    obtain ⟨a, ws, ea, ha, ra⟩ := hx.tup
    subst ea
    refine call_list_of pins s σ H _ us Q I rs ⟨a, ws, rfl, .inr (ex_t o.ex ha), fun p hp => ?_⟩
    obtain ⟨o2, e2⟩ := o.froz (u := .lst ws) hp (fun _ z => by cases z)
    exact k _ _ _ e2 o2 (.lst (sq_of upd_same) (DqAll.mo e2.ef _ _ ra))
  | _ => cases e
/-- ints out of data -/
def intsOf : List PyData → Option (List Int)
  | [] => some []
  | .int i :: r => (match intsOf r with
    | some ns => some (i :: ns)
    | none => none)
  | _ :: _ => none
theorem intsOf_eq : ∀ {xs : List PyData} {ns : List Int}, intsOf xs = some ns → xs = ns.map .int
  | [], _, e => by cases e; rfl
  | .int i :: r, ns, e => by
    unfold intsOf at e
    cases er : intsOf r with
    | none =>
      rw [er] at e
      cases e
    | some ms =>
      rw [er] at e
      cases e
      rw [intsOf_eq er, List.map_cons]
  | .none :: _, _, e => by cases e
  | .bool _ :: _, _, e => by cases e
  | .str _ :: _, _, e => by cases e
  | .list _ :: _, _, e => by cases e
  | .tuple _ :: _, _, e => by cases e
  | .dict _ :: _, _, e => by cases e
theorem intsOf_map : ∀ ns : List Int, intsOf (ns.map .int) = some ns
  | [] => rfl
  | n :: ns => by
    rw [List.map_cons, intsOf, intsOf_map ns]
/-- sum of ints -/
def sumP : PyData → Option PyData
  | .list xs => (intsOf xs).map fun ns => .int ns.sum
  | .tuple xs => (intsOf xs).map fun ns => .int ns.sum
  | _ => none
theorem sum_tuple_raw {prog : Program} {w : World} {A : Around} {E : Value → Shared → Prop} {s : Shared} {l : Addr} {its : List Value} {ns : List Int} {Q : Value → Shared → Prop} (hh : A.handled = none) (hl : s.heap.IsTuple l its.toArray) (hi : IntsAre its ns)
    (h : ∀ h' tk t', (∀ b o, s.heap.get? b = some o → h'.get? b = some o) → Q (.int ns.sum t') { s with heap := h', toks := tk }) : wpAny (model prog w) A (call (.builtin "sum") [.ref l]) Q E s := by
  obtain ⟨xs, e⟩ := hi.allInts.items
  have hn : numsOf (intItems xs).toList = ns := by rw [← e]; exact hi.numsOf
  rw [nums_intItems] at hn
  rw [e] at hl
  refine PySem.call_sum_walkAnyS (PySem.W.iter_tupleW (A := A.in1) hh hl fun s₂ es W st hfp hw hk => ?_)
  refine ⟨_, _, _, _, _, _, _, numAt xs, rfl, W, st, hfp, (fun _ _ => intItems_at), fun s' t' m => ?_⟩
  obtain ⟨h', tk, rfl, hk'⟩ := PySem.W.moved_old es rfl m
  have := h h' tk t' hk'
  have ez : (intItems xs).size = xs.size := by simp [intItems]
  rw [ez, preSum_eq, List.take_of_length_le (by simp), hn]
  exact this
theorem cr_sumP (hc : X.calm = true) : CallR X (.builtin "sum") (rc1 (gp X fa T) sumP) := by
  intro pins s σ H vs us Q I rs ⟨F, μ, m, x, dx, z, e0, o, hx, e, k⟩
  subst e0
  cases dx with
  | list xs =>
    have e : (intsOf xs).map (fun ns => PyData.int ns.sum) = some z := e
    cases en : intsOf xs with
    | none =>
      rw [en] at e
      cases e
    | some ns =>
      rw [en] at e
      cases e
      obtain ⟨a, ws, ea, ha, ra⟩ := hx.lst o.ex
      subst ea
      rw [intsOf_eq en] at ra
      rw [ra.ints] at ha
      exact cr_sum hc pins s σ H _ us Q I rs ⟨a, ns, rfl, ha, k _ F H (Gr.refl _ _ _) o (.int _)⟩
  | tuple xs =>
    have e : (intsOf xs).map (fun ns => PyData.int ns.sum) = some z := e
    cases en : intsOf xs with
    | none =>
      rw [en] at e
      cases e
    | some ns =>
      rw [en] at e
      cases e
      obtain ⟨a, ws, ea, ha, ra⟩ := hx.tup
      subst ea
      rw [intsOf_eq en] at ra
      rw [ra.ints] at ha
      obtain ⟨its, rv, hl, _⟩ := I.tuple (ex_t o.ex ha)
      rw [Vals.ref1 rs]
      exact sum_tuple_raw (I.ok.hd hc) hl rv.ints fun h' tk t' hk => ⟨.int _, H, I.kept hk, ⟨_, rfl⟩, k _ F H (Gr.refl _ _ _) o (.int _)⟩
  | _ => cases e
/-! ### all, min, max, sorted -/
def truB : PyData → Option Bool
  | .bool b => some b
  | _ => none
def bools : List PyData → Option (List Bool)
  | [] => some []
  | .bool b :: r => (match bools r with
    | some bs => some (b :: bs)
    | none => none)
  | _ :: _ => none
theorem bools_map : ∀ bs : List Bool, bools (bs.map .bool) = some bs
  | [] => rfl
  | n :: ns => by
    rw [List.map_cons, bools, bools_map ns]
theorem bools_vals {K : PySem.W.Frag} {F : Hp} : ∀ {xs : List PyData} {vs : List V} {bs : List Bool}, DqAll K F vs xs → bools xs = some bs → vs = bs.map V.bl
  | [], _, _, h, e => by cases h; cases e; rfl
  | .bool b :: r, _, bs, h, e => by
    cases h with
    | cons h1 h2 =>
      cases h1
      unfold bools at e
      cases er : bools r with
      | none =>
        rw [er] at e
        cases e
      | some cs =>
        rw [er] at e
        cases e
        rw [bools_vals h2 er, List.map_cons]
  | .none :: _, _, _, _, e => by cases e
  | .int _ :: _, _, _, _, e => by cases e
  | .str _ :: _, _, _, _, e => by cases e
  | .list _ :: _, _, _, _, e => by cases e
  | .tuple _ :: _, _, _, _, e => by cases e
  | .dict _ :: _, _, _, _, e => by cases e
def allP : PyData → Option PyData
  | .list xs => (bools xs).map fun bs => .bool (bs.all id)
  | _ => none
theorem cr_allP (hc : X.calm = true) : CallR X (.builtin "all") (rc1 (gp X fa T) allP) := by
  intro pins s σ H vs us Q I rs ⟨F, μ, m, x, dx, z, e0, o, hx, e, k⟩
  subst e0
  cases dx with
  | list xs =>
    have e : (bools xs).map (fun bs => PyData.bool (bs.all id)) = some z := e
    cases en : bools xs with
    | none =>
      rw [en] at e
      cases e
    | some bs =>
      rw [en] at e
      cases e
      obtain ⟨a, ws, ea, ha, ra⟩ := hx.lst o.ex
      subst ea
      rw [bools_vals ra en] at ha
      exact cr_all hc pins s σ H _ us Q I rs ⟨a, bs, rfl, ha, k _ F H (Gr.refl _ _ _) o (.bl _)⟩
  | _ => cases e
def notN : PyData → Bool
  | .none => false
  | _ => true
def alikeB (xs : List PyData) : Bool := (xs.all fun x => xs.all fun y => PySem.W.alike x y) && xs.all notN && decide (PyData.depthAll xs ≤ 100)
theorem alikeB_ok {xs : List PyData} (h : alikeB xs = true) : PySem.W.AlikeAll xs ∧ PyData.depthAll xs ≤ 100 := by
  unfold alikeB at h
  rw [Bool.and_eq_true, Bool.and_eq_true] at h
  refine ⟨⟨fun x hx y hy => List.all_eq_true.mp (List.all_eq_true.mp h.1.1 x hx) y hy, fun x hx e => ?_⟩, of_decide_eq_true h.2⟩
  have := List.all_eq_true.mp h.1.2 x hx
  rw [e] at this
  cases this
def minP : PyData → Option PyData
  | .list (x :: xs) => if alikeB (x :: xs) = true then some (PySem.W.minD x xs) else none
  | _ => none
def maxP : PyData → Option PyData
  | .list (x :: xs) => if alikeB (x :: xs) = true then some (PySem.W.maxD x xs) else none
  | _ => none
theorem readsAll_dq {pins : List (Addr × Obj)} {s : Shared} {σ : L2.St} {H : Hp} (I : Inv X pins σ H s) {xs : List PyData} {vs : List V} {us : List Value} (h : DqAll X.K H vs xs) (r : Vals vs us) : ∃ as, ReadsAll s.heap us xs as := Dp.readsAll I _ _ _ (DqAll.dp _ _ h) r
theorem item_of {F : Hp} {pins : List (Addr × Obj)} {s : Shared} {σ : L2.St} {H : Hp} (I : Inv X pins σ H s) (ex : Ex F H) {xs : List PyData} {vs : List V} {us : List Value} (h : DqAll X.K F vs xs) (r : Vals vs us) {i : Nat} {u : Value} {z : PyData} {bs : List Addr} {h' : Heap}
    (hu : us[i]? = some u) (hk : ∀ b o, s.heap.get? b = some o → h'.get? b = some o) (hz : Reads h' u z bs) (hp : z.plain = true) : ∃ v, RelV v u ∧ Dq X.K F v z := by
  have hi : i < xs.length := by
    rw [← h.len, r.length]
    exact (List.getElem?_eq_some_iff.mp hu).1
  obtain ⟨v, hv, dv⟩ := h.get (List.getElem?_eq_getElem hi)
  obtain ⟨u', hu', ru⟩ := r.get hv
  rw [hu] at hu'
  cases hu'
  obtain ⟨as, r2⟩ := Dp.reads I _ _ _ (Dq.dp _ _ (Dq.mo ex _ _ dv)) ru
  have e := PySem.SeqAt.plain_unique _ _ _ _ _ hp hz (PyProof.Rows.Reads.keeps hk r2)
  rw [e]
  exact ⟨v, ru, dv⟩
theorem fold_mem {f : PyData → PyData → PyData} (hf : ∀ a b, f a b = a ∨ f a b = b) : ∀ (xs : List PyData) (x : PyData), xs.foldl f x = x ∨ xs.foldl f x ∈ xs
  | [], x => .inl rfl
  | y :: ys, x => by
    rw [List.foldl_cons]
    rcases fold_mem hf ys (f x y) with h | h
    · rw [h]
      rcases hf x y with q | q
      · exact .inl q
      · rw [q]
        exact .inr List.mem_cons_self
    · exact .inr (List.mem_cons_of_mem _ h)
theorem plain_of_mem : ∀ {xs : List PyData} {x : PyData}, PyData.plainAll xs = true → x ∈ xs → x.plain = true
  | y :: ys, x, h, hm => by
    rw [PyData.plainAll, Bool.and_eq_true] at h
    rcases List.mem_cons.mp hm with rfl | hm
    · exact h.1
    · exact plain_of_mem h.2 hm
theorem minD_plain {x : PyData} {xs : List PyData} (h : PyData.plainAll (x :: xs) = true) : (PySem.W.minD x xs).plain = true := by
  rcases fold_mem (f := fun a y => if PySem.W.dataLt y a then y else a) (fun a b => by
    by_cases q : PySem.W.dataLt b a = true
    · exact .inr (if_pos q)
    · exact .inl (if_neg q)) xs x with e | e
  · unfold PySem.W.minD
    rw [e]
    exact plain_of_mem h List.mem_cons_self
  · exact plain_of_mem h (List.mem_cons_of_mem _ e)
theorem maxD_plain {x : PyData} {xs : List PyData} (h : PyData.plainAll (x :: xs) = true) : (PySem.W.maxD x xs).plain = true := by
  rcases fold_mem (f := fun a y => if PySem.W.dataLt a y then y else a) (fun a b => by
    by_cases q : PySem.W.dataLt a b = true
    · exact .inr (if_pos q)
    · exact .inl (if_neg q)) xs x with e | e
  · unfold PySem.W.maxD
    rw [e]
    exact plain_of_mem h List.mem_cons_self
  · exact plain_of_mem h (List.mem_cons_of_mem _ e)
theorem cr_minP (hc : X.calm = true) (hu : X.A.units + 110 < cLine) : CallR X (.builtin "min") (rc1 (gp X fa T) minP) := by
  intro pins s σ H vs us Q I rs ⟨F, μ, m, x, dx, z, e0, o, hx, e, k⟩
  subst e0
  cases dx with
  | list xs =>
    cases xs with
    | nil => cases e
    | cons y ys =>
      have e : (if alikeB (y :: ys) = true then some (PySem.W.minD y ys) else none) = some z := e
      by_cases hal : alikeB (y :: ys) = true
      · rw [if_pos hal] at e
        cases e
        obtain ⟨ha1, ha2⟩ := alikeB_ok hal
        obtain ⟨a, ws, ea, ha, ra⟩ := hx.lst o.ex
        subst ea
        obtain ⟨_, its, n, rv, _, ob, eo, eo1, eo2, eo3⟩ := rd_lst I ha
        obtain ⟨as, hr⟩ := readsAll_dq I (DqAll.mo o.ex _ _ ra) rv
        rw [Vals.ref1 rs]
        refine PySem.W.min_list_data (I.ok.hd hc) (vs := its.toArray) ⟨_, eo, eo1, n, eo3⟩ (by simpa using hr) ha1 (by omega) fun i v h' tk bs hi hz hk => ?_
        obtain ⟨vv, rvv, dv⟩ := item_of I o.ex ra rv (by simpa using hi) hk hz (minD_plain ra.plain)
        exact ⟨vv, H, I.kept hk, rvv, k _ F H (Gr.refl _ _ _) o dv⟩
      · rw [if_neg hal] at e
        cases e
  | _ => cases e
theorem cr_maxP (hc : X.calm = true) (hu : X.A.units + 110 < cLine) : CallR X (.builtin "max") (rc1 (gp X fa T) maxP) := by
  intro pins s σ H vs us Q I rs ⟨F, μ, m, x, dx, z, e0, o, hx, e, k⟩
  subst e0
  cases dx with
  | list xs =>
    cases xs with
    | nil => cases e
    | cons y ys =>
      have e : (if alikeB (y :: ys) = true then some (PySem.W.maxD y ys) else none) = some z := e
      by_cases hal : alikeB (y :: ys) = true
      · rw [if_pos hal] at e
        cases e
        obtain ⟨ha1, ha2⟩ := alikeB_ok hal
        obtain ⟨a, ws, ea, ha, ra⟩ := hx.lst o.ex
        subst ea
        obtain ⟨_, its, n, rv, _, ob, eo, eo1, eo2, eo3⟩ := rd_lst I ha
        obtain ⟨as, hr⟩ := readsAll_dq I (DqAll.mo o.ex _ _ ra) rv
        rw [Vals.ref1 rs]
        refine PySem.W.max_list_data (I.ok.hd hc) (vs := its.toArray) ⟨_, eo, eo1, n, eo3⟩ (by simpa using hr) ha1 (by omega) fun i v h' tk bs hi hz hk => ?_
        obtain ⟨vv, rvv, dv⟩ := item_of I o.ex ra rv (by simpa using hi) hk hz (maxD_plain ra.plain)
        exact ⟨vv, H, I.kept hk, rvv, k _ F H (Gr.refl _ _ _) o dv⟩
      · rw [if_neg hal] at e
        cases e
  | _ => cases e
end
end DL

/-! The data layer, part 5: the store changed; statements; what is walked; comprehensions. -/
namespace DL
open PySem PySem.Spec PyProof.Rows L2 Evl LamX

/-! ### the store changed -/
def Pl : HO → Prop
  | .lst _ => True
  | .dK _ => True
  | .ins _ _ _ => True
  | _ => False
theorem Pl.nt {u : HO} (h : Pl u) : ∀ ps, u ≠ .tbl ps := fun ps z => by rw [z] at h; exact h
theorem Pl.nc {u : HO} (h : Pl u) (c : Addr) (q : Str) : u ≠ CodeO c q := fun z => by rw [z] at h; exact h
theorem tabs_upd {T : List (Addr × Str)} {H : Hp} {a : Addr} {o u : HO} (t : Tabs T H) (ha : H a = some o) (pl : Pl o) : Tabs T (upd H a u) := fun p hp => by
  obtain ⟨ps, h1, h2, h3⟩ := t p hp
  have n1 : p.1 ≠ a := fun z => by
    rw [z, ha] at h1
    exact pl.nt ps (Option.some.inj h1)
  refine ⟨ps, by rw [upd_ne n1]; exact h1, h2, fun pos cv hc => ?_⟩
  obtain ⟨c, e1, e2⟩ := h3 pos cv hc
  have n2 : c ≠ a := fun z => by
    rw [z, ha] at e2
    exact pl.nc a p.2 (Option.some.inj e2)
  exact ⟨c, e1, by rw [upd_ne n2]; exact e2⟩
theorem kn_upd {K : List (Addr × HO)} {m : List Addr} {H : Hp} {a : Addr} {u : HO} (k : ∀ p ∈ K, H p.1 = some p.2 ∧ p.1 ∉ m ∧ ∃ z, p.2 = .ext z) (h : ∀ p ∈ K, p.1 ≠ a) : ∀ p ∈ K, upd H a u p.1 = some p.2 ∧ p.1 ∉ m ∧ ∃ z, p.2 = .ext z := fun p hp => ⟨by rw [upd_ne (h p hp)]; exact (k p hp).1, (k p hp).2⟩
theorem kn_pl {K : List (Addr × HO)} {m : List Addr} {H : Hp} {a : Addr} {o : HO} (k : ∀ p ∈ K, H p.1 = some p.2 ∧ p.1 ∉ m ∧ ∃ z, p.2 = .ext z) (ha : H a = some o) (pl : Pl o) : ∀ p ∈ K, p.1 ≠ a := fun p hp z => by
  obtain ⟨h1, _, w, h2⟩ := k p hp
  rw [z, ha, h2] at h1
  cases h1
  exact pl
theorem nd_at {m : List Addr} (h : m.Nodup) {i j : Nat} {a b : Addr} (ha : m[i]? = some a) (hb : m[j]? = some b) (e : a = b) : i = j := by
  obtain ⟨h1, e1⟩ := List.getElem?_eq_some_iff.mp ha
  obtain ⟨h2, e2⟩ := List.getElem?_eq_some_iff.mp hb
  exact (List.getElem_inj h).mp (by rw [e1, e2, e])
/-- a thing that is neither frozen nor of the store changes -/
theorem Ok.other {g : Gp} {F H : Hp} {μ : List MO} {m : List Addr} {a : Addr} {o u : HO} (k : Ok g F μ m H) (ha : H a = some o) (pl : Pl o) (hf : F a = none) (hm : a ∉ m) : Ok g F μ m (upd H a u) :=
  ⟨fun b w e => by
    have n : b ≠ a := fun z => by rw [z, hf] at e; cases e
    rw [upd_ne n]
    exact k.ex b w e, k.len, k.nd, k.nf, k.nt, fun i b w h1 h2 => (k.at_ i b w h1 h2).mo (Ex.refl F) List.prefix_rfl fun x hx => by
      have n : b ≠ a := fun z => hm (by rw [← z]; exact List.mem_of_getElem? h1)
      rw [upd_ne n]
      exact hx, tabs_upd k.tab ha pl, kn_upd k.kn (kn_pl k.kn ha pl), k.kp⟩
theorem Ok.put {g : Gp} {F H : Hp} {μ : List MO} {m : List Addr} {a : Addr} {n : Nat} {o u : HO} {mo mo' : MO} (k : Ok g F μ m H) (hn : m[n]? = some a) (hμ : μ[n]? = some mo) (hg : mo ≠ .gone) (ha : H a = some o) (pl : Pl o) (hm : MoR g F m (upd H a u) a mo') :
    Ok g F (μ.set n mo') m (upd H a u) ∧ Gr F H m F (upd H a u) m := by
  have hf : F a = none := k.nf n a mo hn hμ hg
  have am : a ∈ m := List.mem_of_getElem? hn
  refine ⟨⟨fun b w e => ?_, by rw [List.length_set]; exact k.len, k.nd, fun i b w h1 h2 h3 => ?_, k.nt, fun i b w h1 h2 => ?_, tabs_upd k.tab ha pl, kn_upd k.kn (kn_pl k.kn ha pl), k.kp⟩, Ex.refl F, List.prefix_rfl, fun b w h1 h2 h3 h4 => ⟨?_, h1, h2⟩⟩
  · have ne : b ≠ a := fun z => by rw [z, hf] at e; cases e
    rw [upd_ne ne]
    exact k.ex b w e
  · by_cases hi : n = i
    · subst hi
      rw [hn] at h1
      cases h1
      exact hf
    · rw [List.getElem?_set_ne hi] at h2
      exact k.nf i b w h1 h2 h3
  · by_cases hi : n = i
    · subst hi
      rw [hn] at h1
      cases h1
      rw [List.getElem?_set_self (List.getElem?_eq_some_iff.mp hμ).1] at h2
      cases h2
      exact hm
    · rw [List.getElem?_set_ne hi] at h2
      refine (k.at_ i b w h1 h2).mo (Ex.refl F) List.prefix_rfl fun x hx => ?_
      have ne : b ≠ a := fun z => hi (nd_at k.nd hn h1 z.symm)
      rw [upd_ne ne]
      exact hx
  · have ne : b ≠ a := fun z => h2 (by rw [z]; exact am)
    rw [upd_ne ne]
    exact h3
/-- a list of the store is frozen -/
theorem Ok.frozen {g : Gp} {F H : Hp} {μ : List MO} {m : List Addr} {a : Addr} {n : Nat} {ds : List PyData} (k : Ok g F μ m H) (hn : m[n]? = some a) (hμ : μ[n]? = some (.lst ds)) :
    ∃ vs, H a = some (.lst vs) ∧ DqAll g.K F vs ds ∧ Ok g (upd F a (.lst vs)) (μ.set n .gone) m H ∧ Gr F H m (upd F a (.lst vs)) H m := by
  obtain ⟨vs, h1, h2⟩ := k.at_ n a _ hn hμ
  have hf : F a = none := k.nf n a _ hn hμ (fun z => by cases z)
  have am : a ∈ m := List.mem_of_getElem? hn
  refine ⟨vs, h1, h2, ⟨fun b w e => ?_, by rw [List.length_set]; exact k.len, k.nd, fun i b w h1' h2' h3 => ?_, fun b ps e => ?_, fun i b w h1' h2' => ?_, k.tab, k.kn, g.T.z.mono _ _ (Ex.new hf) k.kp⟩, Ex.new hf, List.prefix_rfl, fun b w h1' h2' h3 h4 => ⟨h3, ?_, h2'⟩⟩
  · by_cases hb : b = a
    · rw [hb, upd_same] at e
      rw [hb, h1]
      exact e
    · rw [upd_ne hb] at e
      exact k.ex b w e
  · by_cases hi : n = i
    · subst hi
      rw [List.getElem?_set_self (List.getElem?_eq_some_iff.mp hμ).1] at h2'
      cases h2'
      exact absurd rfl h3
    · rw [List.getElem?_set_ne hi] at h2'
      have ne : b ≠ a := fun z => hi (nd_at k.nd hn h1' z.symm)
      rw [upd_ne ne]
      exact k.nf i b w h1' h2' h3
  · by_cases hb : b = a
    · rw [hb, upd_same] at e
      cases e
    · rw [upd_ne hb] at e
      exact k.nt b ps e
  · by_cases hi : n = i
    · subst hi
      rw [List.getElem?_set_self (List.getElem?_eq_some_iff.mp hμ).1] at h2'
      cases h2'
      rw [hn] at h1'
      cases h1'
      exact ⟨_, h1, (fun _ z => by cases z), fun _ z => by cases z⟩
    · rw [List.getElem?_set_ne hi] at h2'
      exact (k.at_ i b w h1' h2').mo (Ex.new hf) List.prefix_rfl fun x hx => hx
  · have ne : b ≠ a := fun z => h2' (by rw [z]; exact am)
    rw [upd_ne ne]
    exact h1'

/-! ### statements -/
def dSkip : DS := fun ρ => pur (.nx, ρ)
def dSeq (a b : DS) : DS := fun ρ => bnd (a ρ) fun r => match r with
  | (.nx, ρ') => b ρ'
  | r => pur r
def dAsg (i : Nat) (e : DE) : DS := fun ρ => bnd (e ρ) fun u => pur (.nx, ρ.set i (some u))
def dRet (e : DE) : DS := fun ρ => bnd (e ρ) fun u => pur (.ret u, ρ)
def dRetN : DS := fun ρ => pur (.ret (.d .none), ρ)
def dDrop (e : DE) : DS := fun ρ => bnd (e ρ) fun _ => pur (.nx, ρ)
def dIte (t : DT) (a b : DS) : DS := fun ρ => bnd (t ρ) fun c => if c = true then a ρ else b ρ
section
variable {X : Cx} {fa : Nat → V} {T : TZ} {W : WX} {g : Gp}
theorem EnvR.set {F : Hp} {m : List Addr} {σ : L2.St} {ρ : Env'} {v : V} {u : U} (r : EnvR g F m σ ρ) (h : Rp g F m v u) (i : Nat) : EnvR g F m (σ.set i (some v)) (ρ.set i (some u)) := by
  refine ⟨by rw [List.length_set, List.length_set]; exact r.1, fun j w e => ?_⟩
  by_cases hj : i = j
  · subst hj
    have hl : i < ρ.length := by
      have := (List.getElem?_eq_some_iff.mp e).1
      rw [List.length_set] at this
      exact this
    rw [List.getElem?_set_self hl] at e
    cases e
    exact ⟨v, by rw [List.getElem?_set_self (by rw [r.1]; exact hl)], h⟩
  · rw [List.getElem?_set_ne hj] at e
    obtain ⟨v', h1, h2⟩ := r.2 j w e
    exact ⟨v', by rw [List.getElem?_set_ne hj]; exact h1, h2⟩
/-- an expression, then the statement's end -/
theorem useES {de : DE} {f : U → M (Fl × Env')} {ρ : Env'} {μ : List MO} {m : List Addr} {F H : Hp} {σ : L2.St} {D : Ends} {Q' : VK} (o : Ok g F μ m H) (r : EnvR g F m σ ρ)
    (h : PostS g (bnd (de ρ) f μ) F H m ρ.length D W)
    (k : ∀ u μ1 v F1 H1 m1, Gr F H m F1 H1 m1 → Ok g F1 μ1 m1 H1 → EnvR g F1 m1 σ ρ → Rp g F1 m1 v u → PostS g (f u μ1) F1 H1 m1 ρ.length D W → Q' v H1) : canE g W de σ H Q' := by
  refine ⟨ρ, μ, m, F, o, r, ?_⟩
  unfold bnd at h
  cases e : de ρ μ with
  | ok a μ1 =>
    rw [e] at h
    exact fun b F1 H1 m1 gr o q => k a μ1 b F1 H1 m1 gr o (r.gr gr) q (h.gr gr)
  | err er μ1 =>
    rw [e] at h
    exact fun c d F' H' m' e' o' er' => h c d σ F' H' m' e' o' er' r.1
  | stuck =>
    rw [e] at h
    exact h
theorem useTS {de : DT} {f : Bool → M (Fl × Env')} {ρ : Env'} {μ : List MO} {m : List Addr} {F H : Hp} {σ : L2.St} {D : Ends} {Q' : Bool → Hp → Prop} (o : Ok g F μ m H) (r : EnvR g F m σ ρ)
    (h : PostS g (bnd (de ρ) f μ) F H m ρ.length D W)
    (k : ∀ u μ1 F1 H1 m1, Gr F H m F1 H1 m1 → Ok g F1 μ1 m1 H1 → EnvR g F1 m1 σ ρ → PostS g (f u μ1) F1 H1 m1 ρ.length D W → Q' u H1) : canT g W de σ H Q' := by
  refine ⟨ρ, μ, m, F, o, r, ?_⟩
  unfold bnd at h
  cases e : de ρ μ with
  | ok a μ1 =>
    rw [e] at h
    intro b F1 H1 m1 gr o q
    have q : b = a := q
    rw [q]
    exact k a μ1 F1 H1 m1 gr o (r.gr gr) (h.gr gr)
  | err er μ1 =>
    rw [e] at h
    exact fun c d F' H' m' e' o' er' => h c d σ F' H' m' e' o' er' r.1
  | stuck =>
    rw [e] at h
    exact h
theorem useAS {de : DA} {f : List U → M (Fl × Env')} {ρ : Env'} {μ : List MO} {m : List Addr} {F H : Hp} {σ : L2.St} {D : Ends} {Q' : List V → Hp → Prop} (o : Ok g F μ m H) (r : EnvR g F m σ ρ)
    (h : PostS g (bnd (de ρ) f μ) F H m ρ.length D W)
    (k : ∀ u μ1 v F1 H1 m1, Gr F H m F1 H1 m1 → Ok g F1 μ1 m1 H1 → EnvR g F1 m1 σ ρ → RpAll g F1 m1 v u → PostS g (f u μ1) F1 H1 m1 ρ.length D W → Q' v H1) : canA g W de σ H Q' := by
  refine ⟨ρ, μ, m, F, o, r, ?_⟩
  unfold bnd at h
  cases e : de ρ μ with
  | ok a μ1 =>
    rw [e] at h
    exact fun b F1 H1 m1 gr o q => k a μ1 b F1 H1 m1 gr o (r.gr gr) q (h.gr gr)
  | err er μ1 =>
    rw [e] at h
    exact fun c d F' H' m' e' o' er' => h c d σ F' H' m' e' o' er' r.1
  | stuck =>
    rw [e] at h
    exact h
theorem postS_nx {ρ : Env'} {μ : List MO} {F H : Hp} {m : List Addr} {n : Nat} {D : Ends} {σ : L2.St} (h : PostS g (.ok (.nx, ρ) μ) F H m n D W) (o : Ok g F μ m H) (r : EnvR g F m σ ρ) (hl : ρ.length = n) : D.nx σ H := h σ F H m (Gr.refl _ _ _) o r hl
theorem ds_skip : CSs X fa T W [] dSkip := mkSs pss_nil fun ρ μ m F σ H D o r h => postS_nx h o r rfl
theorem seq_sim {da db : DS} : SimS g W (tSeq (canS g W da) (canS g W db)) (dSeq da db) := fun ρ μ m F σ H D o r h => by
  refine ⟨ρ, μ, m, F, o, r, ?_⟩
  unfold dSeq bnd at h
  cases e : da ρ μ with
  | ok a μ1 =>
    rw [e] at h
    obtain ⟨fl, ρ1⟩ := a
    cases fl with
    | nx => exact fun σ1 F1 H1 m1 e1 o1 r1 hl => ⟨ρ1, μ1, m1, F1, o1, r1, by rw [hl]; exact h.gr e1⟩
    | brk => exact h
    | cnt => exact h
    | ret u => exact h
  | err er μ1 =>
    rw [e] at h
    exact h
  | stuck =>
    rw [e] at h
    exact h
theorem ds_seq {st : Stmt} {rest : List Stmt} {da db : DS} (h1 : CS' X fa T W st da) (h2 : CSs X fa T W rest db) : CSs X fa T W (st :: rest) (dSeq da db) := mkSs (pss_cons h1 h2) seq_sim
theorem ds_one {st : Stmt} {da : DS} (h1 : CS' X fa T W st da) : CSs X fa T W [st] da := pss_one h1
theorem ds_ret {e : Expr} {de : DE} {pos : Pos} (he : CE' X fa T W e de) : CS' X fa T W (.Return (some e) pos) (dRet de) := mkS (ps_ret he) fun ρ μ m F σ H D o r h => useES o r h fun u μ1 v F1 H1 m1 e1 o1 r1 q1 p1 => p1 v F1 H1 m1 (Gr.refl _ _ _) o1 q1
theorem ds_retN {pos : Pos} : CS' X fa T W (.Return none pos) dRetN := mkS ps_retN fun ρ μ m F σ H D o r h => h .non F H m (Gr.refl _ _ _) o (.d .non)
theorem ds_drop {e : Expr} {de : DE} {pos : Pos} (he : CE' X fa T W e de) (hs : swapsWith e none pos.line X.env = pure false := by rfl) : CS' X fa T W (.Expr e pos) (dDrop de) := mkS (ps_expr he hs) fun ρ μ m F σ H D o r h => useES o r h fun u μ1 v F1 H1 m1 e1 o1 r1 q1 p1 => postS_nx p1 o1 r1 rfl
theorem ds_pass {pos : Pos} : CS' X fa T W (.Pass pos) dSkip := mkS ps_pass fun ρ μ m F σ H D o r h => postS_nx h o r rfl
theorem ds_if {c : Expr} {a b : List Stmt} {dc : DT} {da db : DS} {pos : Pos} (hc : CT' X fa T W c dc) (ha : CSs X fa T W a da) (hb : CSs X fa T W b db) : CS' X fa T W (.If c a b pos) (dIte dc da db) :=
  mkS (ps_if hc ha hb) fun ρ μ m F σ H D o r h => useTS o r h fun c μ1 F1 H1 m1 e1 o1 r1 p1 => by
    cases c with
    | true => exact iteT ⟨ρ, μ1, m1, F1, o1, r1, p1⟩
    | false => exact iteF ⟨ρ, μ1, m1, F1, o1, r1, p1⟩
theorem asg_sim {i : Nat} {t : TE} {de : DE} (s : ∀ ρ μ m F σ H Q, Ok g F μ m H → EnvR g F m σ ρ → Post g (RU g) (de ρ μ) F H m Q (fun c d H' => W c d σ H') → t σ H Q) : SimS g W (tAsg t (gName i)) (dAsg i de) := fun ρ μ m F σ H D o r h => by
  refine s ρ μ m F σ H _ o r ?_
  have h : PostS g (bnd (de ρ) (fun u => pur (.nx, ρ.set i (some u))) μ) F H m ρ.length D W := h
  unfold bnd at h
  cases e : de ρ μ with
  | ok a μ1 =>
    rw [e] at h
    exact fun b F1 H1 m1 gr o q => h _ F1 H1 m1 gr o ((r.gr gr).set q i) (by rw [List.length_set])
  | err er μ1 =>
    rw [e] at h
    exact fun c d F' H' m' e' o' er' => h c d σ F' H' m' e' o' er' r.1
  | stuck =>
    rw [e] at h
    exact h
theorem canE_sim {de : DE} : SimE g W (canE g W de) de := fun ρ μ m F σ H Q o r h => ⟨ρ, μ, m, F, o, r, h⟩
theorem ds_set {i : Nat} {x : Str} {e : Expr} {de : DE} {pos' pos : Pos} (hN : X.N.Nodup) (hi : X.N[i]? = some x) (hx : Loc X.env.scope x) (he : CE' X fa T W e de) (hs : swapsWith e (some (.Name x pos')) pos.line X.env = pure false := by rfl)
    (hf : X.fn x = true ∨ X.env.scope.names.lookup x = some .local := by first | exact .inl rfl | exact .inr rfl) : CS' X fa T W (.Assign [.Name x pos'] e pos) (dAsg i de) := mkS (ps_set hN hi hx he hs hf) (asg_sim canE_sim)
/-! ### targets -/
/-- a target: what it does with a register, the slots it fills -/
structure DG where
  f : U → Env' → Option Env'
  ix : List Nat
  len : ∀ u ρ ρ', f u ρ = some ρ' → ρ'.length = ρ.length
def canG (g : Gp) (dg : DG) : TG := fun v σ H Q => ∃ F μ m u ρ ρ', Ok g F μ m H ∧ EnvR g F m σ ρ ∧ Rp g F m v u ∧ dg.f u ρ = some ρ' ∧ ∀ σ', EnvR g F m σ' ρ' → (∀ j, j ∉ dg.ix → σ'[j]? = σ[j]?) → Q σ' H
structure DGs where
  f : List U → Env' → Option Env'
  ix : List Nat
  len : ∀ u ρ ρ', f u ρ = some ρ' → ρ'.length = ρ.length
def canGs (g : Gp) (dg : DGs) : TGs := fun vs σ H Q => ∃ F μ m us ρ ρ', Ok g F μ m H ∧ EnvR g F m σ ρ ∧ RpAll g F m vs us ∧ dg.f us ρ = some ρ' ∧ ∀ σ', EnvR g F m σ' ρ' → (∀ j, j ∉ dg.ix → σ'[j]? = σ[j]?) → Q σ' H
abbrev CG' (X : Cx) (fa : Nat → V) (T : TZ) (e : Expr) (dg : DG) : Prop := PG X e (canG (gp X fa T) dg)
abbrev CGs (X : Cx) (fa : Nat → V) (T : TZ) (es : List Expr) (dg : DGs) : Prop := PGs X es (canGs (gp X fa T) dg)
def gN (i : Nat) : DG := ⟨fun u ρ => some (ρ.set i (some u)), [i], fun u ρ ρ' e => by cases e; rw [List.length_set]⟩
def gsNil : DGs := ⟨fun us ρ => match us with
  | [] => some ρ
  | _ => none, [], fun u ρ ρ' e => by cases u <;> cases e; rfl⟩
def gsConsF (a : DG) (r : DGs) : List U → Env' → Option Env'
  | u :: us, ρ => (match a.f u ρ with
    | some ρ' => r.f us ρ'
    | none => none)
  | [], _ => none
def gsCons (a : DG) (r : DGs) : DGs := ⟨gsConsF a r, a.ix ++ r.ix, fun u ρ ρ' e => by
  cases u with
  | nil => cases e
  | cons u us =>
    have e : (match a.f u ρ with
      | some ρ' => r.f us ρ'
      | none => none) = some ρ' := e
    cases ea : a.f u ρ with
    | none =>
      rw [ea] at e
      cases e
    | some ρ1 =>
      rw [ea] at e
      rw [r.len _ _ _ e, a.len _ _ _ ea]⟩
/-- (a, b, ..) = a tuple -/
def gTF (n : Nat) (r : DGs) : U → Env' → Option Env'
  | .d (.tuple xs), ρ => if xs.length = n then r.f (xs.map .d) ρ else none
  | .tu us, ρ => if us.length = n then r.f us ρ else none
  | _, _ => none
def gT (n : Nat) (r : DGs) : DG := ⟨gTF n r, r.ix, fun u ρ ρ' e => by
  unfold gTF at e
  split at e
  · split at e
    · exact r.len _ _ _ e
    · cases e
  · split at e
    · exact r.len _ _ _ e
    · cases e
  · cases e⟩
theorem dg_name {i : Nat} {x : Str} {pos : Pos} (hN : X.N.Nodup) (hi : X.N[i]? = some x) (hx : Loc X.env.scope x) (hf : X.fn x = true ∨ X.env.scope.names.lookup x = some .local := by first | exact .inl rfl | exact .inr rfl) : CG' X fa T (.Name x pos) (gN i) :=
  ⟨fun pins s σ H v u Q I rv ⟨F, μ, m, w, ρ, ρ', o, r, q, e, k⟩ => (pg_name hN hi hx hf).run pins s σ H v u Q I rv (by
    cases e
    exact k _ (r.set q i) fun j hj => List.getElem?_set_ne (fun z => hj (by rw [← z]; exact List.mem_singleton_self i)))⟩
theorem dgs_nil : CGs X fa T [] gsNil := ⟨fun pins s σ H vs us Q I rv ⟨F, μ, m, ws, ρ, ρ', o, r, q, e, k⟩ => pgs_nil.run pins s σ H vs us Q I rv (by
  cases q with
  | nil =>
    cases e
    exact ⟨rfl, k σ r fun _ _ => rfl⟩
  | cons _ _ => cases e)⟩
theorem dgs_cons {e : Expr} {es : List Expr} {dg : DG} {ds : DGs} (h1 : CG' X fa T e dg) (h2 : CGs X fa T es ds) (hs : (assignEach (e :: es) X.env).map (·.2) = assign e X.env :: (assignEach es X.env).map (·.2) := by rfl) : CGs X fa T (e :: es) (gsCons dg ds) :=
  ⟨fun pins s σ H vs us Q I rv ⟨F, μ, m, ws, ρ, ρ', o, r, q, e, k⟩ => (pgs_cons h1 h2 hs).run pins s σ H vs us Q I rv (by
    cases q with
    | nil => cases e
    | @cons v vr w wr q1 q2 =>
      have e : (match dg.f w ρ with
        | some ρ' => ds.f wr ρ'
        | none => none) = some ρ' := e
      cases ea : dg.f w ρ with
      | none =>
        rw [ea] at e
        cases e
      | some ρ1 =>
        rw [ea] at e
        exact ⟨v, vr, rfl, F, μ, m, w, ρ, ρ1, o, r, q1, ea, fun σ1 r1 k1 => ⟨F, μ, m, wr, ρ1, ρ', o, r1, q2, e, fun σ2 r2 k2 => k σ2 r2 fun j hj => (k2 j fun z => hj (List.mem_append_right _ z)).trans (k1 j fun z => hj (List.mem_append_left _ z))⟩⟩)⟩
theorem rp_ds {F : Hp} {m : List Addr} : ∀ {xs : List PyData} {vs : List V}, DqAll g.K F vs xs → RpAll g F m vs (xs.map .d)
  | [], _, h => by cases h; exact .nil
  | x :: xs, _, h => by cases h with | cons h1 h2 => exact .cons (.d h1) (rp_ds h2)
theorem dg_tup {es : List Expr} {k : Nat} {pos : Pos} {ds : DGs} {n : Nat} (hc : X.calm = true) (h : CGs X fa T es ds) (hn : (assignEach es X.env).length = n := by rfl) (hst : (assignEach es X.env).findIdx? (·.1) = none := by rfl) : CG' X fa T (.Tuple es k pos) (gT n ds) :=
  ⟨fun pins s σ H v u Q I rv ⟨F, μ, m, w, ρ, ρ', o, r, q, e, k⟩ => (pg_tup hc h hn hst).run pins s σ H v u Q I rv (by
    cases q with
    | @d v x q =>
      cases x with
      | tuple xs =>
        have e : (if xs.length = n then ds.f (xs.map .d) ρ else none) = some ρ' := e
        cases q with
        | tup q1 q2 =>
          by_cases hl : xs.length = n
          · rw [if_pos hl] at e
            exact ⟨_, _, rfl, ex_t o.ex q1, by rw [q2.len]; exact hl, F, μ, m, _, ρ, ρ', o, r, rp_ds q2, e, k⟩
          · rw [if_neg hl] at e
            cases e
      | _ => cases e
    | @tu a vs us q1 q2 =>
      have e : (if us.length = n then ds.f us ρ else none) = some ρ' := e
      by_cases hl : us.length = n
      · rw [if_pos hl] at e
        exact ⟨_, _, rfl, ex_t o.ex q1, by rw [q2.len]; exact hl, F, μ, m, _, ρ, ρ', o, r, q2, e, k⟩
      · rw [if_neg hl] at e
        cases e
    | m _ => cases e
    | fn => cases e
    | li _ _ => cases e)⟩
/-- a, b = e -/
def dUnp (dg : DG) (e : DE) : DS := fun ρ => bnd (e ρ) fun u => match dg.f u ρ with
  | some ρ' => pur (.nx, ρ')
  | none => stk
theorem unp_sim {dg : DG} {de : DE} : SimS g W (tAsg (canE g W de) (canG g dg)) (dUnp dg de) := fun ρ μ m F σ H D o r h => useES o r h fun u μ1 v F1 H1 m1 e1 o1 r1 q1 p1 => by
  cases e : dg.f u ρ with
  | none =>
    simp only [e] at p1
    exact p1.elim
  | some ρ' =>
    simp only [e] at p1
    exact ⟨F1, μ1, m1, u, ρ, ρ', o1, r1, q1, e, fun σ' r' _ => postS_nx p1 o1 r' (dg.len _ _ _ e)⟩
theorem ds_unp {tg e : Expr} {dg : DG} {de : DE} {pos : Pos} (he : CE' X fa T W e de) (hg : CG' X fa T tg dg) (hs : swapsWithSole [tg] e pos.line X.env = pure false := by rfl) (hw : swappedStores [tg] e X.env = pure none := by rfl)
    (h1 : (assignEach [tg] X.env).map (·.2) = [assign tg X.env] := by rfl) : CS' X fa T W (.Assign [tg] e pos) (dUnp dg de) := mkS (ps_asg he hg hs hw h1) unp_sim
/-- a, b = x, y and a, b, c = x, y, z with local names -/
def dPar (is : List Nat) (da : DA) : DS := fun ρ => bnd (da ρ) fun us => if us.length = is.length then pur (.nx, (is.zip us).foldl (fun r p => r.set p.1 (some p.2)) ρ) else stk
theorem ds_par2 {i j : Nat} {x y : Str} {a b : Expr} {da : DA} {px py pt pos : Pos} {kt k2 : Nat} {pt2 : Pos} (hc : X.calm = true) (hN : X.N.Nodup) (hi : X.N[i]? = some x) (hj : X.N[j]? = some y) (hij : i ≠ j)
    (hx : X.env.scope.names.lookup x = some .local) (hy : X.env.scope.names.lookup y = some .local) (ha : CA' X fa T W [a, b] da)
    (hw : swappedStores [.Tuple [.Name x px, .Name y py] kt pt] (.Tuple [a, b] k2 pt2) X.env = pure (some [x, y]) := by rfl)
    (hs : swapsWithSole [.Tuple [.Name x px, .Name y py] kt pt] (.Tuple [a, b] k2 pt2) pos.line X.env = pure false := by rfl) :
    CS' X fa T W (.Assign [.Tuple [.Name x px, .Name y py] kt pt] (.Tuple [a, b] k2 pt2) pos) (dPar [i, j] da) :=
  mkS (ps_par hc hN hi hj hij hx hy ha hw hs) fun ρ μ m F σ H D o r h => useAS o r h fun us μ1 vs F1 H1 m1 e1 o1 r1 q1 p1 => by
    cases q1 with
    | nil => exact p1.elim
    | cons q1 q2 =>
      cases q2 with
      | nil => exact p1.elim
      | cons q2 q3 =>
        cases q3 with
        | nil => exact ⟨_, _, rfl, postS_nx p1 o1 ((r1.set q1 i).set q2 j) (by simp [List.length_set])⟩
        | cons _ _ =>
          rw [if_neg (by simp)] at p1
          exact p1.elim
theorem ds_par3 {i j l : Nat} {x y z : Str} {a b c : Expr} {da : DA} {px py pz pt pos : Pos} {kt k2 : Nat} {pt2 : Pos} (hc : X.calm = true) (hN : X.N.Nodup) (hi : X.N[i]? = some x) (hj : X.N[j]? = some y) (hl : X.N[l]? = some z) (hij : i ≠ j) (hil : i ≠ l) (hjl : j ≠ l)
    (hx : X.env.scope.names.lookup x = some .local) (hy : X.env.scope.names.lookup y = some .local) (hz : X.env.scope.names.lookup z = some .local) (ha : CA' X fa T W [a, b, c] da)
    (hw : swappedStores [.Tuple [.Name x px, .Name y py, .Name z pz] kt pt] (.Tuple [a, b, c] k2 pt2) X.env = pure (some [x, y, z]) := by rfl)
    (hs : swapsWithSole [.Tuple [.Name x px, .Name y py, .Name z pz] kt pt] (.Tuple [a, b, c] k2 pt2) pos.line X.env = pure false := by rfl) :
    CS' X fa T W (.Assign [.Tuple [.Name x px, .Name y py, .Name z pz] kt pt] (.Tuple [a, b, c] k2 pt2) pos) (dPar [i, j, l] da) :=
  mkS (ps_par3 hc hN hi hj hl hij hil hjl hx hy hz ha hw hs) fun ρ μ m F σ H D o r h => useAS o r h fun us μ1 vs F1 H1 m1 e1 o1 r1 q1 p1 => by
    cases q1 with
    | nil => exact p1.elim
    | cons q1 q2 =>
      cases q2 with
      | nil => exact p1.elim
      | cons q2 q3 =>
        cases q3 with
        | nil => exact p1.elim
        | cons q3 q4 =>
          cases q4 with
          | nil => exact ⟨_, _, _, rfl, postS_nx p1 o1 (((r1.set q1 i).set q2 j).set q3 l) (by simp [List.length_set])⟩
          | cons _ _ =>
            rw [if_neg (by simp)] at p1
            exact p1.elim
end
end DL

/-! The data layer, part 6: what is walked, loops, comprehensions. -/
namespace DL
open PySem PySem.Spec PyProof.Rows L2 Evl LamX

/-! ### iterators -/
/-- J walks the registers us, as long as the frozen part stays -/
structure ItR (g : Gp) (J : It) (F : Hp) (m : List Addr) (us : List U) : Prop where
  stop : ∀ i F' H' μ' m', Ex F F' → m <+: m' → Ok g F' μ' m' H' → us.length ≤ i → J.stop i H'
  go : ∀ i F' H' μ' m', Ex F F' → m <+: m' → Ok g F' μ' m' H' → i < us.length → J.go i H'
  yld : ∀ i u x F' H' H2 μ' m', Ex F F' → m <+: m' → Ok g F' μ' m' H' → us[i]? = some u → J.yld i H' x H2 → ∃ F2, Gr F' H' m' F2 H2 m' ∧ Ok g F2 μ' m' H2 ∧ Rp g F2 m' x u
abbrev DI := Env' → M (List U)
abbrev RI (g : Gp) : Hp → List Addr → It → List U → Prop := fun F m J us => ItR g J F m us
def canI (g : Gp) (W : WX) (di : DI) : TI := fun σ H R => ∃ ρ μ m F, Ok g F μ m H ∧ EnvR g F m σ ρ ∧ Post g (RI g) (di ρ μ) F H m R (fun c d H' => W c d σ H')
abbrev CI' (X : Cx) (fa : Nat → V) (T : TZ) (W : WX) (tg e : Expr) (di : DI) : Prop := PI X tg e (canI (gp X fa T) W di)
section
variable {X : Cx} {fa : Nat → V} {T : TZ} {W : WX} {g : Gp}
theorem RpAll.get {F : Hp} {m : List Addr} : ∀ {us : List U} {vs : List V} {i : Nat} {u : U}, RpAll g F m vs us → us[i]? = some u → ∃ v, vs[i]? = some v ∧ Rp g F m v u
  | [], _, _, _, h, e => by cases e
  | y :: ys, _, 0, x, h, e => by
    cases h with
    | cons h1 h2 =>
      cases e
      exact ⟨_, rfl, h1⟩
  | y :: ys, _, i + 1, x, h, e => by
    cases h with
    | cons h1 h2 =>
      obtain ⟨v, q1, q2⟩ := RpAll.get (i := i) h2 (by simpa using e)
      exact ⟨v, by simpa using q1, q2⟩
theorem RpAll.app {F : Hp} {m : List Addr} : ∀ {xs ys : List U} {vs ws : List V}, RpAll g F m vs xs → RpAll g F m ws ys → RpAll g F m (vs ++ ws) (xs ++ ys)
  | [], _, _, _, h, k => by cases h; exact k
  | x :: xs, _, _, _, h, k => by cases h with | cons h1 h2 => exact .cons h1 (RpAll.app h2 k)
theorem itr_l {F : Hp} {m : List Addr} {a : Addr} {vs : List V} {us : List U} (h : SqL g.K F a vs) (r : RpAll g F m vs us) : ItR g (Itl g.K a) F m us where
  stop := fun i F' H' μ' m' e p o hi => ⟨vs, ex_l (e.trans o.ex) h, by rw [r.len]; exact hi⟩
  go := fun i F' H' μ' m' e p o hi => by
    obtain ⟨v, hv, _⟩ := r.get (List.getElem?_eq_getElem hi)
    exact ⟨vs, v, ex_l (e.trans o.ex) h, hv⟩
  yld := fun i u x F' H' H2 μ' m' e p o hu y => by
    obtain ⟨rfl, y⟩ := y
    obtain ⟨v, hv, rv⟩ := r.get hu
    have e1 := y vs (ex_l (e.trans o.ex) h)
    rw [hv] at e1
    cases e1
    exact ⟨F', Gr.refl _ _ _, o, Rp.mo e p _ _ rv⟩
theorem itr_t {F : Hp} {m : List Addr} {a : Addr} {vs : List V} {us : List U} (h : SqT g.K F a vs) (r : RpAll g F m vs us) : ItR g (Itt g.K a) F m us where
  stop := fun i F' H' μ' m' e p o hi => ⟨vs, ex_t (e.trans o.ex) h, by rw [r.len]; exact hi⟩
  go := fun i F' H' μ' m' e p o hi => by
    obtain ⟨v, hv, _⟩ := r.get (List.getElem?_eq_getElem hi)
    exact ⟨vs, v, ex_t (e.trans o.ex) h, hv⟩
  yld := fun i u x F' H' H2 μ' m' e p o hu y => by
    obtain ⟨rfl, y⟩ := y
    obtain ⟨v, hv, rv⟩ := r.get hu
    have e1 := y vs (ex_t (e.trans o.ex) h)
    rw [hv] at e1
    cases e1
    exact ⟨F', Gr.refl _ _ _, o, Rp.mo e p _ _ rv⟩
def rngU (lo : Int) (n : Nat) : List U := (List.range n).map fun (i : Nat) => .d (.int (lo + (i : Int)))
theorem itr_r {F : Hp} {m : List Addr} (lo : Int) (n : Nat) : ItR g (Itr lo n) F m (rngU lo n) where
  stop := fun i F' H' μ' m' e p o hi => by
    show n ≤ i
    simpa [rngU] using hi
  go := fun i F' H' μ' m' e p o hi => by
    show i < n
    simpa [rngU] using hi
  yld := fun i u x F' H' H2 μ' m' e p o hu y => by
    obtain ⟨rfl, rfl⟩ := y
    unfold rngU at hu
    rw [List.getElem?_map] at hu
    by_cases hi : i < n
    · rw [List.getElem?_range hi] at hu
      cases hu
      exact ⟨F', Gr.refl _ _ _, o, .d (.int _)⟩
    · rw [List.getElem?_eq_none (by simpa using hi)] at hu
      cases hu
theorem mkI {tg e : Expr} {t : TI} {di : DI} (h : PI X tg e t) (s : ∀ ρ μ m F σ H R, Ok (gp X fa T) F μ m H → EnvR (gp X fa T) F m σ ρ → Post (gp X fa T) (RI (gp X fa T)) (di ρ μ) F H m R (fun c d H' => W c d σ H') → t σ H R) : CI' X fa T W tg e di :=
  ⟨fun pins st σ H R I ⟨ρ, μ, m, F, o, r, p⟩ => h.run pins st σ H R I (s ρ μ m F σ H R o r p)⟩
/-- a list or tuple walked -/
def seqU : U → Option (List U)
  | .d (.list xs) => some (xs.map .d)
  | .d (.tuple xs) => some (xs.map .d)
  | .tu us => some us
  | .li us => some us
  | _ => none
def dSq (de : DE) : DI := fun ρ => bnd (de ρ) fun u => ofO (seqU u)
/-- over a list or a tuple -/
theorem di_seq {tg l : Expr} {dl : DE} (hl : CE' X fa T W l dl) : CI' X fa T W tg l (dSq dl) := ⟨fun pins s σ H R I ⟨ρ, μ, m, F, o, r, p⟩ => by
  have hh := hl.run pins s σ H (fun x H1 => ∃ μ1 F1 m1 u, Ok (gp X fa T) F1 μ1 m1 H1 ∧ Rp (gp X fa T) F1 m1 x u ∧ Post (gp X fa T) (RI (gp X fa T)) (ofO (seqU u) μ1) F1 H1 m1 R (fun c d H' => W c d σ H')) I
    (useE o r p fun u μ1 v F1 H1 m1 e1 o1 r1 q1 p1 => ⟨μ1, F1, m1, u, o1, q1, p1⟩)
  refine thn hh fun v s1 ⟨x, H1, I1, rv, μ1, F1, m1, u, o1, q1, p1⟩ => ?_
  obtain ⟨us, hu, p1⟩ := post_ofO p1
  have isL : ∀ a vs, x = .ref a → SqL X.K F1 a vs → RpAll (gp X fa T) F1 m1 vs us → wpAny (model X.prog X.w) X.A (pyIter v) (PIE X pins σ tg R) X.xe s1 := fun a vs ex hq ra => by
    subst ex
    cases rv
    obtain ⟨its, rv, p, hz⟩ := I1.list (ex_l o1.ex hq)
    refine wpAny_pyIter_list p.isList ?_
    refine ⟨s1.heap.objs.size, [s1.heap.objs.size], _, _, H1, rfl, I1.kept (t' := s1.toks) fun b o e => Heap.get?_push_of_some _ e, turn_list a _, ⟨_, Heap.get?_push_size _ rfl, rfl, rfl⟩, fun b hb => ?_, post_here p1 o1 (itr_l hq ra)⟩
    have e : b = s1.heap.objs.size := by simpa using hb
    subst e
    exact I1.fpOk (Nat.le_refl _) (I1.hok.fresh (Nat.le_refl _))
  have isT : ∀ a vs, x = .ref a → SqT X.K F1 a vs → RpAll (gp X fa T) F1 m1 vs us → wpAny (model X.prog X.w) X.A (pyIter v) (PIE X pins σ tg R) X.xe s1 := fun a vs ex hq ra => by
    subst ex
    cases rv
    obtain ⟨its, rv, p, hz⟩ := I1.tuple (ex_t o1.ex hq)
    refine wpAny_pyIter_tuple (show s1.heap.IsTuple a its.toArray from p) ?_
    refine ⟨s1.heap.objs.size, [s1.heap.objs.size], _, _, H1, rfl, I1.kept (t' := s1.toks) fun b o e => Heap.get?_push_of_some _ e, turn_tuple a _, ⟨_, Heap.get?_push_size _ rfl, rfl, rfl⟩, fun b hb => ?_, post_here p1 o1 (itr_t hq ra)⟩
    have e : b = s1.heap.objs.size := by simpa using hb
    subst e
    exact I1.fpOk (Nat.le_refl _) (I1.hok.fresh (Nat.le_refl _))
  cases q1 with
  | @d v x q1 =>
    cases q1 with
    | lst a1 a2 =>
      cases hu
      exact isL _ _ rfl a1 (rp_ds a2)
    | tup a1 a2 =>
      cases hu
      exact isT _ _ rfl a1 (rp_ds a2)
    | _ => cases hu
  | tu a1 a2 =>
    cases hu
    exact isT _ _ rfl a1 a2
  | li a1 a2 =>
    cases hu
    exact isL _ _ rfl a1 a2
  | m _ => cases hu
  | fn => cases hu⟩
/-- range(n), range(i, j) -/
def rng1 : List U → Option (List U)
  | [.d (.int j)] => if -(2 ^ 62) ≤ j ∧ j < 2 ^ 62 then some (rngU 0 j.toNat) else none
  | _ => none
def rng2 : List U → Option (List U)
  | [.d (.int i), .d (.int j)] => if -(2 ^ 62) ≤ i ∧ i < 2 ^ 62 ∧ -(2 ^ 62) ≤ j ∧ j < 2 ^ 62 then some (rngU i (j - i).toNat) else none
  | _ => none
def dR1 (da : DA) : DI := fun ρ => bnd (da ρ) fun us => ofO (rng1 us)
def dR2 (da : DA) : DI := fun ρ => bnd (da ρ) fun us => ofO (rng2 us)
theorem di_range1 {tg a : Expr} {da : DA} {p pos : Pos} (hg : Gl X "range") (hm : X.mg "range" = none) (ha : CA' X fa T W [a] da) (hs : starEach [a] X.env = [(false, eval a X.env)] := by rfl) : CI' X fa T W tg (.Call (.Name "range" p) [a] [] pos) (dR1 da) :=
  mkI (pi_range1 hg hm ha hs) fun ρ μ m F σ H R o r h => useA o r h fun us μ1 vs F1 H1 m1 e1 o1 r1 q1 p1 => by
    obtain ⟨l, hl, p1⟩ := post_ofO p1
    unfold rng1 at hl
    split at hl
    · split at hl
      · rename_i hb
        cases hl
        cases q1 with
        | cons q1 q2 =>
          cases q2
          rw [rp_int q1]
          exact ⟨_, rfl, hb.1, hb.2, post_here p1 o1 (itr_r 0 _)⟩
      · cases hl
    · cases hl
theorem di_range2 {tg a b : Expr} {da : DA} {p pos : Pos} (hg : Gl X "range") (hm : X.mg "range" = none) (ha : CA' X fa T W [a, b] da) (hs : starEach [a, b] X.env = [(false, eval a X.env), (false, eval b X.env)] := by rfl) (hs2 : starEach [b] X.env = [(false, eval b X.env)] := by rfl) : CI' X fa T W tg (.Call (.Name "range" p) [a, b] [] pos) (dR2 da) :=
  mkI (pi_range2 hg hm ha hs hs2) fun ρ μ m F σ H R o r h => useA o r h fun us μ1 vs F1 H1 m1 e1 o1 r1 q1 p1 => by
    obtain ⟨l, hl, p1⟩ := post_ofO p1
    unfold rng2 at hl
    split at hl
    · split at hl
      · rename_i hb
        cases hl
        cases q1 with
        | cons q1 q2 =>
          cases q2 with
          | cons q2 q3 =>
            cases q3
            rw [rp_int q1, rp_int q2]
            exact ⟨_, _, rfl, hb, post_here p1 o1 (itr_r _ _)⟩
      · cases hl
    · cases hl
/-- zip(xs, ys) of two lists or two tuples of data -/
def zipD (xs ys : List PyData) : List U := (xs.zip ys).map fun p => .d (.tuple [p.1, p.2])
def zipU : List U → Option (List U)
  | [.d (.list xs), .d (.list ys)] => some (zipD xs ys)
  | [.d (.tuple xs), .d (.tuple ys)] => some (zipD xs ys)
  | [.d (.tuple xs), .d (.list ys)] => some (zipD xs ys)
  | [.d (.list xs), .d (.tuple ys)] => some (zipD xs ys)
  | _ => none
def dZip (da : DA) : DI := fun ρ => bnd (da ρ) fun us => ofO (zipU us)
theorem zipD_len (xs ys : List PyData) : (zipD xs ys).length = min xs.length ys.length := by simp [zipD]
theorem zipD_get {xs ys : List PyData} {i : Nat} {u : U} (h : (zipD xs ys)[i]? = some u) : ∃ x y, xs[i]? = some x ∧ ys[i]? = some y ∧ u = .d (.tuple [x, y]) := by
  unfold zipD at h
  rw [List.getElem?_map] at h
  cases e : (xs.zip ys)[i]? with
  | none =>
    rw [e] at h
    cases h
  | some p =>
    rw [e] at h
    cases h
    have := List.getElem?_zip_eq_some.mp e
    exact ⟨_, _, this.1, this.2, rfl⟩
theorem zip_pair {F H : Hp} {μ : List MO} {m : List Addr} {p : Addr} {v w : V} {x y : PyData} (o : Ok g F μ m H) (hp : H p = none) (hv : Dq g.K F v x) (hw : Dq g.K F w y) : ∃ F2, Gr F H m F2 (upd H p (.tup [v, w])) m ∧ Ok g F2 μ m (upd H p (.tup [v, w])) ∧ Rp g F2 m (.ref p) (.d (.tuple [x, y])) := by
  obtain ⟨o2, e2⟩ := o.froz (u := .tup [v, w]) hp (fun _ z => by cases z)
  exact ⟨_, e2, o2, .d (.tup (st_of upd_same) (.cons (Dq.mo e2.ef _ _ hv) (.cons (Dq.mo e2.ef _ _ hw) .nil)))⟩
theorem ex_k {b : Bool} {K : PySem.W.Frag} {F H : Hp} {a : Addr} {vs : List V} (e : Ex F H) (h : ZK.SqK b K F a vs) : ZK.SqK b K H a vs := by
  cases b
  · exact ex_l e h
  · exact ex_t e h
theorem itr_zK {F : Hp} {m : List Addr} {b1 b2 : Bool} {a b : Addr} {vs ws : List V} {xs ys : List PyData} (h1 : ZK.SqK b1 g.K F a vs) (r1 : DqAll g.K F vs xs) (h2 : ZK.SqK b2 g.K F b ws) (r2 : DqAll g.K F ws ys) : ItR g (ZK.ItzK b1 b2 g.K a b) F m (zipD xs ys) where
  stop := fun i F' H' μ' m' e p o hi => ⟨vs, ws, ex_k (e.trans o.ex) h1, ex_k (e.trans o.ex) h2, by
    rw [zipD_len] at hi
    rw [r1.len, r2.len]
    omega⟩
  go := fun i F' H' μ' m' e p o hi => by
    rw [zipD_len] at hi
    obtain ⟨v, hv, _⟩ := r1.get (List.getElem?_eq_getElem (show i < xs.length by omega))
    obtain ⟨w, hw, _⟩ := r2.get (List.getElem?_eq_getElem (show i < ys.length by omega))
    exact ⟨vs, ws, v, w, ex_k (e.trans o.ex) h1, ex_k (e.trans o.ex) h2, hv, hw⟩
  yld := fun i u x F' H' H2 μ' m' e p o hu y => by
    obtain ⟨T, x', y', rfl, hT, rfl, f1, f2⟩ := y
    obtain ⟨dx, dy, hx, hy, rfl⟩ := zipD_get hu
    obtain ⟨v, hv, rv⟩ := r1.get hx
    obtain ⟨w, hw, rw'⟩ := r2.get hy
    have e1 := f1 vs (ex_k (e.trans o.ex) h1)
    have e2 := f2 ws (ex_k (e.trans o.ex) h2)
    rw [hv] at e1
    rw [hw] at e2
    cases e1
    cases e2
    exact zip_pair o hT (Dq.mo e _ _ rv) (Dq.mo e _ _ rw')
theorem rp_dl {F : Hp} {m : List Addr} {v : V} {xs : List PyData} (h : Rp g F m v (.d (.list xs))) : ∃ a vs, v = .ref a ∧ SqL g.K F a vs ∧ DqAll g.K F vs xs := by
  cases h with
  | d h => cases h with | lst h1 h2 => exact ⟨_, _, rfl, h1, h2⟩
theorem rp_dt {F : Hp} {m : List Addr} {v : V} {xs : List PyData} (h : Rp g F m v (.d (.tuple xs))) : ∃ a vs, v = .ref a ∧ SqT g.K F a vs ∧ DqAll g.K F vs xs := by
  cases h with
  | d h => cases h with | tup h1 h2 => exact ⟨_, _, rfl, h1, h2⟩
theorem di_zip {a b : Expr} {da : DA} {elts : List Expr} {kk : Nat} {p pos tpos : Pos} (hg : Gl X "zip") (hm : X.mg "zip" = none) (ha : CA' X fa T W [a, b] da)
    (hs : starEach [a, b] X.env = (false, eval a X.env) :: starEach [b] X.env := by rfl) (hpl : (backTo pos (starEach [b] X.env)).any (·.1) = false := by rfl) : CI' X fa T W (.Tuple elts kk tpos) (.Call (.Name "zip" p) [a, b] [] pos) (dZip da) :=
  mkI (ZK.pi_zipK hg hm ha hs hpl) fun ρ μ m F σ H R o r h => useA o r h fun us μ1 vs F1 H1 m1 e1 o1 r1 q1 p1 => by
    obtain ⟨l, hl, p1⟩ := post_ofO p1
    unfold zipU at hl
    split at hl
    · cases hl
      cases q1 with
      | cons q1 q2 =>
        cases q2 with
        | cons q2 q3 =>
          cases q3
          obtain ⟨a, vs, rfl, a1, a2⟩ := rp_dl q1
          obtain ⟨b, ws, rfl, b1, b2⟩ := rp_dl q2
          exact ⟨false, false, _, _, _, _, rfl, ex_l o1.ex a1, ex_l o1.ex b1, post_here p1 o1 (itr_zK (b1 := false) (b2 := false) a1 a2 b1 b2)⟩
    · cases hl
      cases q1 with
      | cons q1 q2 =>
        cases q2 with
        | cons q2 q3 =>
          cases q3
          obtain ⟨a, vs, rfl, a1, a2⟩ := rp_dt q1
          obtain ⟨b, ws, rfl, b1, b2⟩ := rp_dt q2
          exact ⟨true, true, _, _, _, _, rfl, ex_t o1.ex a1, ex_t o1.ex b1, post_here p1 o1 (itr_zK (b1 := true) (b2 := true) a1 a2 b1 b2)⟩
    · cases hl
      cases q1 with
      | cons q1 q2 =>
        cases q2 with
        | cons q2 q3 =>
          cases q3
          obtain ⟨a, vs, rfl, a1, a2⟩ := rp_dt q1
          obtain ⟨b, ws, rfl, b1, b2⟩ := rp_dl q2
          exact ⟨true, false, _, _, _, _, rfl, ex_t o1.ex a1, ex_l o1.ex b1, post_here p1 o1 (itr_zK (b1 := true) (b2 := false) a1 a2 b1 b2)⟩
    · cases hl
      cases q1 with
      | cons q1 q2 =>
        cases q2 with
        | cons q2 q3 =>
          cases q3
          obtain ⟨a, vs, rfl, a1, a2⟩ := rp_dl q1
          obtain ⟨b, ws, rfl, b1, b2⟩ := rp_dt q2
          exact ⟨false, true, _, _, _, _, rfl, ex_l o1.ex a1, ex_t o1.ex b1, post_here p1 o1 (itr_zK (b1 := false) (b2 := true) a1 a2 b1 b2)⟩
    · cases hl
/-! ### for -/
def forD (gd : U → Env' → Option Env') (body : DS) : List U → DS
  | [] => fun ρ => pur (.nx, ρ)
  | u :: us => fun ρ => match gd u ρ with
    | none => stk
    | some ρ1 => bnd (body ρ1) fun r => match r with
      | (.nx, ρ2) => forD gd body us ρ2
      | (.cnt, ρ2) => forD gd body us ρ2
      | (.brk, ρ2) => pur (.nx, ρ2)
      | (.ret u, ρ2) => pur (.ret u, ρ2)
def dFor (di : DI) (dg : DG) (body : DS) : DS := fun ρ => bnd (di ρ) fun us => forD dg.f body us ρ
theorem PostS.len {r : Res (Fl × Env')} {F H : Hp} {m : List Addr} {n k : Nat} {D : Ends} (h : PostS g r F H m n D W) (e : n = k) : PostS g r F H m k D W := by rw [← e]; exact h
theorem ds_for {tg iter : Expr} {body : List Stmt} {di : DI} {dg : DG} {db : DS} {pos : Pos} (hp : PassesOwn (model X.prog X.w) X.A X.env X.xe) (hc : X.calm = true) (hi : CI' X fa T W tg iter di) (hg : CG' X fa T tg dg) (hb : CSs X fa T W body db)
    (hs : ∀ x, foldedSetIterable iter X.env x = pure x := by intro _; rfl) : CS' X fa T W (.For tg iter body [] pos) (dFor di dg db) :=
  mkS (ps_for hp hc hi hg hb hs) fun ρ μ m F σ H D o r h => by
    refine ⟨ρ, μ, m, F, o, r, ?_⟩
    have h : PostS (gp X fa T) (bnd (di ρ) (fun us => forD dg.f db us ρ) μ) F H m ρ.length D W := h
    unfold bnd at h
    cases e : di ρ μ with
    | stuck =>
      rw [e] at h
      exact h
    | err er μ1 =>
      rw [e] at h
      exact fun c d F' H' m' e' o' er' => h c d σ F' H' m' e' o' er' r.1
    | ok us μ1 =>
      rw [e] at h
      intro J F1 H1 m1 g1 o1 it
      have h := h.gr g1
      refine ⟨fun i k σ' H' => ∃ ρ' μ' m' F', k = us.length - i ∧ i ≤ us.length ∧ Ok (gp X fa T) F' μ' m' H' ∧ EnvR (gp X fa T) F' m' σ' ρ' ∧ ρ'.length = ρ.length ∧ Ex F1 F' ∧ m1 <+: m' ∧ PostS (gp X fa T) (forD dg.f db (us.drop i) ρ' μ') F' H' m' ρ.length D W,
        ⟨us.length, ρ, μ1, m1, F1, rfl, Nat.zero_le _, o1, r.gr g1, rfl, Ex.refl _, List.prefix_rfl, h⟩, ?_⟩
      rintro i k σ' H' ⟨ρ', μ', m', F', rfl, hi, o', r', hl, ex, px, p⟩
      by_cases hlt : i < us.length
      · refine .inr ⟨it.go i F' H' μ' m' ex px o' hlt, fun σ2 H2 => ∃ ρ2 μ2 m2 F2, Ok (gp X fa T) F2 μ2 m2 H2 ∧ EnvR (gp X fa T) F2 m2 σ2 ρ2 ∧ ρ2.length = ρ.length ∧ Ex F1 F2 ∧ m1 <+: m2 ∧ PostS (gp X fa T) (forD dg.f db (us.drop (i + 1)) ρ2 μ2) F2 H2 m2 ρ.length D W,
          fun σ2 H2 ⟨ρ2, μ2, m2, F2, a1, a2, a3, a4, a5, a6⟩ => ⟨us.length - (i + 1), by omega, ρ2, μ2, m2, F2, rfl, hlt, a1, a2, a3, a4, a5, a6⟩, fun x H2 y => ?_⟩
        obtain ⟨F2, g2, o2, q2⟩ := it.yld i _ x F' H' H2 μ' m' ex px o' (List.getElem?_eq_getElem hlt) y
        rw [List.drop_eq_getElem_cons hlt] at p
        have p := p.gr g2
        cases eg : dg.f us[i] ρ' with
        | none =>
          unfold forD at p
          simp only [eg] at p
          exact p.elim
        | some ρ1 =>
          unfold forD at p
          simp only [eg] at p
          refine ⟨F2, μ', m', us[i], ρ', ρ1, o2, r'.gr g2, q2, eg, fun σ2 r2 _ => ⟨ρ1, μ', m', F2, o2, r2, ?_⟩⟩
          have hl1 : ρ1.length = ρ.length := by rw [dg.len _ _ _ eg, hl]
          unfold bnd at p
          cases eb : db ρ1 μ' with
          | stuck =>
            rw [eb] at p
            exact p
          | err er μ3 =>
            rw [eb] at p
            exact fun c d σ3 F3 H3 m3 g3 o3 e3 l3 => p c d σ3 F3 H3 m3 g3 o3 e3 (by rw [l3, hl1])
          | ok a μ3 =>
            rw [eb] at p
            obtain ⟨fl, ρ3⟩ := a
            cases fl with
            | nx => exact fun σ3 F3 H3 m3 g3 o3 r3 l3 => ⟨ρ3, μ3, m3, F3, o3, r3, by rw [l3, hl1], (ex.trans g2.ef).trans g3.ef, px.trans g3.pm, p.gr g3⟩
            | cnt => exact fun σ3 F3 H3 m3 g3 o3 r3 l3 => ⟨ρ3, μ3, m3, F3, o3, r3, by rw [l3, hl1], (ex.trans g2.ef).trans g3.ef, px.trans g3.pm, p.gr g3⟩
            | brk => exact fun σ3 F3 H3 m3 g3 o3 r3 l3 => p σ3 F3 H3 m3 g3 o3 r3 (by rw [l3, hl1])
            | ret u => exact p
      · have e : i = us.length := by omega
        subst e
        rw [List.drop_length] at p
        exact .inl ⟨it.stop _ F' H' μ' m' ex px o' (Nat.le_refl _), postS_nx p o' r' hl⟩

/-! ### comprehensions -/
def noErr {α : Type} (x : M α) : M α := fun μ => match x μ with
  | .err _ _ => .stuck
  | r => r
def lcD (gd : U → Env' → Option Env') (tt : DT) (te : DE) (ρ : Env') : List U → M (List U)
  | [] => pur []
  | u :: us => match gd u ρ with
    | none => stk
    | some ρ1 => bnd (noErr (tt ρ1)) fun b => if b = true then bnd (noErr (te ρ1)) fun y => bnd (lcD gd tt te ρ us) fun ys => pur (y :: ys) else lcD gd tt te ρ us
def wipeE (ρ : Env') : List Nat → Env'
  | [] => ρ
  | v :: vs => (wipeE ρ vs).set v none
def dLc (di : DI) (dg : DG) (tt : DT) (te : DE) (vs : List Nat) : DE := fun ρ => bnd (di ρ) fun us => if us.length ≤ big then bnd (lcD dg.f tt te (wipeE ρ vs) us) fun ys => pur (lstU ys) else stk
theorem wipeE_length (ρ : Env') : ∀ vs : List Nat, (wipeE ρ vs).length = ρ.length
  | [] => rfl
  | v :: vs => by unfold wipeE; rw [List.length_set, wipeE_length ρ vs]
theorem EnvR.wipe {F : Hp} {m : List Addr} {σ : L2.St} {ρ : Env'} (r : EnvR g F m σ ρ) : ∀ vs : List Nat, EnvR g F m (wipe σ vs) (wipeE ρ vs)
  | [] => r
  | v :: vs => by
    have ih := EnvR.wipe r vs
    refine ⟨by unfold L2.wipe wipeE; rw [List.length_set, List.length_set]; exact ih.1, fun j u e => ?_⟩
    unfold wipeE at e
    unfold L2.wipe
    by_cases hj : v = j
    · subst hj
      by_cases hl : v < (wipeE ρ vs).length
      · rw [List.getElem?_set_self hl] at e
        cases e
      · rw [List.getElem?_eq_none (by rw [List.length_set]; omega)] at e
        cases e
    · rw [List.getElem?_set_ne hj] at e ⊢
      exact ih.2 j u e
theorem wipe_same {σ σ' : L2.St} {vs ix : List Nat} (hl : σ'.length = σ.length) (h : ∀ j, j ∉ vs → σ'[j]? = (L2.wipe σ vs)[j]?) : L2.wipe σ' vs = L2.wipe σ vs := by
  have key : ∀ (τ : L2.St) (ws : List Nat) (j : Nat), (L2.wipe τ ws)[j]? = if j ∈ ws then (τ[j]?).map fun _ => none else τ[j]? := fun τ ws j => by
    induction ws with
    | nil => rfl
    | cons w ws ih =>
      show ((L2.wipe τ ws).set w none)[j]? = _
      by_cases hj : w = j
      · subst hj
        rw [if_pos List.mem_cons_self]
        by_cases hl : w < τ.length
        · rw [List.getElem?_set_self (by rw [wipe_length]; exact hl), List.getElem?_eq_getElem hl]
          rfl
        · rw [List.getElem?_eq_none (by rw [List.length_set, wipe_length]; omega), List.getElem?_eq_none (by omega)]
          rfl
      · rw [List.getElem?_set_ne hj, ih]
        have : (j ∈ w :: ws) ↔ (j ∈ ws) := by simp [Ne.symm hj]
        simp only [this]
  apply List.ext_getElem?
  intro j
  rw [key, key]
  by_cases hj : j ∈ vs
  · rw [if_pos hj, if_pos hj]
    by_cases hl2 : j < σ.length
    · rw [List.getElem?_eq_getElem hl2, List.getElem?_eq_getElem (by rw [hl]; exact hl2)]
      rfl
    · rw [List.getElem?_eq_none (by omega), List.getElem?_eq_none (by omega)]
  · rw [if_neg hj, if_neg hj, h j hj, key, if_neg hj]
/-- a fresh thing that is not tracked by the store -/
theorem Ok.spare {F H : Hp} {μ : List MO} {m : List Addr} {p : Addr} {u : HO} (o : Ok g F μ m H) (hp : H p = none) : Ok g F μ m (upd H p u) ∧ Gr F H m F (upd H p u) m ∧ F p = none ∧ p ∉ m := by
  have fp : F p = none := fresh_back o.ex hp
  have pm : p ∉ m := fun z => by
    obtain ⟨i, hi⟩ := List.getElem?_of_mem z
    have hl : i < μ.length := by
      rw [← o.len]
      exact (List.getElem?_eq_some_iff.mp hi).1
    obtain ⟨x, hx, _⟩ := (o.at_ i p _ hi (List.getElem?_eq_getElem hl)).there
    rw [hp] at hx
    cases hx
  refine ⟨⟨fun b w e => ?_, o.len, o.nd, o.nf, o.nt, fun i a w h1 h2 => (o.at_ i a w h1 h2).mo (Ex.refl F) List.prefix_rfl fun x hx => ?_, o.tab.ext (Ex.new hp), (kn_upd o.kn fun q hq => ne_of_none (o.kn q hq).1 hp), o.kp⟩, ⟨Ex.refl F, List.prefix_rfl, fun b w h1 h2 h3 h4 => ⟨?_, h1, h2⟩⟩, fp, pm⟩
  · rw [upd_ne (ne_of_none (o.ex b w e) hp)]
    exact o.ex b w e
  · rw [upd_ne (ne_of_none hx hp)]
    exact hx
  · rw [upd_ne (ne_of_none h3 hp)]
    exact h3
/-- .. frozen at last -/
theorem Ok.seal {F H : Hp} {μ : List MO} {m : List Addr} {a : Addr} {u : HO} (k : Ok g F μ m H) (ha : H a = some u) (hu : ∀ ps, u ≠ .tbl ps) (hf : F a = none) (hm : a ∉ m) : Ok g (upd F a u) μ m H :=
  ⟨fun b w e => by
    by_cases hb : b = a
    · rw [hb, upd_same] at e
      rw [hb, ha]
      exact e
    · rw [upd_ne hb] at e
      exact k.ex b w e, k.len, k.nd, fun i b w h1 h2 h3 => by
    have ne : b ≠ a := fun z => hm (by rw [← z]; exact List.mem_of_getElem? h1)
    rw [upd_ne ne]
    exact k.nf i b w h1 h2 h3, fun b ps e => by
    by_cases hb : b = a
    · rw [hb, upd_same] at e
      exact hu ps (Option.some.inj e)
    · rw [upd_ne hb] at e
      exact k.nt b ps e, fun i b w h1 h2 => (k.at_ i b w h1 h2).mo (Ex.new hf) List.prefix_rfl fun x hx => hx, k.tab, k.kn, g.T.z.mono _ _ (Ex.new hf) k.kp⟩
/-- what a comprehension keeps, its new list aside -/
theorem Gr.spare {F H F1 H1 : Hp} {m m1 : List Addr} {p : Addr} {u : HO} (r : Gr F H m F1 H1 m1) (hp : H p = none) : Gr F H m F1 (upd H1 p u) m1 :=
  ⟨r.ef, r.pm, fun b o h1 h2 h3 h4 => by
    obtain ⟨k1, k2, k3⟩ := r.un b o h1 h2 h3 h4
    exact ⟨by rw [upd_ne (ne_of_none h3 hp)]; exact k1, k2, k3⟩⟩
theorem Gr.spareF {F H F1 H1 : Hp} {m m1 : List Addr} {p : Addr} {u : HO} (r : Gr F H m F1 H1 m1) (hp : H p = none) (hf : F1 p = none) : Gr F H m (upd F1 p u) H1 m1 :=
  ⟨r.ef.trans (Ex.new hf), r.pm, fun b o h1 h2 h3 h4 => by
    obtain ⟨k1, k2, k3⟩ := r.un b o h1 h2 h3 h4
    exact ⟨k1, by rw [upd_ne (ne_of_none h3 hp)]; exact k2, k3⟩⟩
theorem post_at {α β γ δ : Type} {R : Hp → List Addr → β → α → Prop} {R' : Hp → List Addr → δ → γ → Prop} {x : M α} {f : α → M γ} {μ : List MO} {F H F3 H3 : Hp} {m m3 : List Addr} {Q' : β → Hp → Prop} {Q : δ → Hp → Prop} {W' W2 : Value → Option Addr → Hp → Prop}
    (h : Post g R' (bnd (noErr x) f μ) F H m Q W') 
    (k : ∀ a μ4 b F4 H4 m4, Gr F3 H3 m3 F4 H4 m4 → Ok g F4 μ4 m4 H4 → R F4 m4 b a → Post g R' (f a μ4) F H m Q W' → Q' b H4) : Post g R (x μ) F3 H3 m3 Q' W2 := by
  unfold bnd noErr at h
  cases e : x μ with
  | ok a μ1 =>
    rw [e] at h
    exact fun b F1 H1 m1 r o q => k a μ1 b F1 H1 m1 r o q h
  | err er μ1 =>
    rw [e] at h
    exact h.elim
  | stuck =>
    rw [e] at h
    exact h.elim
def Wno : WX := fun _ _ _ _ => False
/-- a clause's tests -/
def dYes : DT := fun _ => pur true
abbrev CTs (X : Cx) (fa : Nat → V) (T : TZ) (W : WX) (es : List Expr) (dt : DT) : Prop := PTs X es (canT (gp X fa T) W dt)
theorem dts_nil : CTs X fa T W [] dYes := ⟨fun pins s σ H Q I ⟨ρ, μ, m, F, o, r, p⟩ => pts_nil.run pins s σ H Q I (post_here p o rfl)⟩
theorem dts_one {c : Expr} {t : DT} (h : CT' X fa T W c t) : CTs X fa T W [c] t := pts_one h
theorem lc_sim {di : DI} {dg : DG} {tt : DT} {te : DE} {vs : List Nat} (hv : ∀ j ∈ dg.ix, j ∈ vs) : SimE g W (tLc (canI g W di) (canG g dg) (canT g Wno tt) (canE g Wno te) vs) (dLc di dg tt te vs) := fun ρ μ m F σ H Q o r h => by
  refine ⟨ρ, μ, m, F, o, r, post_bnd h fun us μ1 J F1 H1 m1 _ e1 o1 it p1 D hD => ?_⟩
  have r1 := r.gr e1
  by_cases hbig : us.length ≤ big
  · rw [if_pos hbig] at p1
    obtain ⟨oS, gS, fD, mD⟩ := o1.spare (u := .lst []) hD
    refine ⟨fun i k H' => ∃ μ' m' F' acc done, k = us.length - i ∧ i ≤ us.length ∧ Ok g F' μ' m' H' ∧ Gr F1 H1 m1 F' H' m' ∧ H' D = some (.lst acc) ∧ F' D = none ∧ D ∉ m' ∧ RpAll g F' m' acc done ∧ done.length ≤ i ∧
      Post g (RU g) (bnd (lcD dg.f tt te (wipeE ρ vs) (us.drop i)) (fun ys => pur (lstU (done ++ ys))) μ') F1 H1 m1 Q (fun c d H' => W c d σ H'),
      ⟨us.length, μ1, m1, F1, [], [], rfl, Nat.zero_le _, oS, gS, upd_same, fD, mD, .nil, Nat.le_refl _, p1⟩, ?_⟩
    rintro i k H' ⟨μ', m', F', acc, done, rfl, hi, o', g', hD', fD', mD', ra, hdl, p⟩
    by_cases hlt : i < us.length
    · refine .inr ⟨it.go i F' H' μ' m' g'.ef g'.pm o' hlt, fun H2 => ∃ μ2 m2 F2 acc2 done2, Ok g F2 μ2 m2 H2 ∧ Gr F1 H1 m1 F2 H2 m2 ∧ H2 D = some (.lst acc2) ∧ F2 D = none ∧ D ∉ m2 ∧ RpAll g F2 m2 acc2 done2 ∧ done2.length ≤ i + 1 ∧
        Post g (RU g) (bnd (lcD dg.f tt te (wipeE ρ vs) (us.drop (i + 1))) (fun ys => pur (lstU (done2 ++ ys))) μ2) F1 H1 m1 Q (fun c d H' => W c d σ H'),
        fun H2 ⟨μ2, m2, F2, acc2, done2, a1, a2, a3, a4, a5, a6, a7, a8⟩ => ⟨us.length - (i + 1), by omega, μ2, m2, F2, acc2, done2, rfl, hlt, a1, a2, a3, a4, a5, a6, a7, a8⟩, fun x H2 y => ?_⟩
      obtain ⟨F2, g2, o2, q2⟩ := it.yld i _ x F' H' H2 μ' m' g'.ef g'.pm o' (List.getElem?_eq_getElem hlt) y
      obtain ⟨hD2, fD2, mD2⟩ := g2.un D _ fD' mD' hD' (fun _ z => by cases z)
      rw [List.drop_eq_getElem_cons hlt] at p
      have r2 : EnvR g F2 m' (wipe σ vs) (wipeE ρ vs) := ((r1.gr g').gr g2).wipe vs
      cases eg : dg.f us[i] (wipeE ρ vs) with
      | none =>
        unfold lcD at p
        simp only [eg] at p
        exact p.elim
      | some ρ1 =>
        unfold lcD at p
        simp only [eg, bnd_bnd] at p
        refine ⟨F2, μ', m', us[i], wipeE ρ vs, ρ1, o2, r2, q2, eg, fun σ2 rr2 same => ⟨?_, ρ1, μ', m', F2, o2, rr2, post_at p fun b μ3 b' F3 H3 m3 g3 o3 rb p3 => ?_⟩⟩
        · have hl : σ2.length = σ.length := by rw [rr2.1, dg.len _ _ _ eg, wipeE_length, r1.1]
          have z := wipe_same (σ := wipe σ vs) (σ' := σ2) (vs := vs) (ix := []) (by rw [hl, wipe_length]) fun j hj => by
            rw [same j fun q => hj (hv j q)]
            have : ∀ (τ : L2.St) (ws : List Nat), j ∉ ws → (wipe τ ws)[j]? = τ[j]? := fun τ ws hw => by
              induction ws with
              | nil => rfl
              | cons w ws ih =>
                show ((wipe τ ws).set w none)[j]? = _
                rw [List.getElem?_set_ne (fun z => hw (by rw [z]; exact List.mem_cons_self))]
                exact ih fun z => hw (List.mem_cons_of_mem _ z)
            rw [this (wipe σ vs) vs hj]
          rw [z]
          exact wipe_same (ix := []) (wipe_length _ _) fun j hj => rfl
        · have rb : b' = b := rb
          subst rb
          obtain ⟨hD3, fD3, mD3⟩ := g3.un D _ fD2 mD2 hD2 (fun _ z => by cases z)
          cases b' with
          | false =>
            simp only [Bool.false_eq_true, if_false] at p3 ⊢
            exact ⟨μ3, m3, F3, acc, done, o3, (g'.trans g2).trans g3, hD3, fD3, mD3, (ra.gr g2).gr g3, by omega, p3⟩
          | true =>
            simp only [if_true, bnd_bnd] at p3 ⊢
            refine ⟨ρ1, μ3, m3, F3, o3, rr2.gr g3, post_at p3 fun y μ4 y' F4 H4 m4 g4 o4 ry p4 => ?_⟩
            obtain ⟨hD4, fD4, mD4⟩ := g4.un D _ fD3 mD3 hD3 (fun _ z => by cases z)
            have ra4 : RpAll g F4 m4 acc done := ((ra.gr g2).gr g3).gr g4
            refine ⟨acc, hD4, by rw [ra4.len]; exact big_lt (by omega), μ4, m4, F4, acc ++ [y'], done ++ [y], o4.other hD4 trivial fD4 mD4, (((g'.trans g2).trans g3).trans g4).spare hD, upd_same, fD4, mD4, ra4.app (.cons ry .nil), by rw [List.length_append, List.length_singleton]; omega, ?_⟩
            simpa [bnd_bnd, bnd_pur, List.append_assoc] using p4
    · have e : i = us.length := by omega
      subst e
      rw [List.drop_length] at p
      refine .inl ⟨it.stop _ F' H' μ' m' g'.ef g'.pm o' (Nat.le_refl _), ?_⟩
      have p : Post g (RU g) (Res.ok (lstU (done ++ [])) μ') F1 H1 m1 Q (fun c d H' => W c d σ H') := p
      rw [List.append_nil] at p
      have gf := g'.spareF (u := .lst acc) hD fD'
      exact p _ _ _ _ gf (o'.seal hD' (fun _ z => by cases z) fD' mD') (rp_lst upd_same (RpAll.mo (Ex.new fD') List.prefix_rfl _ _ ra))
  · rw [if_neg hbig] at p1
    exact p1.elim
/-- [elt for tg in iter if ..] -/
theorem dp_lc {elt tg iter : Expr} {ifs : List Expr} {scope : Scope} {own : List (Str × Nat)} {vs : List Nat} {pos : Pos} {di : DI} {dg : DG} {tt : DT} {te : DE} (hc : X.calm = true) (hN : X.N.Nodup) (hi : CI' X fa T W tg iter di) (ok : BlkOk X.N X.env.scope scope own)
    (hg : ∀ (s : Shared) (H : Hp) (C : Addr) (cl : List (Str × Addr)) (fp : List Addr), CG' (X.blk s H scope (compEnvC scope cl C X.env) fp) fa T tg dg) (ht : ∀ (s : Shared) (H : Hp) (C : Addr) (cl : List (Str × Addr)) (fp : List Addr), CTs (X.blk s H scope (compEnvC scope cl C X.env) fp) fa T Wno ifs tt)
    (he : ∀ (s : Shared) (H : Hp) (C : Addr) (cl : List (Str × Addr)) (fp : List Addr), CE' (X.blk s H scope (compEnvC scope cl C X.env) fp) fa T Wno elt te) (hv : ∀ j ∈ dg.ix, j ∈ own.map (·.2) := by decide) (hvs : own.map (·.2) = vs := by rfl) (hs : ∀ x, foldedSetIterable iter X.env x = pure x := by intro _; rfl) :
    CE' X fa T W (.ListComp elt [⟨tg, iter, ifs, 0⟩] scope pos) (dLc di dg tt te vs) := by
  subst hvs
  exact mkE (pe_lc hc hN hi ok hg ht he hs) (lc_sim hv)
theorem ds_setLc {i : Nat} {y : Str} {py : Pos} {elt tg iter : Expr} {ifs : List Expr} {scope : Scope} {own : List (Str × Nat)} {vs : List Nat} {pos spos : Pos} {di : DI} {dg : DG} {tt : DT} {te : DE} (hc : X.calm = true) (hN : X.N.Nodup) (hy : X.N[i]? = some y) (hyl : X.env.scope.names.lookup y = some .local)
    (hsw : swapsWith (.ListComp elt [⟨tg, iter, ifs, 0⟩] scope pos) (some (.Name y py)) spos.line X.env = pure true) (hi : CI' X fa T W tg iter di) (ok : BlkOk X.N X.env.scope scope own)
    (hg : ∀ (s : Shared) (H : Hp) (C : Addr) (cl : List (Str × Addr)) (fp : List Addr), CG' (X.blk s H scope (compEnvC scope cl C X.env) fp) fa T tg dg) (ht : ∀ (s : Shared) (H : Hp) (C : Addr) (cl : List (Str × Addr)) (fp : List Addr), CTs (X.blk s H scope (compEnvC scope cl C X.env) fp) fa T Wno ifs tt)
    (he : ∀ (s : Shared) (H : Hp) (C : Addr) (cl : List (Str × Addr)) (fp : List Addr), CE' (X.blk s H scope (compEnvC scope cl C X.env) fp) fa T Wno elt te) (hv : ∀ j ∈ dg.ix, j ∈ own.map (·.2) := by decide) (hvs : own.map (·.2) = vs := by rfl) (hs : ∀ x, foldedSetIterable iter X.env x = pure x := by intro _; rfl) :
    CS' X fa T W (.Assign [.Name y py] (.ListComp elt [⟨tg, iter, ifs, 0⟩] scope pos) spos) (dAsg i (dLc di dg tt te vs)) := by
  subst hvs
  exact mkS (ps_setLc hc hN hy hyl hsw hi ok hg ht he hs) (asg_sim fun ρ μ m F σ H Q o r h => lc_sim hv ρ μ m F σ H Q o r h)
end
end DL

/-! The data layer, part 7: defs, calls, raise. -/
namespace DL
open PySem PySem.Spec PyProof.Rows L2 Evl LamX

/-! ### a def's end: its own mutable things are dropped, one that is given back is frozen -/
def noObj : MO → Bool
  | .obj _ _ => false
  | _ => true
def exitU (n0 : Nat) (μ : List MO) : U → Res U
  | .d x => .ok (.d x) (μ.take n0)
  | .fn n => .ok (.fn n) (μ.take n0)
  | .m k => if k < n0 then .ok (.m k) (μ.take n0) else (match μ[k]? with
    | some (.lst ds) => .ok (.d (.list ds)) (μ.take n0)
    | _ => .stuck)
  | _ => .stuck
def fr {α : Type} (x : α → M U) (us : α) : M U := fun μ => match x us μ with
  | .ok u μ' => if (μ'.take μ.length).all noObj = true then exitU μ.length μ' u else .stuck
  | .err e μ' => if (μ'.take μ.length).all noObj = true then .err e (μ'.take μ.length) else .stuck
  | .stuck => .stuck
section
variable {g : Gp} {F H F1 H1 : Hp} {μ : List MO} {m m1 : List Addr}
theorem MoR.cut {F H : Hp} {m m' : List Addr} {a : Addr} {o : MO} (h : MoR g F m H a o) (hn : noObj o = true) : MoR g F m' H a o := by
  cases o with
  | lst ds => exact h
  | dct kvs => exact h
  | obj c fs => cases hn
  | gone => exact h
theorem take_some {α : Type} {l : List α} {n i : Nat} {a : α} (h : (l.take n)[i]? = some a) : i < n ∧ l[i]? = some a := by
  rw [List.getElem?_take] at h
  by_cases hi : i < n
  · rw [if_pos hi] at h
    exact ⟨hi, h⟩
  · rw [if_neg hi] at h
    cases h
theorem Ok.trunc (o : Ok g F μ m H) (n0 : Nat) (hn : (μ.take n0).all noObj = true) : Ok g F (μ.take n0) (m.take n0) H where
  ex := o.ex
  len := by rw [List.length_take, List.length_take, o.len]
  nd := o.nd.sublist (List.take_sublist _ _)
  nf := fun i a w h1 h2 h3 => o.nf i a w (take_some h1).2 (take_some h2).2 h3
  nt := o.nt
  at_ := fun i a w h1 h2 => (o.at_ i a w (take_some h1).2 (take_some h2).2).cut (List.all_eq_true.mp hn w (List.mem_of_getElem? h2))
  tab := o.tab
  kn := fun q hq => ⟨(o.kn q hq).1, fun z => (o.kn q hq).2.1 (List.mem_of_mem_take z), (o.kn q hq).2.2⟩
  kp := o.kp
theorem Gr.trunc (r : Gr F H m F1 H1 m1) : Gr F H m F1 H1 (m1.take m.length) := by
  obtain ⟨t, ht⟩ := r.pm
  refine ⟨r.ef, ?_, fun b o h1 h2 h3 h4 => ?_⟩
  · rw [← ht, List.take_left]
    exact List.prefix_rfl
  · obtain ⟨k1, k2, k3⟩ := r.un b o h1 h2 h3 h4
    exact ⟨k1, k2, fun z => k3 (List.mem_of_mem_take z)⟩
theorem post_fr {α : Type} {x : α → M U} {us : α} {Q : VK} {W : Value → Option Addr → Hp → Prop} (hl : m.length = μ.length) (h : Post g (RU g) (fr x us μ) F H m Q W) : Post g (RU g) (x us μ) F H m Q W := by
  unfold fr at h
  cases e : x us μ with
  | stuck =>
    rw [e] at h
    exact h
  | err er μ' =>
    rw [e] at h
    have h : Post g (RU g) (if (μ'.take μ.length).all noObj = true then .err er (μ'.take μ.length) else .stuck) F H m Q W := h
    by_cases hn : (μ'.take μ.length).all noObj = true
    · rw [if_pos hn] at h
      exact fun c d F' H' m' r o z => h c d F' H' (m'.take m.length) r.trunc (by rw [hl]; exact o.trunc _ hn) z
    · rw [if_neg hn] at h
      exact h.elim
  | ok u μ' =>
    rw [e] at h
    have h : Post g (RU g) (if (μ'.take μ.length).all noObj = true then exitU μ.length μ' u else .stuck) F H m Q W := h
    by_cases hn : (μ'.take μ.length).all noObj = true
    · rw [if_pos hn] at h
      intro b F' H' m' r o q
      have oT : Ok g F' (μ'.take μ.length) (m'.take m.length) H' := by rw [hl]; exact o.trunc _ hn
      have q : Rp g F' m' b u := q
      cases q with
      | d q1 => exact h _ F' H' _ r.trunc oT (.d q1)
      | fn => exact h _ F' H' _ r.trunc oT .fn
      | @m a k q1 =>
        have h : Post g (RU g) (if k < μ.length then .ok (.m k) (μ'.take μ.length) else (match μ'[k]? with
          | some (MO.lst ds) => .ok (.d (.list ds)) (μ'.take μ.length)
          | _ => .stuck)) F H m Q W := h
        by_cases hk : k < μ.length
        · rw [if_pos hk] at h
          exact h _ F' H' _ r.trunc oT (.m (by rw [List.getElem?_take, if_pos (by rw [hl]; exact hk)]; exact q1))
        · rw [if_neg hk] at h
          cases ek : μ'[k]? with
          | none =>
            rw [ek] at h
            exact h.elim
          | some w =>
            rw [ek] at h
            cases w with
            | lst ds =>
              obtain ⟨vs, h1, h2, o2, r2⟩ := o.frozen q1 ek
              have e1 : (μ'.set k MO.gone).take μ.length = μ'.take μ.length := List.take_set_of_le (by omega)
              have oT2 := o2.trunc μ.length (by rw [e1]; exact hn)
              rw [e1] at oT2
              exact h _ _ H' (m'.take m.length) (r.trans r2).trunc (by rw [hl]; exact oT2) (.d (.lst (sq_of upd_same) (DqAll.mo r2.ef _ _ h2)))
            | dct _ => exact h.elim
            | obj _ _ => exact h.elim
            | gone => exact h.elim
      | tu _ _ => exact h.elim
      | li _ _ => exact h.elim
    · rw [if_neg hn] at h
      exact h.elim
end

/-! ### what a def promises -/
def spD (g : Gp) (n : Nat) (f : List U → M U) : Sp := fun vs H Q E => vs.length = n ∧ ∃ F μ m us, Ok g F μ m H ∧ RpAll g F m vs us ∧ Post g (RU g) (f us μ) F H m Q (fun c d H' => E c d H')
def startE (N : Nat) (us : List U) : Env' := us.map some ++ List.replicate (N - us.length) none
/-- a def's body as a function: keep its mutable things .. -/
def bodyD (N n : Nat) (ds : DS) (us : List U) : M U := if us.length = n then bnd (ds (startE N us)) fun r => match r with
  | (.nx, _) => pur (.d .none)
  | (.ret u, _) => pur u
  | _ => stk else stk
/-- .. or drop them -/
def fnD (N n : Nat) (ds : DS) : List U → M U := fr (bodyD N n ds)
theorem start_env {g : Gp} {F : Hp} {m : List Addr} {N : List Str} {vs : List V} {us : List U} (r : RpAll g F m vs us) : EnvR g F m (L2.start N vs) (startE N.length us) := by
  refine ⟨by unfold L2.start startE; simp [r.len], fun i u e => ?_⟩
  unfold startE at e
  unfold L2.start
  by_cases hi : i < us.length
  · rw [List.getElem?_append_left (by simpa using hi), List.getElem?_map] at e
    rw [List.getElem?_append_left (by simpa [r.len] using hi), List.getElem?_map]
    cases e2 : us[i]? with
    | none =>
      rw [e2] at e
      cases e
    | some w =>
      rw [e2] at e
      cases e
      obtain ⟨v, h1, h2⟩ := r.get e2
      exact ⟨v, by rw [h1]; rfl, h2⟩
  · rw [List.getElem?_append_right (by simpa using hi), List.getElem?_replicate] at e
    split at e <;> cases e
theorem body_post {g : Gp} {F H : Hp} {μ : List MO} {m : List Addr} {N n : Nat} {ds : DS} {us : List U} {Q : VK} {E : XK} (h : Post g (RU g) (bodyD N n ds us μ) F H m Q (fun c d H' => E c d H')) :
    PostS g (ds (startE N us) μ) F H m (startE N us).length { nx := fun _ H' => Q .non H', rt := Q } (fun c d _ H' => E c d H') := by
  unfold bodyD at h
  by_cases hl : us.length = n
  · rw [if_pos hl] at h
    unfold bnd at h
    cases e : ds (startE N us) μ with
    | stuck =>
      rw [e] at h
      exact h
    | err er μ1 =>
      rw [e] at h
      exact fun c d σ F' H' m' e' o' er' _ => h c d F' H' m' e' o' er'
    | ok a μ1 =>
      rw [e] at h
      obtain ⟨fl, ρ1⟩ := a
      cases fl with
      | nx => exact fun σ F' H' m' e' o' r' _ => h .non F' H' m' e' o' (.d .non)
      | brk => exact h.elim
      | cnt => exact h.elim
      | ret u => exact h
  · rw [if_neg hl] at h
    exact h.elim
section
variable {P : Program} {w : World} {K : PySem.W.Frag} {mg : Str → Option Value} {base : Heap} {fa : Nat → V} {T : TZ}
/-- a def's promise from its body's derivation -/
theorem fn_of_body {x qual : Str} {params : Arguments} {body : List Stmt} {scope : Scope} {f : Addr} {fd : FuncData} {N ps : List Str} {k nn np : Nat} {ds : DS} (F : FunD K x qual params body scope [] [] f fd) (S : FnScope N ps scope) (hN : N.length = nn) (hp : ps.length = np)
    (hb : ∀ (cdv : Value) (A : Around) (outer : List Env) (s : Shared) (H : Hp) (E : XK), fd.code = cdv → Room k (A.deeper (envOfC qual scope s.heap.objs.size f cdv)) →
      CSs (cxOf (L2N.CX P w) P w K mg base N qual scope f cdv A outer s H E) fa T (fun cls d _ H => E cls d H) body ds) :
    FnOk P w K mg base (L2N.CX P w) (k + 1) f fd ps (spD ⟨K, fa, T⟩ np (bodyD nn np ds)) := by
  subst hN hp
  obtain ⟨oc, od, dV, kV, doc, pm, an, cdv, ct, osl, rfl, lk, hcd, _, _⟩ := F.ex
  refine fn_of lk hcd S (fun vs H Q E h => h.1) fun A outer s H vs Q E hr hsp => ?_
  obtain ⟨hl, F0, μ, m, us, o, r, p⟩ := hsp
  exact ⟨_, hb cdv A outer s H E rfl hr, startE N.length us, μ, m, F0, o, start_env r, body_post p⟩
theorem takesN {N : List Str} {qual : Str} {scope : Scope} {f : Addr} {cd : Value} {A : Around} {outer : List Env} {s : Shared} {H : Hp} {E : XK} : L2N.Takes (cxOf (L2N.CX P w) P w K mg base N qual scope f cd A outer s H E) (fun cls d _ H => E cls d H) :=
  L2N.takes_of rfl rfl rfl rfl
theorem takesNo {X : Cx} : L2N.Takes X Wno := fun _ _ ⟨_, _, _, _, _, _, _, _, _, _, _, _, _, _, _, _, w⟩ => w.elim
theorem FnOk.fr {f : Addr} {fd : FuncData} {ps : List Str} {k n : Nat} {g : Gp} {fn : List U → M U} (F : FnOk P w K mg base (L2N.CX P w) k f fd ps (spD g n fn)) : FnOk P w K mg base (L2N.CX P w) k f fd ps (spD g n (DL.fr fn)) :=
  F.imp fun vs H Q E ⟨hl, F0, μ, m, us, o, r, p⟩ => ⟨hl, F0, μ, m, us, o, r, post_fr o.len p⟩
/-- a def that may be called: its name, its room, what it does -/
structure FD (P : Program) (w : World) (K : PySem.W.Frag) (mg : Str → Option Value) (base : Heap) (fa : Nat → V) (T : TZ) (x : Str) (k n : Nat) (fn : List U → M U) : Prop where
  ex : ∃ (f : Addr) (fd : FuncData) (ps : List Str), FnOk P w K mg base (L2N.CX P w) k f fd ps (spD ⟨K, fa, T⟩ n fn) ∧ mg x = some (.ref f) ∧ PySem.W.keepIn K (.ref f) = true ∧ Binds K fd ps []
end
def dCall (n : Nat) (fn : List U → M U) (da : DA) : DE := fun ρ => bnd (da ρ) fun us => if us.length = n then fn us else stk
section
variable {X : Cx} {fa : Nat → V} {T : TZ} {W : WX}
theorem call_sim {g : Gp} {n : Nat} {fn : List U → M U} {da : DA} : SimE g W (tCallS (spD g n fn) (WE W) (canA g W da)) (dCall n fn da) := fun ρ μ m F σ H Q o r h =>
  useA o r h fun us μ1 vs F1 H1 m1 e1 o1 r1 q1 p1 => by
    by_cases hl : us.length = n
    · rw [if_pos hl] at p1
      exact ⟨by rw [q1.len]; exact hl, F1, μ1, m1, us, o1, q1, p1⟩
    · rw [if_neg hl] at p1
      exact p1.elim
theorem dp_call {x : Str} {k n : Nat} {fn : List U → M U} {e : Expr} {es : List Expr} {da : DA} {p pos : Pos} (B : FD X.prog X.w X.K X.mg X.base fa T x k n fn) (hr : Room k X.A) (tk : L2N.Takes X W) (hg : Gl X x) (ha : CA' X fa T W (e :: es) da)
    (hdb : (x == ("__debug__" : Str)) = false := by decide) (he : starEach (e :: es) X.env = (false, eval e X.env) :: starEach es X.env := by rfl) (hpl : (backTo pos (starEach es X.env)).any (·.1) = false := by rfl) :
    CE' X fa T W (.Call (.Name x p) (e :: es) [] pos) (dCall n fn da) := by
  obtain ⟨f, fd, ps, F, hm, hk, hb⟩ := B.ex
  exact mkE (pe_callS F hr hg hm hk hb (L2N.passAt tk) ha hdb he hpl) call_sim
def dCall0 (fn : List U → M U) : DE := fun _ => noErr (fn [])
theorem passN0 : Passes (L2N.CX X.prog X.w) X E0 := fun _ _ _ _ _ _ _ h => by
  obtain ⟨_, _, _, _, _, _, _, _, _, _, _, _, z⟩ := h
  exact z.elim
theorem dp_call0 {x : Str} {k : Nat} {fn : List U → M U} {p pos : Pos} (B : FD X.prog X.w X.K X.mg X.base fa T x k 0 fn) (hr : Room k X.A) (hg : Gl X x) (hdb : (x == ("__debug__" : Str)) = false := by decide) :
    CE' X fa T W (.Call (.Name x p) [] [] pos) (dCall0 fn) := by
  obtain ⟨f, fd, ps, F, hm, hk, hb⟩ := B.ex
  refine mkE (pe_call0 (dvs := []) F hr hg hm hk hb .nil passN0 hdb) fun ρ μ m F0 σ H Q o r h => ?_
  have h : Post (gp X fa T) (RU (gp X fa T)) (noErr (fn []) μ) F0 H m Q (fun c d H' => W c d σ H') := h
  refine ⟨rfl, F0, μ, m, [], o, .nil, ?_⟩
  unfold noErr at h
  cases e : fn [] μ with
  | ok u μ1 =>
    rw [e] at h
    exact h
  | err er μ1 =>
    rw [e] at h
    exact h.elim
  | stuck =>
    rw [e] at h
    exact h.elim
/-- a call of a local name that holds one of some defs -/
structure FV (P : Program) (w : World) (K : PySem.W.Frag) (mg : Str → Option Value) (base : Heap) (fa : Nat → V) (T : TZ) (i : Nat) (k n : Nat) (fn : List U → M U) : Prop where
  ex : ∃ (f : Addr) (fd : FuncData) (ps : List Str), FnOk P w K mg base (L2N.CX P w) k f fd ps (spD ⟨K, fa, T⟩ n fn) ∧ fa i = .ref f ∧ PySem.W.keepIn K (.ref f) = true ∧ Binds K fd ps []
def dCallV (i n : Nat) (tb : Nat → Option (List U → M U)) (da : DA) : DE := fun ρ => match ρ[i]? with
  | some (some (.fn j)) => (match tb j with
    | some fn => dCall n fn da ρ
    | none => stk)
  | _ => stk
theorem dp_callV {i k n : Nat} {x : Str} {tb : Nat → Option (List U → M U)} {e : Expr} {es : List Expr} {da : DA} {p pos : Pos} (B : ∀ j fn, tb j = some fn → FV X.prog X.w X.K X.mg X.base fa T j k n fn) (hr : Room k X.A) (tk : L2N.Takes X W) (hN : X.N[i]? = some x) (hv : Vis X.env.scope x)
    (ha : CA' X fa T W (e :: es) da) (hdb : (x == ("__debug__" : Str)) = false := by decide) (hcd : (x == ("__classdict__" : Str)) = false := by decide)
    (he : starEach (e :: es) X.env = (false, eval e X.env) :: starEach es X.env := by rfl) (hpl : (backTo pos (starEach es X.env)).any (·.1) = false := by rfl) : CE' X fa T W (.Call (.Name x p) (e :: es) [] pos) (dCallV i n tb da) := ⟨fun pins s σ H Q I ⟨ρ, μ, m, F0, o, r, h⟩ => by
  unfold dCallV at h
  cases e1 : ρ[i]? with
  | none =>
    simp only [e1] at h
    exact h.elim
  | some w1 =>
    cases w1 with
    | none =>
      simp only [e1] at h
      exact h.elim
    | some u1 =>
      cases u1 with
      | fn j =>
        simp only [e1] at h
        cases e2 : tb j with
        | none =>
          simp only [e2] at h
          exact h.elim
        | some fn =>
          simp only [e2] at h
          obtain ⟨f, fd, ps, F, hf, hk, hb⟩ := (B j fn e2).ex
          obtain ⟨v, h1, h2⟩ := r.2 i _ e1
          cases h2
          have hf : fa j = .ref f := hf
          rw [show (gp X fa T).fa j = .ref f from hf] at h1
          have h3 := call_sim ρ μ m F0 σ H Q o r h
          refine wpAny_Call_Name_kw (thn ((pe_var (pos := p) hN hv hdb hcd).run pins s σ H (fun v H1 => v = .ref f ∧ H1 = H) I ⟨.ref f, h1, rfl, rfl⟩) fun u s1 ⟨v, H1, I1, r1, q1⟩ => ?_)
          obtain ⟨rfl, rfl⟩ := q1
          cases r1
          refine PySem.W.callWith_K (h₀ := X.base) I.ok.mod.kin hk (thn (ha.run pos pins s1 σ _ _ I1 h3) fun us s2 ⟨vs, H2, I2, r, q⟩ => ⟨I2.kIn, ?_⟩) he hpl
          exact run_fnS F hr hb (L2N.passAt tk σ) I2 r q
      | d _ =>
        simp only [e1] at h
        exact h.elim
      | m _ =>
        simp only [e1] at h
        exact h.elim
      | tu _ =>
        simp only [e1] at h
        exact h.elim
      | li _ =>
        simp only [e1] at h
        exact h.elim⟩

/-! ### raise C("..") -/
def dRaise (c : Nat) : DS := fun _ μ => .err (.own c) μ
theorem ds_raise {x mm : Str} {C : Addr} {c j : Nat} {bmB : List Value} {B newId initId : String} {p p2 pos pos2 : Pos} (hc : X.calm = true) (tk : L2N.Takes X W) (F : ExcBaseFacts B newId initId bmB) (q : PySem.W.excIn X.K C bmB newId = true) (gC : X.mg x = some (.ref C))
    (kC : PySem.W.keepIn X.K (.ref C) = true) (r : Raises X (.ref C)) (hf : fa c = .ref C) (hg : Gl X x) (hdb : (x == ("__debug__" : Str)) = false := by decide) :
    CS' X fa T W (.Raise (some (.Call (.Name x p) [.Constant (.str mm) j p2] [] pos)) none pos2) (dRaise c) :=
  mkS (L2N.ps_raise hc tk (L2N.pmk_own F q gC kC r hg hdb)) fun ρ μ m F0 σ H D o r h => h (.ref C) none σ F0 H m (Gr.refl _ _ _) o ⟨C, hf, rfl, rfl⟩ r.1

/-! ### a list frozen -/
/-- freeze the list that a slot names -/
def dFz (i : Nat) (s : DS) : DS := fun ρ μ => match ρ[i]? with
  | some (some (.m k)) => (match μ[k]? with
    | some (.lst ds) => s (ρ.set i (some (.d (.list ds)))) (μ.set k .gone)
    | _ => .stuck)
  | _ => .stuck
theorem dfz {i : Nat} {st : List Stmt} {ds : DS} (h : CSs X fa T W st ds) : CSs X fa T W st (dFz i ds) := ⟨fun pins s σ H D I ⟨ρ, μ, m, F, o, r, p⟩ => by
  refine h.run pins s σ H D I ?_
  unfold dFz at p
  cases e1 : ρ[i]? with
  | none =>
    rw [e1] at p
    exact p.elim
  | some w1 =>
    rw [e1] at p
    cases w1 with
    | none => exact p.elim
    | some u =>
      cases u with
      | m k =>
        have p : PostS (gp X fa T) (match μ[k]? with
          | some (MO.lst xs) => ds (ρ.set i (some (.d (.list xs)))) (μ.set k .gone)
          | _ => .stuck) F H m ρ.length D W := p
        cases e2 : μ[k]? with
        | none =>
          rw [e2] at p
          exact p.elim
        | some w2 =>
          rw [e2] at p
          cases w2 with
          | lst xs =>
            have p : PostS (gp X fa T) (ds (ρ.set i (some (.d (.list xs)))) (μ.set k .gone)) F H m ρ.length D W := p
            obtain ⟨v, h1, h2⟩ := r.2 i _ e1
            cases h2 with
            | m h2 =>
              obtain ⟨vs, a1, a2, o2, r2⟩ := o.frozen h2 e2
              have re := r.gr r2
              refine ⟨ρ.set i (some (.d (.list xs))), μ.set k .gone, m, _, o2, ⟨by rw [List.length_set]; exact re.1, fun j u e => ?_⟩, by rw [List.length_set]; exact p.gr r2⟩
              by_cases hj : i = j
              · subst hj
                have hl : i < ρ.length := by
                  have := (List.getElem?_eq_some_iff.mp e).1
                  rw [List.length_set] at this
                  exact this
                rw [List.getElem?_set_self hl] at e
                cases e
                exact ⟨_, h1, .d (.lst (sq_of upd_same) (DqAll.mo r2.ef _ _ a2))⟩
              · rw [List.getElem?_set_ne hj] at e
                exact re.2 j u e
          | dct _ => exact p.elim
          | obj _ _ => exact p.elim
          | gone => exact p.elim
      | d _ => exact p.elim
      | fn _ => exact p.elim
      | tu _ => exact p.elim
      | li _ => exact p.elim⟩
end
end DL

/-! The data layer, part 8: isinstance, append, xs[i] = v, sorted, join. -/
namespace DL
open PySem PySem.Spec PyProof.Rows L2 Evl LamX

/-! ### isinstance(x, T) of data -/
def dIsa (f : PyData → Bool) (de : DE) : DE := fun ρ => bnd (de ρ) fun u μ => match peek μ u with
  | some x => .ok (.d (.bool (f x))) μ
  | none => .stuck
def rIsaD (g : Gp) (T : String) (f : PyData → Bool) : List V → Hp → VK → Prop := fun vs H Q => ∃ F μ m x dx, vs = [x, .ty T] ∧ Ok g F μ m H ∧ Vw g.K F H x dx ∧ Q (.bl (f dx)) H
section
variable {X : Cx} {fa : Nat → V} {T : TZ} {W : WX}
theorem isa_of {ty : String} {f : PyData → Bool} (hx : ∀ {s : Shared} {v : Value} {d : PyData} {as : List Addr} {Q : Value → Shared → Prop}, Reads s.heap v d as → (∀ tk, s.toks ≤ tk → Q (.bool (f d)) { s with toks := tk }) → wpAny (model X.prog X.w) X.A (call (.builtin "isinstance") [v, .type ty]) Q X.xe s) :
    CallR X (.builtin "isinstance") (rIsaD (gp X fa T) ty f) := by
  intro pins s σ H vs us Q I rs ⟨F, μ, m, x, dx, e0, o, hv, q⟩
  subst e0
  cases rs with
  | cons r1 rr =>
    cases rr with
    | cons r2 rr =>
      cases rr
      cases r2
      obtain ⟨as, hr⟩ := Dp.reads I _ _ _ (Dq.dp _ _ (hv.dp o.ex)) r1
      exact hx hr fun tk h => ⟨.bl (f dx), H, I.tok _, rfl, q⟩
theorem dp_isa {ty : String} {f : PyData → Bool} {e : Expr} {de : DE} {x y : Str} {p p2 pos : Pos} (hc : CallR X (.builtin "isinstance") (rIsaD (gp X fa T) ty f)) (he : CE' X fa T W e de) (hg : Gl X x) (hm : X.mg x = none) (hg2 : Gl X y) (hm2 : X.mg y = none)
    (hv : bootBuiltins x = some (.builtin "isinstance")) (hv2 : bootBuiltins y = some (.type ty)) (hn : x ≠ "__name__" := by decide) (hdb : (x == ("__debug__" : Str)) = false := by decide) (hn2 : y ≠ "__name__" := by decide) (hdb2 : (y == ("__debug__" : Str)) = false := by decide)
    (hs : starEach [e, .Name y p2] X.env = (false, eval e X.env) :: starEach [.Name y p2] X.env := by rfl) (hs2 : starEach [.Name y p2] X.env = (false, eval (.Name y p2) X.env) :: starEach [] X.env := by rfl) (hpl : (backTo pos (starEach [.Name y p2] X.env)).any (·.1) = false := by rfl) :
    CE' X fa T W (.Call (.Name x p) [e, .Name y p2] [] pos) (dIsa f de) :=
  mkE (pe_callB hc hg hm hv (pa_cons he (pa_cons (pe_bltn (v := .ty ty) hg2 hm2 hv2 rfl hn2 hdb2) pa_nil hs2) hs) hn hdb hs hpl) fun ρ μ m F σ H Q o r h => useE o r h fun u μ1 v F1 H1 m1 e1 o1 r1 q1 p1 => by
    cases ea : peek μ1 u with
    | none =>
      simp only [ea] at p1
      exact p1.elim
    | some x =>
      simp only [ea] at p1
      exact ⟨F1, μ1, m1, v, x, rfl, o1, vw_of o1 q1 ea, post_here p1 o1 (.d (.bl _))⟩
theorem isa_int : CallR X (.builtin "isinstance") (rIsaD (gp X fa T) "int" PyData.isInt) := isa_of fun r h => PySem.W.isinstance_int_data r h
theorem isa_bool : CallR X (.builtin "isinstance") (rIsaD (gp X fa T) "bool" PyData.isBool) := isa_of fun r h => PySem.W.isinstance_bool_data r h
theorem isa_tuple : CallR X (.builtin "isinstance") (rIsaD (gp X fa T) "tuple" PyData.isTuple) := isa_of fun r h => PySem.W.isinstance_tuple_data r h
theorem isa_list : CallR X (.builtin "isinstance") (rIsaD (gp X fa T) "list" PyData.isList) := isa_of fun r h => PySem.W.isinstance_list_data r h
theorem isa_str : CallR X (.builtin "isinstance") (rIsaD (gp X fa T) "str" PyData.isStr) := isa_of fun r h => PySem.W.isinstance_str_data r h

/-! ### xs.append(e) -/
def dApp1 (k : Nat) (x : PyData) : M U := fun μ => match μ[k]? with
  | some (.lst ds) => if ds.length < big then .ok (.d .none) (μ.set k (.lst (ds ++ [x]))) else .stuck
  | _ => .stuck
def dData : U → Option PyData
  | .d x => some x
  | _ => none
def dApp (eo e : DE) : DE := fun ρ => bnd (eo ρ) fun uo μ => match uo with
  | .m k => (match μ[k]? with
    | some (.lst _) => bnd (e ρ) (fun u => bnd (ofO (dData u)) fun x => dApp1 k x) μ
    | _ => .stuck)
  | _ => .stuck
/-- the post of an operation on a list of the store -/
theorem rp_mut {g : Gp} {F : Hp} {m : List Addr} {v : V} {k : Nat} (h : Rp g F m v (.m k)) : ∃ a, v = .ref a ∧ m[k]? = some a := by
  cases h with
  | m h => exact ⟨_, rfl, h⟩
theorem isLst {g : Gp} {F H : Hp} {μ : List MO} {m : List Addr} {α β : Type} {R : Hp → List Addr → β → α → Prop} {k : Nat} {f : List PyData → Res α} {Q : β → Hp → Prop} {W' : Value → Option Addr → Hp → Prop}
    (h : Post g R (match μ[k]? with
      | some (MO.lst ds) => f ds
      | _ => .stuck) F H m Q W') : ∃ ds, μ[k]? = some (.lst ds) ∧ Post g R (f ds) F H m Q W' := by
  cases e : μ[k]? with
  | none =>
    rw [e] at h
    exact h.elim
  | some o =>
    rw [e] at h
    cases o with
    | lst ds => exact ⟨ds, rfl, h⟩
    | dct _ => exact h.elim
    | obj _ _ => exact h.elim
    | gone => exact h.elim
theorem data_of {g : Gp} {F : Hp} {m : List Addr} {v : V} {u : U} {x : PyData} (r : Rp g F m v u) (h : dData u = some x) : Dq g.K F v x := by
  cases r with
  | d h' => cases h; exact h'
  | _ => cases h
theorem dp_app {o e : Expr} {eo de : DE} {apos cpos : Pos} (ho : CE' X fa T W o eo) (he : CE' X fa T W e de) (hbase : attributeBase o "append" X.env (eval o X.env) = eval o X.env := by rfl)
    (hfew : ((backTo cpos (starEach [e] X.env)).all (fun x => !x.1) && (backToKw cpos (keywordEach [] X.env)).all (fun x => x.1.isSome)
      && decide ([e].length + ([] : List Keyword).length + (if ([] : List Keyword).isEmpty then 0 else 1) < 30)) = true := by rfl)
    (hline : (apos.endLine == cpos.line) = true := by rfl) (hs : starEach [e] X.env = (false, eval e X.env) :: starEach [] X.env := by rfl) (hplain : (backTo cpos (starEach [] X.env)).any (·.1) = false := by rfl) :
    CE' X fa T W (.Call (.Attribute o "append" apos) [e] [] cpos) (dApp eo de) :=
  mkE (pe_bm F.plainAttrs_list F.slot_list_append F.type_list_append mt_append ho (pa_cons he pa_nil hs) hbase hfew hline hs hplain) fun ρ μ m F σ H Q o r h =>
    useE o r h fun uo μ1 v1 F1 H1 m1 e1 o1 r1 q1 p1 => by
      cases uo with
      | m k =>
        obtain ⟨a, rfl, ha⟩ := rp_mut q1
        obtain ⟨ds, hk, p1⟩ := isLst (f := fun _ => bnd (de ρ) (fun u => bnd (ofO (dData u)) fun x => dApp1 k x) μ1) p1
        obtain ⟨vs, a1, a2⟩ := o1.at_ k a _ ha hk
        refine ⟨.inl ⟨rfl, vs, sq_of a1⟩, useE o1 r1 p1 fun u μ2 v2 F2 H2 m2 e2 o2 r2 q2 p2 => ?_⟩
        unfold bnd at p2
        cases hx : dData u with
        | none =>
          rw [hx] at p2
          exact p2.elim
        | some x =>
          rw [hx] at p2
          have p2 : Post (gp X fa T) (RU (gp X fa T)) (dApp1 k x μ2) F2 H2 m2 Q (fun c d H' => W c d σ H') := p2
          have ha2 : m2[k]? = some a := pre_get e2.pm ha
          obtain ⟨ds2, hk2, p2⟩ := isLst (f := fun ds => if ds.length < big then .ok (U.d .none) (μ2.set k (.lst (ds ++ [x]))) else .stuck) p2
          obtain ⟨vs2, b1, b2⟩ := o2.at_ k a _ ha2 hk2
          by_cases hl : ds2.length < big
          · rw [if_pos hl] at p2
            obtain ⟨o3, e3⟩ := o2.put (u := .lst (vs2 ++ [v2])) (mo' := .lst (ds2 ++ [x])) ha2 hk2 (fun z => by cases z) b1 trivial ⟨_, upd_same, b2.app (.cons (data_of q2 hx) .nil)⟩
            exact ⟨a, vs2, v2, rfl, rfl, b1, by rw [b2.len]; exact big_lt hl, p2 _ _ _ _ e3 o3 (.d .non)⟩
          · rw [if_neg hl] at p2
            exact p2.elim
      | _ => exact p1.elim
/-! ### xs[i] = e -/
def dSet1 (k : Nat) (i : Int) (x : PyData) : M Unit := fun μ => match μ[k]? with
  | some (.lst ds) => (match ixN ds.length i with
    | some j => .ok () (μ.set k (.lst (ds.set j x)))
    | none => .stuck)
  | _ => .stuck
def dSetIx (eo ei e : DE) : DS := fun ρ => bnd (e ρ) fun u => bnd (eo ρ) fun uo => bnd (ei ρ) fun ui => match u, uo, ui with
  | .d x, .m k, .d (.int i) => bnd (dSet1 k i x) fun _ => pur (.nx, ρ)
  | _, _, _ => stk
theorem ds_setIx {o i e : Expr} {eo ei de : DE} {spos pos : Pos} (ho : CE' X fa T W o eo) (hi : CE' X fa T W i ei) (he : CE' X fa T W e de)
    (ha : ∀ v, assign (.Subscript o i spos) X.env v = (do
      let ov ← holding [v] (eval o X.env)
      let iv ← holding [v, ov] (eval i X.env)
      standAt spos
      holding [v, ov, iv] (setItem ov iv v)
      release [v, ov, iv] []) := by intro _; rfl)
    (hs : swapsWithSole [.Subscript o i spos] e pos.line X.env = pure false := by rfl) (hw : swappedStores [.Subscript o i spos] e X.env = pure none := by rfl)
    (h1 : (assignEach [.Subscript o i spos] X.env).map (·.2) = [assign (.Subscript o i spos) X.env] := by rfl) : CS' X fa T W (.Assign [.Subscript o i spos] e pos) (dSetIx eo ei de) :=
  mkS (ps_asg he (pg_sub ho hi set_list ha) hs hw h1) fun ρ μ m F σ H D o r h => useES o r h fun u μ1 v1 F1 H1 m1 e1 o1 r1 q1 p1 => useES o1 r1 p1 fun uo μ2 v2 F2 H2 m2 e2 o2 r2 q2 p2 => useES o2 r2 p2 fun ui μ3 v3 F3 H3 m3 e3 o3 r3 q3 p3 => by
    have q1 := (q1.gr e2).gr e3
    have q2 := q2.gr e3
    cases u with
    | d x => cases uo with
      | m k => cases ui with
        | d y => cases y with
          | int i =>
            obtain ⟨a, rfl, ha⟩ := rp_mut q2
            have hi := rp_int q3
            subst hi
            have p3 : PostS (gp X fa T) (bnd (dSet1 k i x) (fun _ => pur (.nx, ρ)) μ3) F3 H3 m3 ρ.length D W := p3
            unfold bnd dSet1 at p3
            cases hk : μ3[k]? with
            | none =>
              simp only [hk] at p3
              exact p3.elim
            | some w =>
              cases w with
              | lst ds =>
                simp only [hk] at p3
                cases hj : ixN ds.length i with
                | none =>
                  simp only [hj] at p3
                  exact p3.elim
                | some j =>
                  simp only [hj] at p3
                  obtain ⟨vs, b1, b2⟩ := o3.at_ k a _ ha hk
                  cases q1 with
                  | d q1 =>
                    obtain ⟨o4, e4⟩ := o3.put (u := .lst (vs.set j v1)) (mo' := .lst (ds.set j x)) ha hk (fun z => by cases z) b1 trivial ⟨_, upd_same, b2.set q1 j⟩
                    exact ⟨a, vs, i, j, rfl, rfl, b1, by rw [b2.len]; exact hj, p3 _ _ _ _ e4 o4 (r3.gr e4) rfl⟩
              | dct _ =>
                simp only [hk] at p3
                exact p3.elim
              | obj _ _ =>
                simp only [hk] at p3
                exact p3.elim
              | gone =>
                simp only [hk] at p3
                exact p3.elim
          | _ => exact p3.elim
        | _ => exact p3.elim
      | _ => exact p3.elim
    | _ => exact p3.elim
/-! ### sorted -/
def sortB (ds : List PyData) : Bool := (ds.all fun x => ds.all fun y => PySem.W.alike x y) && ((ds.all fun d => match d with
    | .tuple (_ :: _) => true
    | _ => false) || ds.all fun d => match d with
    | .none => false
    | .tuple _ => false
    | _ => true) && decide (PyData.depthAll ds ≤ 100) && decide (ds.length ≤ big)
/-- insertion, from the left -/
def insB {α : Type} (le : α → α → Bool) (a : α) : List α → List α
  | [] => [a]
  | b :: l => if le a b = true then a :: b :: l else b :: insB le a l
def isort {α : Type} (le : α → α → Bool) : List α → List α
  | [] => []
  | a :: l => insB le a (isort le l)
theorem insB_mem {α : Type} {le : α → α → Bool} {a c : α} : ∀ {l : List α}, c ∈ insB le a l → c = a ∨ c ∈ l
  | [], h => .inl (by simpa [insB] using h)
  | b :: l, h => by
    unfold insB at h
    by_cases hb : le a b = true
    · rw [if_pos hb] at h
      rcases List.mem_cons.mp h with h | h
      · exact .inl h
      · exact .inr h
    · rw [if_neg hb] at h
      rcases List.mem_cons.mp h with h | h
      · exact .inr (by rw [h]; exact List.mem_cons_self)
      · exact (insB_mem h).imp id (List.mem_cons_of_mem _)
theorem isort_mem {α : Type} {le : α → α → Bool} {c : α} : ∀ {l : List α}, c ∈ isort le l → c ∈ l
  | a :: l, h => by
    rcases insB_mem h with h | h
    · rw [h]
      exact List.mem_cons_self
    · exact List.mem_cons_of_mem _ (isort_mem h)
theorem insB_sorted {α : Type} {le : α → α → Bool} (t : PySem.W.TotalLe le) {a : α} : ∀ {l : List α}, l.Pairwise (fun a b => le a b = true) → (insB le a l).Pairwise (fun a b => le a b = true)
  | [], _ => by simp [insB]
  | b :: l, h => by
    obtain ⟨h1, h2⟩ := List.pairwise_cons.mp h
    unfold insB
    by_cases hb : le a b = true
    · rw [if_pos hb]
      refine List.pairwise_cons.mpr ⟨fun c hc => ?_, h⟩
      rcases List.mem_cons.mp hc with hc | hc
      · rw [hc]
        exact hb
      · exact t.trans _ _ _ hb (h1 c hc)
    · rw [if_neg hb]
      refine List.pairwise_cons.mpr ⟨fun c hc => ?_, insB_sorted t h2⟩
      rcases insB_mem hc with hc | hc
      · rw [hc]
        exact (t.total a b).resolve_left hb
      · exact h1 c hc
theorem isort_sorted {α : Type} {le : α → α → Bool} (t : PySem.W.TotalLe le) : ∀ l : List α, (isort le l).Pairwise (fun a b => le a b = true)
  | [] => .nil
  | a :: l => insB_sorted t (isort_sorted t l)
theorem insB_rank {α : Type} {le : α → α → Bool} (t : PySem.W.TotalLe le) {a c : α} : ∀ l : List α, (insB le a l).filter (PySem.W.sameRank le c) = (a :: l).filter (PySem.W.sameRank le c)
  | [] => rfl
  | b :: l => by
    unfold insB
    by_cases hb : le a b = true
    · rw [if_pos hb]
    · rw [if_neg hb, List.filter_cons, insB_rank t l, List.filter_cons, List.filter_cons, List.filter_cons]
      by_cases ha : PySem.W.sameRank le c a = true
      · by_cases hc : PySem.W.sameRank le c b = true
        · exfalso
          unfold PySem.W.sameRank at ha hc
          rw [Bool.and_eq_true] at ha hc
          exact hb (t.trans _ _ _ ha.2 hc.1)
        · simp [ha, hc]
      · simp [ha]
theorem isort_rank {α : Type} {le : α → α → Bool} (t : PySem.W.TotalLe le) {c : α} : ∀ l : List α, (isort le l).filter (PySem.W.sameRank le c) = l.filter (PySem.W.sameRank le c)
  | [] => rfl
  | a :: l => by
    show (insB le a (isort le l)).filter _ = _
    rw [insB_rank t, List.filter_cons, isort_rank t l, List.filter_cons]
theorem isort_eq {α : Type} {le : α → α → Bool} (t : PySem.W.TotalLe le) (l : List α) : l.mergeSort le = isort le l :=
  PySem.W.sort_one t _ _ (PySem.W.sort_pairwise t l) (isort_sorted t l) fun c => (PySem.W.sort_stable t l c).trans (isort_rank t l).symm
def sortD (ds : List PyData) : List PyData := isort (PySem.W.dataLe false id) ds
theorem sortD_eq (ds : List PyData) : ds.mergeSort (PySem.W.dataLe false id) = sortD ds := isort_eq (PySem.W.sortLe_total _ _ _) ds
def sortedP : PyData → Option PyData
  | .list ds => if sortB ds = true then some (.list (sortD ds)) else none
  | _ => none
theorem each_of {K : PySem.W.Frag} {F : Hp} : ∀ {ds : List PyData} {vs : List V} {us : List Value}, DqAll K F vs ds → Vals vs us → PySem.W.EachIs (fun u d => ∃ v, RelV v u ∧ Dq K F v d) us ds
  | [], _, _, h, r => by cases h; cases r; exact .nil
  | d :: ds, _, _, h, r => by
    cases h with
    | cons h1 h2 =>
      cases r with
      | cons r1 r2 => exact .cons ⟨_, r1, h1⟩ (each_of h2 r2)
theorem of_each {K : PySem.W.Frag} {F : Hp} : ∀ {ds : List PyData} {us : List Value}, PySem.W.EachIs (fun u d => ∃ v, RelV v u ∧ Dq K F v d) us ds → ∃ vs, Vals vs us ∧ DqAll K F vs ds
  | [], _, h => by cases h; exact ⟨[], .nil, .nil⟩
  | d :: ds, _, h => by
    cases h with
    | cons h1 h2 =>
      obtain ⟨v, a1, a2⟩ := h1
      obtain ⟨vs, b1, b2⟩ := of_each h2
      exact ⟨v :: vs, .cons a1 b1, .cons a2 b2⟩
theorem depth_all : ∀ {ds : List PyData} {d : PyData}, d ∈ ds → d.depth ≤ PyData.depthAll ds
  | y :: ys, d, h => by
    unfold PyData.depthAll
    rcases List.mem_cons.mp h with rfl | h
    · omega
    · have := depth_all h
      omega
theorem cr_sortedP (hu : X.A.units + 110 < cLine) : CallR X (.builtin "sorted") (rc1 (gp X fa T) sortedP) := by
  intro pins s σ H vs us Q I rs ⟨F, μ, m, x, dx, z, e0, o, hx, e, k⟩
  subst e0
  cases dx with
  | list ds =>
    have e : (if sortB ds = true then some (PyData.list (sortD ds)) else none) = some z := e
    by_cases hb : sortB ds = true
    · rw [if_pos hb] at e
      cases e
      unfold sortB at hb
      rw [Bool.and_eq_true, Bool.and_eq_true, Bool.and_eq_true] at hb
      obtain ⟨⟨⟨hal, hso⟩, hd⟩, hl⟩ := hb
      have hd := of_decide_eq_true hd
      have hl := of_decide_eq_true hl
      obtain ⟨a, ws, ea, ha, ra⟩ := hx.lst o.ex
      subst ea
      obtain ⟨_, its, n, rv, _, ob, eo, eo1, eo2, eo3⟩ := rd_lst I ha
      rw [Vals.ref1 rs]
      have er := each_of ra rv
      have hL : (X.A.units + 2) + 100 < cLine := by omega
      refine PySem.W.sorted_data (enc := id) (l := a) (bs := ds) (vs := its) ⟨_, eo, eo1, n, eo3⟩ er (er.mono fun u d ⟨v, r1, r2⟩ => Dp.reads I _ _ _ (Dq.dp _ _ (Dq.mo o.ex _ _ r2)) r1) ?_ ?_ (big_line hl) ?_ fun out hlen ho => ?_
      · intro d hd d' hd'
        rw [List.map_id] at hd hd'
        exact List.all_eq_true.mp (List.all_eq_true.mp hal d hd) d' hd'
      · rw [List.map_id]
        rw [Bool.or_eq_true] at hso
        rcases hso with hso | hso
        · refine .inl fun d hd => ?_
          have := List.all_eq_true.mp hso d hd
          split at this
          · exact ⟨_, _, rfl⟩
          · cases this
        · refine .inr fun d hd => ?_
          have := List.all_eq_true.mp hso d hd
          split at this
          · cases this
          · cases this
          · rename_i h1 h2
            exact ⟨h1, h2⟩
      · intro b hb
        have := depth_all hb
        show X.A.units + 2 + b.depth < cLine
        omega
      · rw [sortD_eq] at ho
        obtain ⟨vs2, rv2, rd2⟩ := of_each ho
        obtain ⟨ep, he'⟩ := PyProof.Rows.sortedAll_at s.heap its out.toArray
        have hp := I.hok.fresh (Nat.le_succ s.heap.objs.size)
        obtain ⟨o2, e2⟩ := o.froz (p := s.heap.objs.size + 1) (u := .lst vs2) hp (fun _ z => by cases z)
        have l2 : vs2.length ≤ sizeLine := by
          rw [rv2.length, hlen]
          exact big_line hl
        refine ⟨.ref _, upd H (s.heap.objs.size + 1) (.lst vs2), I.laid (t' := s.toks) (fun _ _ => PyProof.Rows.sortedAll_old) (Nat.le_succ _) ⟨l2, out, ep, rv2, he'⟩, rfl, k _ _ _ e2 o2 (.lst (sq_of upd_same) (DqAll.mo e2.ef _ _ rd2))⟩
    · rw [if_neg hb] at e
      cases e
  | _ => cases e
/-! ### 'sep'.join(xs) -/
def strsOf : List PyData → Option (List Str)
  | [] => some []
  | .str z :: r => (match strsOf r with
    | some ns => some (z :: ns)
    | none => none)
  | _ :: _ => none
theorem strsOf_vals {K : PySem.W.Frag} {F : Hp} : ∀ {xs : List PyData} {vs : List V} {bs : List Str}, DqAll K F vs xs → strsOf xs = some bs → vs = bs.map V.str
  | [], _, _, h, e => by cases h; cases e; rfl
  | .str b :: r, _, bs, h, e => by
    cases h with
    | cons h1 h2 =>
      cases h1
      unfold strsOf at e
      cases er : strsOf r with
      | none =>
        rw [er] at e
        cases e
      | some cs =>
        rw [er] at e
        cases e
        rw [strsOf_vals h2 er, List.map_cons]
  | .none :: _, _, _, _, e => by cases e
  | .int _ :: _, _, _, _, e => by cases e
  | .bool _ :: _, _, _, _, e => by cases e
  | .list _ :: _, _, _, _, e => by cases e
  | .tuple _ :: _, _, _, _, e => by cases e
  | .dict _ :: _, _, _, _, e => by cases e
def joinU (a : Str) : U → Option U
  | .d (.list xs) => (match strsOf xs with
    | some ys => if (ys.map (·.length)).sum + ys.length * a.length ≤ 16777216 then some (.d (.str (Txt.join a ys))) else none
    | none => none)
  | _ => none
def dJoin (eo e : DE) : DE := fun ρ => bnd (eo ρ) fun uo => match uo with
  | .d (.str a) => bnd (e ρ) fun u => ofO (joinU a u)
  | _ => stk
theorem rp_str {g : Gp} {F : Hp} {m : List Addr} {v : V} {z : Str} (h : Rp g F m v (.d (.str z))) : v = .str z := by
  cases h with
  | d h => cases h; rfl
theorem dp_join {o e : Expr} {eo de : DE} {apos pos : Pos} (ho : CE' X fa T W o eo) (he : CE' X fa T W e de) (hs : starEach [e] X.env = [(false, eval e X.env)] := by rfl) (hbase : attributeBase o "join" X.env (eval o X.env) = eval o X.env := by rfl) (hline : (apos.endLine == pos.line) = true := by rfl) :
    CE' X fa T W (.Call (.Attribute o "join" apos) [e] [] pos) (dJoin eo de) := mkE (pe_join ho he hs hbase hline) fun ρ μ m F σ H Q o r h => useE o r h fun uo μ1 v1 F1 H1 m1 e1 o1 r1 q1 p1 => by
  split at p1
  · rename_i a
    have q1 := rp_str q1
    subst q1
    refine ⟨⟨a, rfl⟩, useE o1 r1 p1 fun u μ2 v2 F2 H2 m2 e2 o2 r2 q2 p2 => ?_⟩
    obtain ⟨w, hw, p2⟩ := post_ofO p2
    unfold joinU at hw
    split at hw
    · rename_i xs
      cases es : strsOf xs with
      | none =>
        rw [es] at hw
        cases hw
      | some ys =>
        rw [es] at hw
        have hw : (if (ys.map (·.length)).sum + ys.length * a.length ≤ 16777216 then some (U.d (.str (Txt.join a ys))) else none) = some w := hw
        by_cases hl : (ys.map (·.length)).sum + ys.length * a.length ≤ 16777216
        · rw [if_pos hl] at hw
          cases hw
          obtain ⟨p, vs, rfl, b1, b2⟩ := rp_dl q2
          rw [strsOf_vals b2 es] at b1
          exact ⟨a, p, ys, rfl, rfl, .inl (ex_l o2.ex b1), hl, post_here p2 o2 (.d (.str _))⟩
        · rw [if_neg hl] at hw
          cases hw
    · cases hw
  · exact p1.elim
end
end DL

/-! The data layer, part 9: within an except suite (an exception is handled): walks of lists, pairs taken apart, comprehensions, isinstance. The steps follow the library's own for the calm case. -/
namespace DL
open PySem PySem.Spec PyProof.Rows L2 Evl LamX HotX L2H

section
variable {prog : Program} {w : World} {A : Around} {E : Value → Shared → Prop} {s : Shared}
theorem list_end_hot {it l x1 : Addr} {i : Nat} {items : Array Value} {Q : Option Value → Shared → Prop} (hot : HotAt A x1 s.heap) (hne : x1 ≠ it)
    (hit : s.heap.IsListIter it l i) (hl : s.heap.IsList l items) (hx : items[i]? = none)
    (hQ : ∀ h', Heap.ExtBut it s.heap h' → Q none { s with heap := h' }) : wpAny (model prog w) A (pyNext (.ref it)) Q E s := by
  obtain ⟨hh, o1, vs1, h1, d1, c1⟩ := hot
  obtain ⟨o, ho, hc, hd⟩ := id hit
  obtain ⟨ol, hol, _, nl, hdl⟩ := hl
  unfold pyNext
  refine wpAny_bind (wpAny_attempt (wpAny_callSpecial?_slot (name := Str.ofString "__next__") hit.typeIs slot_listiter_next
    (wpAny_call_entry slot_listiter_next hit.typeIs entry_listiter_next ?_ (args_listiter_next _))))
  show wpAny _ _ (field (.ref it) 0 >>= _) _ _ s
  refine wpAny_bind (wpAny_field ho hd (x := .ref l) rfl ?_)
  show wpAny _ _ (if (Value.ref l == Value.none) = true then _ else _) _ _ s
  rw [if_neg (show ¬ ((Value.ref l == Value.none) = true) from Bool.false_ne_true)]
  show wpAny _ _ (field (.ref it) 1 >>= _) _ _ s
  refine wpAny_bind (wpAny_field ho hd (x := .int i 0) rfl ?_)
  show wpAny _ _ (seqItems? (.ref l) >>= _) _ _ s
  refine wpAny_bind (wpAny_seqItems hol hdl ?_)
  simp only [Int.toNat_natCast, hx]
  refine wpAny_bind (wpAny_rule (wpAny_bind (wpAny_setField ho hd (by simp) ?_)))
  have sb : Heap.SameBut it s.heap (s.heap.update it (Obj.mapFields (·.setIfInBounds 0 Value.none))) := Heap.SameBut.update ..
  have k1 := (sb.2 x1 hne).trans h1
  show wpAny _ _ (newExc (.type "StopIteration") [] >>= _) _ _ _
  refine wpAny_bind ?_
  simp only [newExc, newTuple]
  refine wpAny_bind (wpAny_newObj_type ?_ (by size_fits))
  refine wpAny_bind (m := firstArgMember _ _) (wpAny_of_eq (a := Value.none) (by first | rfl | (simp only [firstArgMember]; rfl)) ?_)
  refine wpAny_newObj_type ?_ (by size_fits)
  refine raiseNew_hot ⟨hh, o1, vs1, Heap.get?_push_of_some _ (Heap.get?_push_of_some _ k1), d1, c1⟩ (Nat.ne_of_lt (Heap.lt_size (Heap.get?_push_of_some _ k1))) (Heap.get?_push_size _ rfl) rfl (by first | (simp; done) | (simp; omega) | (simp only [Array.size_append]; simp; omega)) ?_
  refine wpAny_bind (wpAny_isInstance (T := "StopIteration") (b := true) ⟨_, Heap.get?_update_self _ (Heap.get?_push_size _ rfl) rfl, rfl⟩ isSubtype_stop ?_)
  refine wpAny_pure (hQ _ fun b ob hb e => ?_)
  have e1 := (sb.2 b hb).trans e
  rw [Heap.get?_update_other _ _ (Nat.ne_of_gt (Heap.lt_size (Heap.get?_push_of_some _ e1)))]
  exact Heap.get?_push_of_some _ (Heap.get?_push_of_some _ e1)
theorem tuple_end_hot {it l x1 : Addr} {i : Nat} {items : Array Value} {Q : Option Value → Shared → Prop} (hot : HotAt A x1 s.heap) (hne : x1 ≠ it)
    (hit : s.heap.IsTupleIter it l i) (hl : s.heap.IsTuple l items) (hx : items[i]? = none)
    (hQ : ∀ h', Heap.ExtBut it s.heap h' → Q none { s with heap := h' }) : wpAny (model prog w) A (pyNext (.ref it)) Q E s := by
  obtain ⟨hh, o1, vs1, h1, d1, c1⟩ := hot
  obtain ⟨o, ho, hc, hd⟩ := id hit
  obtain ⟨ol, hol, _, nl, hdl⟩ := hl
  unfold pyNext
  refine wpAny_bind (wpAny_attempt (wpAny_callSpecial?_slot (name := Str.ofString "__next__") hit.typeIs F.slot_tuple_iterator_next
    (wpAny_call_entry F.slot_tuple_iterator_next hit.typeIs F.entry_tuple_iterator_next ?_ (F.args_tuple_iterator_next_1 _))))
  show wpAny _ _ (field (.ref it) 0 >>= _) _ _ s
  refine wpAny_bind (wpAny_field ho hd (x := .ref l) rfl ?_)
  show wpAny _ _ (if (Value.ref l == Value.none) = true then _ else _) _ _ s
  rw [if_neg (show ¬ ((Value.ref l == Value.none) = true) from Bool.false_ne_true)]
  show wpAny _ _ (field (.ref it) 1 >>= _) _ _ s
  refine wpAny_bind (wpAny_field ho hd (x := .int i 0) rfl ?_)
  show wpAny _ _ (seqItems? (.ref l) >>= _) _ _ s
  refine wpAny_bind (wpAny_seqItems hol hdl ?_)
  simp only [Int.toNat_natCast, hx]
  refine wpAny_bind (wpAny_rule (wpAny_bind (wpAny_setField ho hd (by simp) ?_)))
  have sb : Heap.SameBut it s.heap (s.heap.update it (Obj.mapFields (·.setIfInBounds 0 Value.none))) := Heap.SameBut.update ..
  have k1 := (sb.2 x1 hne).trans h1
  show wpAny _ _ (newExc (.type "StopIteration") [] >>= _) _ _ _
  refine wpAny_bind ?_
  simp only [newExc, newTuple]
  refine wpAny_bind (wpAny_newObj_type ?_ (by size_fits))
  refine wpAny_bind (m := firstArgMember _ _) (wpAny_of_eq (a := Value.none) (by first | rfl | (simp only [firstArgMember]; rfl)) ?_)
  refine wpAny_newObj_type ?_ (by size_fits)
  refine raiseNew_hot ⟨hh, o1, vs1, Heap.get?_push_of_some _ (Heap.get?_push_of_some _ k1), d1, c1⟩ (Nat.ne_of_lt (Heap.lt_size (Heap.get?_push_of_some _ k1))) (Heap.get?_push_size _ rfl) rfl (by first | (simp; done) | (simp; omega) | (simp only [Array.size_append]; simp; omega)) ?_
  refine wpAny_bind (wpAny_isInstance (T := "StopIteration") (b := true) ⟨_, Heap.get?_update_self _ (Heap.get?_push_size _ rfl) rfl, rfl⟩ isSubtype_stop ?_)
  refine wpAny_pure (hQ _ fun b ob hb e => ?_)
  have e1 := (sb.2 b hb).trans e
  rw [Heap.get?_update_other _ _ (Nat.ne_of_gt (Heap.lt_size (Heap.get?_push_of_some _ e1)))]
  exact Heap.get?_push_of_some _ (Heap.get?_push_of_some _ e1)
theorem unpackItems_hot {t x1 : Addr} {items : Array Value} {Q : List Value → Shared → Prop} (hot : HotAt A x1 s.heap) (ht : s.heap.IsTuple t items)
    (hQ : ∀ h', Heap.ExtBut s.heap.objs.size s.heap h' → Q items.toList { s with heap := h' }) : wpAny (model prog w) A (unpackItems (.ref t) items.size none) Q E s := by
  have hlt : t ≠ s.heap.objs.size := by obtain ⟨o, ho, _⟩ := ht; exact Nat.ne_of_lt (Heap.lt_size ho)
  obtain ⟨hh, o1, vs1, h1, d1, c1⟩ := hot
  have hx1 : x1 ≠ s.heap.objs.size := Nat.ne_of_lt (Heap.lt_size h1)
  unfold unpackItems
  refine wpAny_bind ?_
  · unfold notIterableAtAll
    refine wpAny_bind (wpAny_specialOf ht.typeIs slot_tuple_iter.lookup ?_)
    refine wpAny_pure ?_
    simp only [Bool.false_eq_true, if_false]
    refine wpAny_bind (wpAny_holding (iter_tuple ht ?_))
    refine wpAny_bind (wpAny_holding (draw_tuple hlt items.size 0 _ _ ⟨_, Heap.get?_push_size _ rfl, rfl, rfl⟩ (IsTup.push ht _) (by omega) fun h₁ hit₁ hs₁ => ?_))
    have hall : List.take items.size (List.drop 0 items.toList) = items.toList := by
      rw [List.drop_zero]; exact List.take_of_length_le (by simp)
    rw [hall]
    rw [if_neg (by simp)]
    have ht₁ : IsTup h₁ t items := (IsTup.push ht _).extBut hs₁.extBut hlt
    have g1 : h₁.get? x1 = some o1 := (hs₁.2 x1 hx1).trans (Heap.get?_push_of_some _ h1)
    refine wpAny_bind (wpAny_holding (tuple_end_hot ⟨hh, o1, vs1, g1, d1, c1⟩ hx1 hit₁ ht₁ (by simp) fun h₂ he₂ => ?_))
    simp only [Option.isSome_none, Bool.false_eq_true, if_false]
    refine wpAny_pure (hQ h₂ fun b o hb e => he₂ b o hb (hs₁.extBut b o hb (Heap.get?_push_of_some _ e)))
theorem assign_tuple_hot {env : Env} {elts : List Expr} {k : Nat} {pos : Pos} {t x1 : Addr} {items : Array Value} {Q : Unit → Shared → Prop} (hot : HotAt A x1 s.heap) (ht : s.heap.IsTuple t items)
    (hn : (assignEach elts env).length = items.size) (hstar : (assignEach elts env).findIdx? (·.1) = none)
    (h : ∀ h', Heap.ExtBut s.heap.objs.size s.heap h' → wpAny (model prog w) A (assignInOrder ((assignEach elts env).map (·.2)) items.toList) Q E { s with heap := h' }) :
    wpAny (model prog w) A (assign (.Tuple elts k pos) env (.ref t)) Q E s := by
  rw [assign_Tuple]
  refine wpAny_bind (wpAny_standAt ?_)
  unfold unpack
  rw [hn, hstar]
  exact wpAny_bind (wpAny_holding (unpackItems_hot hot ht h))
end
section
variable {X : Cx} {fa : Nat → V} {T : TZ} {W : WX} {g : Gp}
theorem pg_tupH {es : List Expr} {k n : Nat} {pos : Pos} {t : TGs} (hc : HotC X) (h : PGs X es t)
    (hn : (assignEach es X.env).length = n := by rfl) (hst : (assignEach es X.env).findIdx? (·.1) = none := by rfl) : PG X (.Tuple es k pos) (gTup X.K n t) := by
  refine ⟨fun pins s σ H v u Q I r hw => ?_⟩
  obtain ⟨a, xs, e1, hq, hl, hw⟩ := hw
  subst e1
  cases r
  obtain ⟨its, rv, ht, hz⟩ := I.tuple hq
  obtain ⟨x1, hot⟩ := hc.at I
  refine assign_tuple_hot hot ht (by simp [hn, ← hl, rv.length]) hst fun h' hx => ?_
  have I1 : Inv X pins σ H { s with heap := h' } := I.kept (t' := s.toks) fun b o e => hx b o (Nat.ne_of_lt (Heap.lt_size e)) e
  exact h.run pins _ σ H xs _ Q I1 (by simpa using rv) hw
/-! ### a list walked there -/
/-- the handled exception is pinned -/
def HotO (X : Cx) (pins : List (Addr × Obj)) : Prop := ∃ p : Addr × Obj, Hot1 X.A p ∧ p ∈ X.pn ++ pins
/-- .. or there is none -/
def HotP (X : Cx) (pins : List (Addr × Obj)) : Prop := X.calm = true ∨ HotO X pins
theorem HotO.at {pins : List (Addr × Obj)} {σ : L2.St} {H : Hp} {s : Shared} (c : HotO X pins) (I : Inv X pins σ H s) : ∃ p : Addr × Obj, HotAt X.A p.1 s.heap ∧ Hot1 X.A p ∧ p ∈ X.pn ++ pins := by
  obtain ⟨p, ⟨hh, v1, e1, c1⟩, hp⟩ := c
  exact ⟨p, ⟨hh, p.2, v1, (I.pin p hp).1, e1, c1⟩, ⟨hh, v1, e1, c1⟩, hp⟩
structure TurnP (P : Program) (w : World) (K : PySem.W.Frag) (tg : Expr) (J : It) (it : Addr) (tn : Nat → Heap → Prop) : Prop where
  obj : ∀ i h, tn i h → ∃ o, h.get? it = some o ∧ ∀ v, o.data ≠ .cell v
  keep : ∀ i h h', tn i h → (∀ o, h.get? it = some o → h'.get? it = some o) → tn i h'
  item : ∀ (X : Cx), X.prog = P → X.w = w → X.K = K → ∀ (i : Nat) (pins : List (Addr × Obj)) (s : Shared) (σ : L2.St) (H : Hp) (E : Value → Shared → Prop), HotP X pins → Inv X pins σ H s → FpOk X pins H it → tn i s.heap → J.go i H →
    wpAny (model P w) X.A (pyNext (.ref it)) (fun r s1 => ∃ u, r = some u ∧
      wpAny (model P w) X.A (letOwnedTupleGo tg (.ref it) u) (fun _ s2 => ∃ x H', Inv X pins σ H' s2 ∧ RelV x u ∧ J.yld i H x H' ∧ tn (i + 1) s2.heap ∧ H' it = none) E s1) E s
  done : ∀ (X : Cx), X.prog = P → X.w = w → X.K = K → ∀ (i : Nat) (pins : List (Addr × Obj)) (s : Shared) (σ : L2.St) (H : Hp) (E : Value → Shared → Prop), HotP X pins → Inv X pins σ H s → FpOk X pins H it → tn i s.heap → J.stop i H →
    wpAny (model P w) X.A (pyNext (.ref it)) (fun r s1 => r = none ∧ Inv X pins σ H s1) E s
  self : ∀ (A : Around) (i : Nat) (s : Shared) (Q : Value → Shared → Prop) (E : Value → Shared → Prop), tn i s.heap → Q (.ref it) s → wpAny (model P w) A (pyIter (.ref it)) Q E s
theorem turn_listP {P : Program} {w : World} {K : PySem.W.Frag} {tg : Expr} (a it : Addr) : TurnP P w K tg (Itl K a) it (fun i h => h.IsListIter it a i) where
  obj := fun i h st => by
    obtain ⟨o, e, c, d⟩ := st
    exact ⟨o, e, fun v z => by rw [d] at z; cases z⟩
  keep := fun i h h' st k => st.at fun o e => k o e
  item := by
    intro X hP hw hK i pins s σ H E _ I hf st hg
    subst hP hw hK
    obtain ⟨xs, x, hq, hx⟩ := hg
    obtain ⟨its, rv, p, hz⟩ := I.list hq
    obtain ⟨u, hu, ru⟩ := rv.get hx
    obtain ⟨f0, f1, f2, f3, f4, f5⟩ := hf
    refine wpAny_pyNext_list_item st p.isList (x := u) (by simpa using hu) fun h' st' sb => ?_
    have I1 : Inv X pins σ H { s with heap := h' } := I.turned (t' := s.toks) (fun b o hb e => (sb.2 b hb).trans e) f0 f1 f3 f4 f5
    obtain ⟨o, e, c, d⟩ := id st'
    exact ⟨u, rfl, go_of (s := { s with heap := h' }) e c d (by decide) ⟨x, H, I1, ru, ⟨rfl, fun ys hy => by rw [I.list_inj hy hq]; exact hx⟩, st', f0⟩⟩
  done := by
    intro X hP hw hK i pins s σ H E hot I hf st hg
    subst hP hw hK
    obtain ⟨xs, hq, hx⟩ := hg
    obtain ⟨its, rv, p, hz⟩ := I.list hq
    obtain ⟨f0, f1, f2, f3, f4, f5⟩ := hf
    have hl := rv.length
    rcases hot with hc | hot
    · exact wpAny_pyNext_list_end (I.ok.hd hc) st p.isList (by simp; omega) fun h' eb => ⟨rfl, I.turned (t' := s.toks) (fun b o hb e => eb b o hb e) f0 f1 f3 f4 f5⟩
    obtain ⟨q, hot, _, hm⟩ := hot.at I
    exact list_end_hot hot (f5 q hm) st p.isList (by simp; omega) fun h' eb => ⟨rfl, I.turned (t' := s.toks) (fun b o hb e => eb b o hb e) f0 f1 f3 f4 f5⟩
  self := fun _ _ _ _ _ st h => wpAny_pyIter_listiter st h
def PIEP (X : Cx) (pins : List (Addr × Obj)) (σ : L2.St) (tg : Expr) (R : It → Hp → Prop) (itv : Value) (s2 : Shared) : Prop :=
  ∃ (it : Addr) (tn : Nat → Heap → Prop) (J : It) (H' : Hp), itv = .ref it ∧ Inv X pins σ H' s2 ∧ TurnP X.prog X.w X.K tg J it tn ∧ tn 0 s2.heap ∧ FpOk X pins H' it ∧ R J H'
structure PIP (X : Cx) (tg iter : Expr) (wi : TI) : Prop where
  run : ∀ (pins : List (Addr × Obj)) (s : Shared) (σ : L2.St) (H : Hp) (R : It → Hp → Prop), Inv X pins σ H s → wi σ H R →
    wpAny (model X.prog X.w) X.A (eval iter X.env) (fun v s1 => wpAny (model X.prog X.w) X.A (pyIter v) (PIEP X pins σ tg R) X.xe s1) X.xe s
/-- a list walked -/
def lstOnly : U → Option (List U)
  | .d (.list xs) => some (xs.map .d)
  | .li us => some us
  | _ => none
def dSqL (de : DE) : DI := fun ρ => bnd (de ρ) fun u => ofO (lstOnly u)
theorem di_seqP {tg l : Expr} {dl : DE} (hl : CE' X fa T W l dl) : PIP X tg l (canI (gp X fa T) W (dSqL dl)) := ⟨fun pins s σ H R I ⟨ρ, μ, m, F, o, r, p⟩ => by
  have hh := hl.run pins s σ H (fun x H1 => ∃ μ1 F1 m1 u, Ok (gp X fa T) F1 μ1 m1 H1 ∧ Rp (gp X fa T) F1 m1 x u ∧ Post (gp X fa T) (RI (gp X fa T)) (ofO (lstOnly u) μ1) F1 H1 m1 R (fun c d H' => W c d σ H')) I
    (useE o r p fun u μ1 v F1 H1 m1 e1 o1 r1 q1 p1 => ⟨μ1, F1, m1, u, o1, q1, p1⟩)
  refine thn hh fun v s1 ⟨x, H1, I1, rv, μ1, F1, m1, u, o1, q1, p1⟩ => ?_
  obtain ⟨us, hu, p1⟩ := post_ofO p1
  have isL : ∀ a vs, x = .ref a → SqL X.K F1 a vs → RpAll (gp X fa T) F1 m1 vs us → wpAny (model X.prog X.w) X.A (pyIter v) (PIEP X pins σ tg R) X.xe s1 := fun a vs ex hq ra => by
    subst ex
    cases rv
    obtain ⟨its, rv, p, hz⟩ := I1.list (ex_l o1.ex hq)
    refine wpAny_pyIter_list p.isList ?_
    refine ⟨s1.heap.objs.size, _, _, H1, rfl, I1.kept (t' := s1.toks) fun b o e => Heap.get?_push_of_some _ e, turn_listP a _, ⟨_, Heap.get?_push_size _ rfl, rfl, rfl⟩, ?_, post_here p1 o1 (itr_l hq ra)⟩
    exact I1.fpOk (Nat.le_refl _) (I1.hok.fresh (Nat.le_refl _))
  cases q1 with
  | @d v x q1 =>
    cases q1 with
    | lst a1 a2 =>
      cases hu
      exact isL _ _ rfl a1 (rp_ds a2)
    | _ => cases hu
  | tu a1 a2 => cases hu
  | li a1 a2 =>
    cases hu
    exact isL _ _ rfl a1 a2
  | m _ => cases hu
  | fn => cases hu⟩
/-- the block's context, the handled exception pinned -/
abbrev blkP (X : Cx) (s : Shared) (H : Hp) (scope : Scope) (cenv : Env) (fp : List Addr) : Cx := (X.blk s H scope cenv fp).tr X.pn (fun _ _ => False)
theorem lc_hot {pins : List (Addr × Obj)} {s : Shared} {σ : L2.St} {H : Hp} {Q : VK} {elt tg iter : Expr} {ifs : List Expr} {scope : Scope} {own : List (Str × Nat)} {pos pos' : Pos} {wi : TI} {gt : TG} {tt : TT} {te : TE} {use : Option (Value → Sem Unit)} {Qf : Value → Shared → Prop} {Φ : Shared → Hp → List Addr → Prop}
    (hc : X.calm = true ∨ HotC X) (hΦ : ∀ (s : Shared) (H : Hp) (fp : List Addr), Inv X pins σ H s → (∀ b ∈ fp, ∀ x c, X.env.cells.lookup x = some c → c ≠ b) → Φ s H fp) (hN : X.N.Nodup) (I : Inv X pins σ H s) (hi : PIP X tg iter wi) (ok : BlkOk X.N X.env.scope scope own)
    (hg : ∀ (s : Shared) (H : Hp) (C : Addr) (cl : List (Str × Addr)) (fp : List Addr), PG (blkP X s H scope (compEnvC scope cl C X.env) fp) tg gt) (ht : ∀ (s : Shared) (H : Hp) (C : Addr) (cl : List (Str × Addr)) (fp : List Addr), Φ s H fp → PTs (blkP X s H scope (compEnvC scope cl C X.env) fp) ifs tt)
    (he : ∀ (s : Shared) (H : Hp) (C : Addr) (cl : List (Str × Addr)) (fp : List Addr), Φ s H fp → PE (blkP X s H scope (compEnvC scope cl C X.env) fp) elt te) (hs : ∀ x, foldedSetIterable iter X.env x = pure x)
    (h : tLc wi gt tt te (own.map (·.2)) σ H Q)
    (hRR : ∀ D C s' m H', Inv X pins σ H' s' → Q (.ref D) H' → s'.heap.Ns C m → FpOk X pins H' C → compPost (model X.prog X.w) X.A X.xe use Qf (.ref D) C (.ok .next) s') :
    wpAny (model X.prog X.w) X.A (comprehension (.ListComp elt [⟨tg, iter, ifs, 0⟩] scope pos) scope X.env pos' (newList []) false (eval iter X.env) use) Qf X.xe s := by
  have hfree : ∀ y ∈ scope.names, y.2 = .free → ∃ c, X.env.cells.lookup y.1 = some c := fun y hy e => by
    rcases ok.free y hy e with k | k
    · exact I.ok.has _ (.inl k)
    · exact I.ok.has _ (.inr k)
  refine wpAny_comprehension_free (use := use) rfl hs (closure_ok hfree) ok.kind (fun y hy e => by rw [ok.uniq y hy, e])
    (thn (hi.run pins s σ H _ I h) fun xv s1 hx => thn hx fun itv s2 h2 => ?_)
  obtain ⟨it, tn, J, H2, e, I2, T, st2, f2, q⟩ := h2
  subst e
  refine wpAny_newObj_type (newEnv_comp ?_) (by show 0 ≤ sizeLine; decide)
  generalize hD : s2.heap.objs.size = D
  have hDn : H2 D = none := I2.hok.fresh (Nat.le_of_eq hD)
  obtain ⟨W, ⟨m0, w0⟩, turn⟩ := q D hDn
  generalize hs3 : ({ s2 with heap := s2.heap.push { cls := .type "list", data := .seq ([] : List Value).toArray } } : Shared) = s3
  have I3 : Inv X pins σ (upd H2 D (.lst [])) s3 := by
    rw [← hs3]
    refine I2.laid (t' := s2.toks) (fun b o e => Heap.get?_push_of_some _ e) (Nat.le_of_eq hD) ⟨Nat.zero_le _, [], 0, .nil, ?_⟩
    rw [← hD]
    exact Heap.get?_push_size _ rfl
  have h3 : s3.heap = s2.heap.push { cls := .type "list", data := .seq ([] : List Value).toArray } := by rw [← hs3]
  have szt : it < s2.heap.objs.size := by
    obtain ⟨o, e, _⟩ := T.obj _ _ st2
    exact Heap.lt_size e
  have f3 : ∀ b ∈ [it], FpOk X pins (upd H2 D (.lst [])) b ∧ b < s3.heap.objs.size := fun b hb => by
    have e : b = it := by simpa using hb
    subst e
    refine ⟨⟨?_, f2.2⟩, by rw [h3, Heap.size_push]; exact Nat.lt_succ_of_lt szt⟩
    rw [upd_ne (by rw [← hD]; exact Nat.ne_of_lt szt)]
    exact f2.1
  have st3 : tn 0 s3.heap := T.keep _ _ _ st2 fun o e => by rw [h3]; exact Heap.get?_push_of_some _ e
  have I4 := block_start I3 ok hN f3
  have phi : Φ s3 (upd H2 D (.lst [])) [it] := hΦ _ _ _ I3 fun b hb x c e => (f3 b hb).1.2.2.2.2.1 x c e
  have pg := hg s3 (upd H2 D (.lst [])) s3.heap.objs.size (cellsFrom (s3.heap.objs.size + 1) scope.names (cloFrom X.env.cells scope.names [])) [it]
  have pt := ht s3 (upd H2 D (.lst [])) s3.heap.objs.size (cellsFrom (s3.heap.objs.size + 1) scope.names (cloFrom X.env.cells scope.names [])) [it] phi
  have pe := he s3 (upd H2 D (.lst [])) s3.heap.objs.size (cellsFrom (s3.heap.objs.size + 1) scope.names (cloFrom X.env.cells scope.names [])) [it] phi
  show codeAny _ _ (.compStart (.ListComp elt [⟨tg, iter, ifs, 0⟩] scope pos) 0 (.ref it) (.ref D) (compEnvC scope (cellsFrom (s3.heap.objs.size + 1) scope.names (cloFrom X.env.cells scope.names [])) s3.heap.objs.size X.env)) (compPost (model X.prog X.w) X.A X.xe use Qf (.ref D) s3.heap.objs.size) { s3 with heap := pushCells (s3.heap.push { cls := .type "dict", data := .dict #[] }) scope.names }
  have nit : (upd H2 D (.lst [])) it = none := (f3 it (by simp)).1.1
  have fit : FpOk X pins (upd H2 D (.lst [])) it := (f3 it (by simp)).1
  generalize hce : compEnvC scope (cellsFrom (s3.heap.objs.size + 1) scope.names (cloFrom X.env.cells scope.names [])) s3.heap.objs.size X.env = ce at I4 pg pt pe ⊢
  have cL : ce.locals = s3.heap.objs.size := by subst hce; rfl
  generalize hH3 : upd H2 D (.lst []) = H3 at I3 I4 pg pt pe w0 nit fit f3
  generalize hs4 : ({ s3 with heap := pushCells (s3.heap.push { cls := .type "dict", data := .dict #[] }) scope.names } : Shared) = s4 at I4 ⊢
  have st4 : tn 0 s4.heap := T.keep _ _ _ st3 fun o e => by rw [← hs4]; exact pushCells_keeps _ _ _ _ (Heap.get?_push_of_some _ e)
  -- the handled exception stays pinned within the block
  have I4p : Inv (blkP X s3 H3 scope ce [it]) [] (wipe σ (own.map (·.2))) H3 s4 := by
    have pz : Inv (X.blk s3 H3 scope ce [it]) X.pn (wipe σ (own.map (·.2))) H3 s4 := I4.pins_of fun p hp => by
      have hp : p ∈ X.pn := by simpa using hp
      obtain ⟨a1, a2, a3, a4, a5⟩ := I3.pin p (List.mem_append_left _ hp)
      refine ⟨?_, a2, ?_, ?_, a5⟩
      · rw [← hs4]
        exact pushCells_keeps _ _ _ _ (Heap.get?_push_of_some _ a1)
      · show p.1 ≠ ce.locals
        rw [cL]
        exact Nat.ne_of_lt (Heap.lt_size a1)
      · intro z
        exact (List.mem_cons.mp (I3.stkSub p.1 z)).elim a3 a4
    exact pz.toTry _
  have hotY : HotP (blkP X s3 H3 scope ce [it]) [] := by
    rcases hc with hc | ⟨p, h1, h2⟩
    · exact .inl hc
    · exact .inr ⟨p, h1, List.mem_append_left _ h2⟩
  have stat : ∀ {σ' : L2.St} {H' : Hp} {s' : Shared}, Inv (blkP X s3 H3 scope ce [it]) [] σ' H' s' → H' it = none → FpOk (blkP X s3 H3 scope ce [it]) [] H' it := fun {σ' H' s'} I' hn =>
    ⟨hn, (I'.ok.exf it (by exact List.mem_cons_self)).1, I'.ok.exfs it (by exact List.mem_cons_self), .inl (by exact List.mem_cons_self), fun x c e => (I'.ok.exf it (by exact List.mem_cons_self)).2 x c e, fun p hp => fit.2.2.2.2.2 p (by
      have hp : p ∈ X.pn := by simpa using hp
      exact List.mem_append_left _ hp)⟩
  have loop : codeAny (model X.prog X.w) X.A (.compLoop (.ListComp elt [⟨tg, iter, ifs, 0⟩] scope pos) 0 (.ref it) (.ref D) ce) (compPost (model X.prog X.w) X.A X.xe use Qf (.ref D) s3.heap.objs.size) s4 := by
    refine compLoop_any (fun n s' => ∃ i H', Inv (blkP X s3 H3 scope ce [it]) [] (wipe σ (own.map (·.2))) H' s' ∧ tn i s'.heap ∧ H' it = none ∧ W i n H') ?_ m0 ⟨0, H3, I4p, st4, nit, w0⟩
    rintro n s5 ⟨i, H5, I5, st5, n5, w5⟩
    rcases turn i n H5 w5 with ⟨stop, qq⟩ | ⟨go, Nx, hNx, step⟩
    · have td := T.done (blkP X s3 H3 scope ce [it]) rfl rfl rfl i [] s5 _ H5 (fun _ _ => False) hotY I5 (stat I5 n5) st5 stop
      refine thnF td fun r s6 ⟨hr, I6⟩ => ?_
      subst hr
      have I7 : Inv X pins σ H5 s6 := I3.call' (ch := [it]) I6.os I6.base I6.hok I6.bare fun b hb => ⟨(f3 b hb).1.2.2.2.1, (f3 b hb).1.2.1, (f3 b hb).1.2.2.2.2.1, (f3 b hb).1.2.2.2.2.2⟩
      have nC : H5 s3.heap.objs.size = none := by
        have z : H5 ce.locals = none := I6.free
        rw [cL] at z
        exact z
      obtain ⟨m, hn, _⟩ := I6.loc
      have hn : s6.heap.Ns ce.locals m := hn
      rw [cL] at hn
      exact hRR D s3.heap.objs.size s6 m H5 I7 qq hn (I3.fpOk (Nat.le_refl _) nC)
    · have ti := T.item (blkP X s3 H3 scope ce [it]) rfl rfl rfl i [] s5 _ H5 (fun _ _ => False) hotY I5 (stat I5 n5) st5 go
      refine thnF ti fun r s6 ⟨u, hr, h6⟩ => ?_
      subst hr
      refine thnF h6 fun _ s7 ⟨x, H7, I7, r7, y7, st7, n7⟩ => ?_
      have I7' := I7.pinned (fp := [it]) (fun b hb => by
        have e : b = it := by simpa using hb
        subst e
        exact stat I7 n7) (fun b hb => by
        have e : b = it := by simpa using hb
        subst e
        exact T.obj _ _ st7)
      refine thnF (pg.run _ s7 _ H7 x u _ I7' r7 (step x H7 y7)) fun _ s8 ⟨σ8, H8, I8, hw8, q8⟩ => ?_
      refine thnF (pt.run _ s8 σ8 H8 _ I8 q8) fun b s9 ⟨H9, I9, q9⟩ => ?_
      have fin : ∀ {s' : Shared} {H' : Hp}, Inv (blkP X s3 H3 scope ce [it]) ([] ++ pinsAt [it] s7.heap) σ8 H' s' → Nx H' → ∃ m, m < n ∧ ∃ i H', Inv (blkP X s3 H3 scope ce [it]) [] (wipe σ (own.map (·.2))) H' s' ∧ tn i s'.heap ∧ H' it = none ∧ W i m H' := fun {s' H'} I' nx => by
        obtain ⟨m', hm, w'⟩ := hNx H' nx
        have pin' : ∀ o, s7.heap.get? it = some o → s'.heap.get? it = some o ∧ H' it = none := fun o e =>
          let z := I'.pin (it, o) (List.mem_append_right _ (List.mem_append_right _ (mem_pinsAt (by exact List.mem_cons_self) e)))
          ⟨z.1, z.2.1⟩
        have hl : (wipe σ (own.map (·.2))).length = σ8.length := by rw [← hw8, wipe_length]
        refine ⟨m', hm, i + 1, H', (I'.unpinned (pins := [])).weak hl (fun j v e => ?_), T.keep _ _ _ st7 fun o e => (pin' o e).1, ?_, w'⟩
        · rw [← hw8] at e
          exact (wipe_some e).1
        · obtain ⟨o, e, _⟩ := T.obj _ _ st7
          exact (pin' o e).2
      cases b with
      | false =>
        simp only [Bool.false_eq_true, if_false] at q9 ⊢
        exact fin I9 q9
      | true =>
        simp only [if_true] at q9 ⊢
        refine thnF (pe.run _ s9 σ8 H9 _ I9 q9) fun z s10 ⟨yv, H10, I10, r10, acc, hD10, hz10, nx⟩ => ?_
        exact app_ok (X := blkP X s3 H3 scope ce [it]) I10 hD10 hz10 r10 fun s11 I11 => fin I11 nx
  exact codeAny_compStart_list loop (T.self X.A 0 _ _ _ st4 loop)
theorem pe_lcH {elt tg iter : Expr} {ifs : List Expr} {scope : Scope} {own : List (Str × Nat)} {pos : Pos} {wi : TI} {gt : TG} {tt : TT} {te : TE} (hc : HotC X) (hN : X.N.Nodup) (hi : PIP X tg iter wi) (ok : BlkOk X.N X.env.scope scope own)
    (hg : ∀ (s : Shared) (H : Hp) (C : Addr) (cl : List (Str × Addr)) (fp : List Addr), PG (blkP X s H scope (compEnvC scope cl C X.env) fp) tg gt) (ht : ∀ (s : Shared) (H : Hp) (C : Addr) (cl : List (Str × Addr)) (fp : List Addr), PTs (blkP X s H scope (compEnvC scope cl C X.env) fp) ifs tt)
    (he : ∀ (s : Shared) (H : Hp) (C : Addr) (cl : List (Str × Addr)) (fp : List Addr), PE (blkP X s H scope (compEnvC scope cl C X.env) fp) elt te) (hs : ∀ x, foldedSetIterable iter X.env x = pure x := by intro _; rfl) :
    PE X (.ListComp elt [⟨tg, iter, ifs, 0⟩] scope pos) (tLc wi gt tt te (own.map (·.2))) := by
  refine ⟨fun pins s σ H Q I h => ?_⟩
  rw [eval_ListComp]
  refine lc_hot (Φ := fun _ _ _ => True) (.inr hc) (fun _ _ _ _ _ => trivial) hN I hi ok hg (fun s H C cl fp _ => ht s H C cl fp) (fun s H C cl fp _ => he s H C cl fp) hs h fun D C s' m H' I' q hn f => ⟨m, hn, fun h'' sb => ?_⟩
  obtain ⟨f0, f1, f2, f3, f4, f5⟩ := f
  exact ⟨.ref D, H', I'.turned (t' := s'.toks) (fun b o hb e => (sb.2 b hb).trans e) f0 f1 f3 f4 f5, rfl, q⟩
end
end DL

/-! The data layer, part 10: f(lambda: ..) where f tries it and tells the error's name. -/
namespace DL
open PySem PySem.Spec PyProof.Rows L2 Evl LamX HotX L2H

/-! ### a body run on a store of its own -/
theorem Ok.only {K : PySem.W.Frag} {fa fa' : Nat → V} {T : TZ} {F H : Hp} {μ : List MO} {m : List Addr} (o : Ok ⟨K, fa, T⟩ F μ m H) : Ok ⟨K, fa', T⟩ F [] [] H where
  ex := o.ex
  len := rfl
  nd := List.nodup_nil
  nf := fun i a w h1 _ _ => by simp at h1
  nt := o.nt
  at_ := fun i a w h1 _ => by simp at h1
  tab := o.tab
  kn := fun q hq => ⟨(o.kn q hq).1, List.not_mem_nil, (o.kn q hq).2.2⟩
  kp := o.kp
theorem Ok.back {K : PySem.W.Frag} {fa fa' : Nat → V} {T : TZ} {F H F' H' : Hp} {μ : List MO} {m : List Addr} (o : Ok ⟨K, fa, T⟩ F μ m H) (o' : Ok ⟨K, fa', T⟩ F' [] [] H') (r : Gr F H [] F' H' []) : Ok ⟨K, fa, T⟩ F' μ m H' ∧ Gr F H m F' H' m := by
  refine ⟨⟨o'.ex, o.len, o.nd, fun i a w h1 h2 h3 => ?_, o'.nt, fun i a w h1 h2 => ?_, o'.tab, fun q hq => ⟨(o'.kn q hq).1, (o.kn q hq).2⟩, o'.kp⟩, r.ef, List.prefix_rfl, fun b u h1 h2 h3 h4 => ?_⟩
  · obtain ⟨u, hu, hn⟩ := (o.at_ i a w h1 h2).there
    exact (r.un a u (o.nf i a w h1 h2 h3) (by simp) hu hn).2.1
  · refine (o.at_ i a w h1 h2).mo r.ef List.prefix_rfl fun u hu => ?_
    obtain ⟨u2, hu2, hn⟩ := (o.at_ i a w h1 h2).there
    rw [hu] at hu2
    cases hu2
    cases e : F a with
    | none => exact (r.un a u e (by simp) hu hn).1
    | some z =>
      have e1 := o.ex a z e
      rw [hu] at e1
      cases e1
      exact o'.ex a _ (r.ef a _ e)
  · obtain ⟨k1, k2, _⟩ := r.un b u h1 (by simp) h3 h4
    exact ⟨k1, k2, h2⟩

/-! ### isinstance of the exception that is handled -/
section
variable {X : Cx} {fa : Nat → V} {T : TZ} {W : WX}
theorem call_isP {a D : Addr} {oe : Obj} (C : ExcC X.K D) (hz : Zc (.ref D) none oe) (hf : ∃ vs, oe.data = .fields vs) (hp : (a, oe) ∈ X.pn) : CallR X (.builtin "isinstance") (rIsE X.K D a) := by
  intro pins s σ H xs us Q I r h
  obtain ⟨c, cv, b, rfl, hcv, e, q⟩ := h
  cases r with
  | cons rx rr =>
    cases rr with
    | cons rt rr =>
      cases rr
      cases rx
      have ec := hcv _ rt
      subst ec
      obtain ⟨hget, _⟩ := I.pin (a, oe) (List.mem_append_left _ hp)
      obtain ⟨vs, hv⟩ := hf
      have J : PySem.W.InstAt s.heap a oe D none := by
        obtain ⟨oc, od, oda, osl⟩ := oe
        obtain ⟨h1, h2⟩ := hz
        dsimp only at h1 h2 hv
        subst h1 h2 hv
        exact ⟨hget, rfl, rfl, trivial⟩
      exact PySem.W.kia_one (PySem.W.handS_kitx_exc C.hg C.hk C.hs C.hd C.ha C.hn C.ht C.hm) I.kIn J e (fun z => nomatch z) fun tk => ⟨.bl b, H, I.kept (t' := tk) fun _ _ z => z, rfl, q⟩
/-- isinstance(e, C), e in slot i the held exception (register fn 0) -/
def dIsE (i : Nat) (b : Bool) : DE := fun ρ => match ρ[i]? with
  | some (some (.fn 0)) => pur (.d (.bool b))
  | _ => stk
theorem dp_isE {a D C : Addr} {i : Nat} {b : Bool} {x y z : Str} {p p1 p2 pos : Pos} (hc : CallR X (.builtin "isinstance") (rIsE X.K D a)) (h0 : fa 0 = .ref a) (hk : PySem.W.kitOne X.K (.ref D) (.ref C) = some b) (hg : Gl X x) (hm : X.mg x = none) (hN : X.N[i]? = some z) (hvis : Vis X.env.scope z) (hg2 : Gl X y) (hm2 : X.mg y = some (.ref C))
    (hv : bootBuiltins x = some (.builtin "isinstance")) (hn : x ≠ "__name__" := by decide) (hdb : (x == ("__debug__" : Str)) = false := by decide) (hdb2 : (y == ("__debug__" : Str)) = false := by decide) (hdz : (z == ("__debug__" : Str)) = false := by decide) (hcz : (z == ("__classdict__" : Str)) = false := by decide)
    (hs : starEach [.Name z p1, .Name y p2] X.env = (false, eval (.Name z p1) X.env) :: starEach [.Name y p2] X.env := by rfl) (hs2 : starEach [.Name y p2] X.env = (false, eval (.Name y p2) X.env) :: starEach [] X.env := by rfl) (hpl : (backTo pos (starEach [.Name y p2] X.env)).any (·.1) = false := by rfl) :
    CE' X fa T W (.Call (.Name x p) [.Name z p1, .Name y p2] [] pos) (dIsE i b) :=
  mkE (pe_callB hc hg hm hv (pa_cons (pe_var hN hvis hdz hcz) (pa_cons (pe_glob (v := .ref C) hg2 hm2 rfl hdb2) pa_nil hs2) hs) hn hdb hs hpl) fun ρ μ m F σ H Q o r h => by
    unfold dIsE at h
    cases e1 : ρ[i]? with
    | none =>
      simp only [e1] at h
      exact h.elim
    | some w1 =>
      cases w1 with
      | none =>
        simp only [e1] at h
        exact h.elim
      | some u1 =>
        cases u1 with
        | fn j =>
          cases j with
          | zero =>
            simp only [e1] at h
            obtain ⟨v, h1, h2⟩ := r.2 i _ e1
            cases h2
            have h1 : σ[i]? = some (some (fa 0)) := h1
            rw [h0] at h1
            exact ⟨_, h1, .ref C, .ref C, b, rfl, fun u ru => ru, hk, post_here h o (.d (.bl b))⟩
          | succ j =>
            simp only [e1] at h
            exact h.elim
        | d _ =>
          simp only [e1] at h
          exact h.elim
        | m _ =>
          simp only [e1] at h
          exact h.elim
        | tu _ =>
          simp only [e1] at h
          exact h.elim
        | li _ =>
          simp only [e1] at h
          exact h.elim
/-! ### pairs and comprehensions there -/
theorem dg_tupH {es : List Expr} {k : Nat} {pos : Pos} {ds : DGs} {n : Nat} (hc : HotC X) (h : CGs X fa T es ds) (hn : (assignEach es X.env).length = n := by rfl) (hst : (assignEach es X.env).findIdx? (·.1) = none := by rfl) : CG' X fa T (.Tuple es k pos) (gT n ds) :=
  ⟨fun pins s σ H v u Q I rv ⟨F, μ, m, w, ρ, ρ', o, r, q, e, k⟩ => (pg_tupH hc h hn hst).run pins s σ H v u Q I rv (by
    cases q with
    | @d v x q =>
      cases x with
      | tuple xs =>
        have e : (if xs.length = n then ds.f (xs.map .d) ρ else none) = some ρ' := e
        cases q with
        | tup q1 q2 =>
          by_cases hl : xs.length = n
          · rw [if_pos hl] at e
            exact ⟨_, _, rfl, ex_t o.ex q1, by rw [q2.len]; exact hl, F, μ, m, _, ρ, ρ', o, r, rp_ds q2, e, k⟩
          · rw [if_neg hl] at e
            cases e
      | _ => cases e
    | @tu a vs us q1 q2 =>
      have e : (if us.length = n then ds.f us ρ else none) = some ρ' := e
      by_cases hl : us.length = n
      · rw [if_pos hl] at e
        exact ⟨_, _, rfl, ex_t o.ex q1, by rw [q2.len]; exact hl, F, μ, m, _, ρ, ρ', o, r, q2, e, k⟩
      · rw [if_neg hl] at e
        cases e
    | m _ => cases e
    | fn => cases e
    | li _ _ => cases e)⟩
theorem dp_lcH {elt tg iter : Expr} {ifs : List Expr} {scope : Scope} {own : List (Str × Nat)} {vs : List Nat} {pos : Pos} {di : DI} {dg : DG} {tt : DT} {te : DE} (hc : HotC X) (hN : X.N.Nodup) (hi : PIP X tg iter (canI (gp X fa T) W di)) (ok : BlkOk X.N X.env.scope scope own)
    (hg : ∀ (s : Shared) (H : Hp) (C : Addr) (cl : List (Str × Addr)) (fp : List Addr), CG' (blkP X s H scope (compEnvC scope cl C X.env) fp) fa T tg dg) (ht : ∀ (s : Shared) (H : Hp) (C : Addr) (cl : List (Str × Addr)) (fp : List Addr), CTs (blkP X s H scope (compEnvC scope cl C X.env) fp) fa T Wno ifs tt)
    (he : ∀ (s : Shared) (H : Hp) (C : Addr) (cl : List (Str × Addr)) (fp : List Addr), CE' (blkP X s H scope (compEnvC scope cl C X.env) fp) fa T Wno elt te) (hv : ∀ j ∈ dg.ix, j ∈ own.map (·.2) := by decide) (hvs : own.map (·.2) = vs := by rfl) (hs : ∀ x, foldedSetIterable iter X.env x = pure x := by intro _; rfl) :
    CE' X fa T W (.ListComp elt [⟨tg, iter, ifs, 0⟩] scope pos) (dLc di dg tt te vs) := by
  subst hvs
  exact mkE (pe_lcH hc hN hi ok hg ht he hs) (lc_sim hv)
end

/-! ### a def that is called with the held exception -/
/-- the address of the held one in place of register fn 0 -/
def fa0 (fa : Nat → V) (a : Addr) : Nat → V := fun n => if n = 0 then .ref a else fa n
structure ErrFn (P : Program) (w : World) (K : PySem.W.Frag) (mg : Str → Option Value) (base : Heap) (fa : Nat → V) (T : TZ) (x : Str) (k : Nat) (tx : Nat → Option Str) : Prop where
  ex : ∃ (f : Addr) (fd : FuncData) (p : Str), mg x = some (.ref f) ∧ PySem.W.keepIn K (.ref f) = true ∧ Binds K fd [p] [] ∧
    ∀ (A : Around) (outer : List Env) (s : Shared) (args : Args) (a : Addr) (oe : Obj) (c : Nat) (C : Addr) (t : Str) (Q : VK) (E : XK) (F H : Hp) (μ : List MO) (m : List Addr), RoomH k A → Hot1 A (a, oe) → PinOk outer H s (a, oe) → Zc (.ref C) none oe → (∃ vs, oe.data = .fields vs) →
      Env0 P w K mg base A outer s H → BindsTo s fd args [(p, .ref a)] → fa c = .ref C → tx c = some t → Ok ⟨K, fa, T⟩ F μ m H → (∀ F' H', Gr F H m F' H' m → Ok ⟨K, fa, T⟩ F' μ m H' → Q (.str t) H') →
      codeAny (model P w) A (.call (.ref f) args) (CR C8.CX0 outer P w H s Q E) s
section
variable {P : Program} {w : World} {K : PySem.W.Frag} {mg : Str → Option Value} {base : Heap} {fa : Nat → V} {T : TZ}
theorem errfn_of {x qual p : Str} {params : Arguments} {body : List Stmt} {scope : Scope} {f : Addr} {fd : FuncData} {N : List Str} {k : Nat} {tx : Nat → Option Str} {db : Nat → DS} (Fn : FunD K x qual params body scope [] [] f fd) (S : FnScope N [p] scope) (hm : mg x = some (.ref f)) (hbn : Binds K fd [p] [])
    (hb : ∀ (cdv : Value) (A : Around) (outer : List Env) (s : Shared) (H : Hp) (a : Addr) (oe : Obj) (c : Nat) (C : Addr) (t : Str), Hot1 A (a, oe) → Zc (.ref C) none oe → (∃ vs, oe.data = .fields vs) → fa c = .ref C → tx c = some t → RoomH k (A.deeper (envOfC qual scope s.heap.objs.size f cdv)) →
      CSs (cxH C8.CX0 P w K mg base N qual scope f cdv A outer s H C8.E0 (a, oe)) (fa0 fa a) T Wno body (db c))
    (hd : ∀ c t, tx c = some t → bodyD N.length 1 (db c) [.fn 0] [] = .ok (.d (.str t)) []) : ErrFn P w K mg base fa T x (k + 1) tx := by
  obtain ⟨oc, od, dV, kV, doc, pm, an, cdv, ct, osl, rfl, lk, hcd, _, _⟩ := Fn.ex
  refine ⟨f, _, p, hm, Fn.kp, hbn, fun A outer s args a oe c C t Q E F H μ m hr hot hpin hz hf e0 hbd hC ht o hq => ?_⟩
  have KX : K.In s.heap := e0.mod.kin.keeps fun b o e => (e0.bs b o e).1
  have lim : s.heap.NoLimit := e0.mod.nolimit.keeps fun b o e => (e0.bs b o e).1
  have hkind : ∀ y ∈ [(p, Value.ref a)], scope.names.lookup y.1 = some .local ∨ (scope.names.lookup y.1 = some .cell ∧ ((cellsFrom (s.heap.objs.size + 1) scope.names []).lookup y.1).isSome = true) := fun y hy => by
    have e : y = (p, Value.ref a) := by simpa using hy
    subst e
    rcases S.par p (by simp) with q | q
    · exact .inl q
    · exact .inr ⟨q, PySem.W.cellsFrom_some _ _ _ (.inl q)⟩
  refine codeAny_call_function hr.depth (KX _ _ lk) rfl S.co S.gen rfl (PySem.W.codeRec_of KX hcd) (hbd _ _ _ _ ?_)
  refine wpAny_newFunctionEnv_cells S.kind hkind fun env he s1 x => ?_
  subst he
  refine ⟨lim.keeps x.toInCall.keep, codeAny_func ?_⟩
  have I : Inv (cxH C8.CX0 P w K mg base N qual scope f cdv A outer s H C8.E0 (a, oe)) [] (L2.start N [.ref a]) H s1 := inv_startH S hpin e0 rfl (us := [.ref a]) (.cons rfl .nil) x
  have hbody := hb cdv A outer s H a oe c C t hot hz hf hC ht (hr.deeper _)
  have er : EnvR ⟨K, fa0 fa a, T⟩ F [] (L2.start N [.ref a]) (startE N.length [.fn 0]) := start_env (.cons (by
    have this := Rp.fn (g := ⟨K, fa0 fa a, T⟩) (F := F) (m := []) (n := 0)
    exact this) .nil)
  have hpost : PostS ⟨K, fa0 fa a, T⟩ (db c (startE N.length [.fn 0]) []) F H [] (startE N.length [.fn 0]).length { nx := fun _ H' => Q .non H', rt := Q } (fun _ _ _ _ => False) := by
    refine body_post (n := 1) (E := fun _ _ _ => False) ?_
    rw [hd c t ht]
    intro b F' H' m' g' o' r'
    have hm' : m' = [] := List.eq_nil_of_length_eq_zero o'.len
    subst hm'
    obtain ⟨ob, gb⟩ := o.back o' g'
    have eb := rp_str r'
    subst eb
    exact hq F' H' gb ob
  have run := hbody.run [] s1 (L2.start N [.ref a]) H { nx := fun _ H' => Q .non H', rt := Q } I ⟨startE N.length [.fn 0], [], [], F, o.only, er, hpost⟩
  refine wpAny_mono run (fun fl s' hs => ?_) fun e s' hs => ?_
  · cases fl with
    | ret u =>
      obtain ⟨v, σ', H', J, rv, q⟩ := hs
      exact ⟨v, H', J.os, J.bare, J.base, J.hok, rv, q⟩
    | next =>
      obtain ⟨σ', H', J, q⟩ := hs
      exact ⟨V.non, H', J.os, J.bare, J.base, J.hok, rfl, q⟩
    | brk =>
      obtain ⟨_, _, _, q⟩ := hs
      exact False.elim q
    | cont =>
      obtain ⟨_, _, _, q⟩ := hs
      exact False.elim q
  · exact wpAny_mono hs (fun _ _ z => (show False from z).elim) fun _ _ z => (show False from z).elim
end

/-! ### x(lambda: body): x tries it -/
section
variable {X : Cx} {fa : Nat → V} {T : TZ} {W : WX}
/-- the lambda's context, what it lets out as in the layer with contexts -/
abbrev lamN (X : Cx) (A : Around) (outer : List Env) (s : Shared) (H : Hp) (E : XK) (scope : Scope) (f c' : Addr) : Cx :=
  (lamCx X A outer s H E scope f c').tr [] fun e s' => wpAny (model X.prog X.w) (A.deeper (lamEnv X scope s.heap.objs.size f c')) (leaving (lamEnv X scope s.heap.objs.size f c') e) (fun _ s'' => L2N.CX X.prog X.w outer H s E e s'') (fun e' s'' => L2N.CX X.prog X.w outer H s E e' s'') s'
theorem takesLam {A : Around} {outer : List Env} {s : Shared} {H : Hp} {E : XK} {scope : Scope} {f c' : Addr} : L2N.Takes (lamN X A outer s H E scope f c') (fun cls d _ H => E cls d H) := L2N.takes_of rfl rfl rfl rfl
/-- its call, in the body of the def that got it -/
theorem pe_actN {pins : List (Addr × Obj)} {σ : L2.St} {H : Hp} {s : Shared} {Eg : XK} {Ng : List Str} {qg : Str} {sg : Scope} {g f c' : Addr} {cdg pm ctv : Value} {params : Arguments} {body : Expr} {scope : Scope} {k i : Nat} {a : Str} {pn : List (Addr × Obj)} {xe : Value → Shared → Prop} {W : WX} {E : XK} {tb : TE} {p1 p2 : Pos}
    (I : Inv X pins σ H s) (L : LamS X.env.scope scope) (hf : s.heap.get? f = some (PySem.W.kla_obj "<lambda>" (X.env.qual ++ "<lambda>") params body scope (cloFrom X.env.cells scope.names []) pm c' ctv)) (hfn : H f = none) (hfr : f ∉ frs X.stack)
    (hbind : bindArgs (PySem.W.kla_fn "<lambda>" (X.env.qual ++ "<lambda>") params body scope (cloFrom X.env.cells scope.names []) pm (.ref c') ctv) ⟨[], []⟩ = pure [])
    (tk : L2N.Takes ((cxOf C8.CX0 X.prog X.w X.K X.mg X.base Ng qg sg g cdg X.A X.stack s H Eg).nox.tr pn xe) W) (hW : ∀ cls d σ' H', E cls d H' → W cls d σ' H') (hr : Room (k + 1) (X.A.deeper (envOfC qg sg s.heap.objs.size g cdg)))
    (hbody : ∀ (A : Around) (outer : List Env) (s : Shared) (H : Hp), Room k (A.deeper (lamEnv X scope s.heap.objs.size f c')) → PE (lamN X A outer s H E scope f c') body tb)
    (hN : Ng[i]? = some a) (hv : Vis sg a) (hd : (a == ("__debug__" : Str)) = false := by decide) (hcd : (a == ("__classdict__" : Str)) = false := by decide) :
    PE ((cxOf C8.CX0 X.prog X.w X.K X.mg X.base Ng qg sg g cdg X.A X.stack s H Eg).nox.tr pn xe) (.Call (.Name a p1) [] [] p2)
      (fun σZ HZ Q => σZ[i]? = some (some (.ref f)) ∧ HZ c' = some (CodeO c' (X.env.qual ++ "<lambda>")) ∧ tb σ HZ Q) := by
  refine ⟨fun pinsZ sZ σZ HZ Q IZ h => ?_⟩
  obtain ⟨hs, hc, ht⟩ := h
  refine wpAny_Call_Name_kw (thn ((pe_var (pos := p1) (i := i) hN hv hd hcd).run pinsZ sZ σZ HZ (fun v H1 => v = .ref f ∧ H1 = HZ) IZ ⟨.ref f, hs, rfl, rfl⟩) fun u s1 ⟨v, H1, I1, r1, q1⟩ => ?_)
  obtain ⟨ev, eH⟩ := q1
  subst ev
  rw [eH] at I1
  obtain rfl : u = Value.ref f := r1
  have of1 : s1.heap.get? f = some (PySem.W.kla_obj "<lambda>" (X.env.qual ++ "<lambda>") params body scope (cloFrom X.env.cells scope.names []) pm c' ctv) := I1.base.keep f _ hf hfn hfr (fun z => nomatch (show f ∈ ([] : List Addr) from z))
  refine PySem.W.callWith_F0 ⟨_, _, _, _, of1⟩ ?_
  have un : Un (frs X.stack) [] H HZ s.heap s1.heap := I1.base
  obtain ⟨⟨oc, vs, t, hoc, hdc, hvc⟩, _, _⟩ := I1.hok c' _ hc
  have rc : codeAny (model X.prog X.w) (X.A.deeper (envOfC qg sg s.heap.objs.size g cdg)) (.call (.ref f) ⟨[], []⟩) (CR (L2N.CX X.prog X.w) (envOfC qg sg s.heap.objs.size g cdg :: X.stack) X.prog X.w HZ s1 Q E) s1 := by
    refine PySem.W.kla_callFunE hr.depth of1 rfl L.co L.gen rfl ⟨c', oc, vs, t, rfl, hoc, hdc, hvc⟩ ?_
    rw [hbind]
    refine wpAny_pure (wpAny_newFunctionEnv (fun y hy => (L.own y hy).2) (fun y hy => absurd hy (by simp)) (fun h₁ hns hsb => ⟨I1.nolimit.fresh _ hsb, ?_⟩) L.kind)
    show codeAny _ _ (.expr body (lamEnv X scope s1.heap.objs.size f c')) _ _
    have kp : ∀ b o, s1.heap.get? b = some o → h₁.get? b = some o := fun b o e => hsb.extBut b o (Nat.ne_of_lt (Heap.lt_size e)) (Heap.get?_push_of_some _ e)
    have J0 : Inv (lamCx X (X.A.deeper (envOfC qg sg s.heap.objs.size g cdg)) (envOfC qg sg s.heap.objs.size g cdg :: X.stack) s1 HZ E scope f c') [] σ HZ { s1 with heap := h₁, toks := s1.toks + ([] : List (Str × Value)).length } :=
      lam_start2 I L I1.env0 hr.hd un hns kp
    have J : Inv (lamN X (X.A.deeper (envOfC qg sg s.heap.objs.size g cdg)) (envOfC qg sg s.heap.objs.size g cdg :: X.stack) s1 HZ E scope f c') [] σ HZ { s1 with heap := h₁, toks := s1.toks + ([] : List (Str × Value)).length } := J0.toTry _
    refine PySem.W.kla_codeExpr (wpAny_mono ((hbody _ _ s1 HZ (hr.deeper _)).run [] _ _ HZ Q J ht) (fun v s' hq => ?_) fun e s' hq => hq)
    obtain ⟨w', H', J', rv, q⟩ := hq
    exact ⟨w', H', J'.os, J'.bare, J'.base, J'.hok, rv, q⟩
  have hx : Passes (L2N.CX X.prog X.w) ((cxOf C8.CX0 X.prog X.w X.K X.mg X.base Ng qg sg g cdg X.A X.stack s H Eg).nox.tr pn xe) E := L2N.passes_call tk hW
  refine wpAny_call (codeAny_mono rc fun r s' hq => ?_)
  cases r with
  | error e => exact hx pinsZ σZ HZ s1 e s' I1 hq
  | ok fl =>
    cases fl with
    | ret u => exact I1.after hq
    | next => exact False.elim hq
    | brk => exact False.elim hq
    | cont => exact False.elim hq
/-- what the try makes of the lambda: a text -/
def dRef (tx : Nat → Option Str) (s0 : Str) (db : DE) : DE := fun ρ μ => match db ρ μ with
  | .ok _ μ' => .ok (.d (.str s0)) μ'
  | .err (.own c) μ' => (match tx c with
    | some t => .ok (.d (.str t)) μ'
    | none => .stuck)
  | _ => .stuck
/-- the call of the telling def from the suite -/
theorem pe_told {x en : Str} {k i : Nat} {tx : Nat → Option Str} {a : Addr} {oe : Obj} {cls : Value} {d : Option Addr} {pn : List (Addr × Obj)} {p1 p2 p3 : Pos} (Er : ErrFn X.prog X.w X.K X.mg X.base fa T x k tx) (hr : Room k X.A) (hz : L2N.Zn cls d oe) (hf : ∃ vs, oe.data = .fields vs)
    (hg : Gl X x) (hN : X.N[i]? = some en) (hv : Vis X.env.scope en) (hdb : (x == ("__debug__" : Str)) = false := by decide) (hd : (en == ("__debug__" : Str)) = false := by decide) (hcd : (en == ("__classdict__" : Str)) = false := by decide)
    (he : starEach [.Name en p2] X.env = (false, eval (.Name en p2) X.env) :: starEach [] X.env := by rfl) (hpl : (backTo p3 (starEach [] X.env)).any (·.1) = false := by rfl) :
    PE (X.suite a ((a, oe) :: pn)) (.Call (.Name x p1) [.Name en p2] [] p3) (fun σ H Q => ∃ F μ m c C t, (i < σ.length → σ[i]? = some (some (.ref a))) ∧ Ok (gp X fa T) F μ m H ∧ fa c = .ref C ∧ cls = .ref C ∧ d = none ∧ tx c = some t ∧ ∀ F' H', Gr F H m F' H' m → Ok (gp X fa T) F' μ m H' → Q (.str t) H') := by
  obtain ⟨f, fd, p, hm, hk, hb, run⟩ := Er.ex
  refine ⟨fun pins s σ H Q I h => ?_⟩
  obtain ⟨F, μ, m, c, C, t, hs, o, hC, rfl, rfl, ht, hq⟩ := h
  have hs := hs (by
    have := (List.getElem?_eq_some_iff.mp hN).1
    rw [I.len]
    exact this)
  refine wpAny_Call_Name_kw (ld_glob (X := X.suite a ((a, oe) :: pn)) I hg hm ?_ hdb)
  refine PySem.W.callWith_K (h₀ := X.base) I.ok.mod.kin hk (thn ((pa_cons (X := X.suite a ((a, oe) :: pn)) (pe_var (i := i) hN hv hd hcd) pa_nil he).run p3 pins s σ H (fun vs H1 => vs = [.ref a] ∧ H1 = H) I ⟨.ref a, hs, rfl, rfl⟩) fun us s1 ⟨vs, H1, I1, r1, q1⟩ => ⟨I1.kIn, ?_⟩) he hpl
  obtain ⟨rfl, rfl⟩ := q1
  have er := Vals.ref1 r1
  subst er
  have hot : Hot1 (X.suite a ((a, oe) :: pn)).A (a, oe) := by
    obtain ⟨vs, hv⟩ := hf
    exact ⟨rfl, vs, hv, hz.2.2 vs hv⟩
  have P1 := I1.pin (a, oe) (List.mem_append_left _ List.mem_cons_self)
  have hpin : PinOk X.stack H1 s1 (a, oe) := ⟨P1.1, P1.2.1, fun hm => (List.mem_cons.mp (I1.stkSub a hm)).elim P1.2.2.1 P1.2.2.2.1, P1.2.2.2.2⟩
  have b := hb s1 [.ref a] I1.kIn rfl
  refine wpAny_call (codeAny_mono (run (X.suite a ((a, oe) :: pn)).A X.stack s1 ⟨[.ref a], []⟩ a oe c C t Q C8.E0 F H1 μ m ⟨hr.dp, hr.un⟩ hot hpin hz.zc hf I1.env0 b hC ht o hq) fun r s' hq' => ?_)
  cases r with
  | error e => exact (show False from hq').elim
  | ok fl =>
    cases fl with
    | ret u => exact I1.after hq'
    | next => exact False.elim hq'
    | brk => exact False.elim hq'
    | cont => exact False.elim hq'
/-- try: a() / except er as en: return le(en) / return s0 -/
theorem tried {Ng : List Str} {x a en er le q s0 : Str} {sg : Scope} {g CS f c' : Addr} {cdg : Value} {j k : Nat} {s : Shared} {H : Hp} {Q : VK} {tx : Nat → Option Str} {tl : XK → Hp → VK → Prop} {p1 p2 p3 p4 p5 p6 p7 p8 p9 p10 p11 p12 : Pos}
    (Er : ErrFn X.prog X.w X.K X.mg X.base fa T le k tx) (hr : Room k (X.A.deeper (envOfC x sg s.heap.objs.size g cdg)))
    (hN : Ng.Nodup) (hNe : Ng[1]? = some en) (hle : sg.names.lookup en = some .local) (hke : (envOfC x sg s.heap.objs.size g cdg).kindOf en = some .local) (hge : sg.names.lookup er = some .globalImplicit) (hgl : sg.names.lookup le = some .globalImplicit) (hme : X.mg er = some (.ref CS)) (hde : (er == ("__debug__" : Str)) = false) (hdl : (le == ("__debug__" : Str)) = false)
    (hd : (en == ("__debug__" : Str)) = false) (hcd : (en == ("__classdict__" : Str)) = false)
    (h0 : (L2.start Ng [V.ref f])[0]? = some (some (V.ref f)))
    (act : ∀ (W : WX) (pn : List (Addr × Obj)) (xe : Value → Shared → Prop) (E : XK) (p1 p2 : Pos), L2N.Takes ((cxOf C8.CX0 X.prog X.w X.K X.mg X.base Ng x sg g cdg X.A X.stack s H C8.E0).nox.tr pn xe) W → (∀ cls d σ' H', E cls d H' → W cls d σ' H') →
      PE ((cxOf C8.CX0 X.prog X.w X.K X.mg X.base Ng x sg g cdg X.A X.stack s H C8.E0).nox.tr pn xe) (.Call (.Name a p1) [] [] p2) (fun σZ HZ Q => σZ[0]? = some (some (.ref f)) ∧ HZ c' = some (CodeO c' q) ∧ tl E HZ Q))
    (hc' : H c' = some (CodeO c' q)) (hlen : Ng.length = 2)
    (h : tl (fun cls d H' => ∃ F μ m c C t, Ok (gp X fa T) F μ m H' ∧ fa c = .ref C ∧ cls = .ref C ∧ d = none ∧ tx c = some t ∧ PySem.W.exmOne X.K cls (.ref CS) = some true ∧ ∀ F2 H2, Gr F H' m F2 H2 m → Ok (gp X fa T) F2 μ m H2 → Q (.str t) H2) H (fun _ H' => Q (.str s0) H')) :
    ∃ t, PSs (cxOf C8.CX0 X.prog X.w X.K X.mg X.base Ng x sg g cdg X.A X.stack s H C8.E0).nox
      [.Try [.Expr (.Call (.Name a p1) [] [] p2) p3] [.ExceptHandler (some (.Name er p4)) (some en) [.Return (some (.Call (.Name le p5) [.Name en p6] [] p7)) p8] p9] [] [] p10, .Return (some (.Constant (.str s0) j p11)) p12] t ∧ t { nx := fun _ H' => Q .non H', rt := Q } (L2.start Ng [.ref f]) H := by
  refine ⟨_, pss_cons (L2N.ps_try_as (X := (cxOf C8.CX0 X.prog X.w X.K X.mg X.base Ng x sg g cdg X.A X.stack s H C8.E0).nox) (c := .ref CS) (i := 1) (Wout := fun _ _ _ _ => False)
      (tb := fun W D σ H => ∃ Ech : XK, (∀ cls d σ' H', Ech cls d H' → W cls d σ' H') ∧ σ[0]? = some (some (.ref f)) ∧ H c' = some (CodeO c' q) ∧ tl Ech H fun _ H' => D.nx σ H')
      (ts := fun a cls d D σ H => ∃ F μ m c C t, (1 < σ.length → σ[1]? = some (some (.ref a))) ∧ Ok (gp X fa T) F μ m H ∧ fa c = .ref C ∧ cls = .ref C ∧ d = none ∧ tx c = some t ∧ ∀ F' H', Gr F H m F' H' m → Ok (gp X fa T) F' μ m H' → D.rt (.str t) H')
      rfl rfl hN hNe hke ⟨hge, hde, .inl hme⟩ takesNo (fun W pn xe tk _ => ?_) (fun a oe cls d pn hz hf => pss_one ?_)) (pss_one (ps_ret pe_str)), ?_⟩
  · refine ⟨fun pins s' σ H' D I h' => ?_⟩
    obtain ⟨Ech, hW, h1, h2, h3⟩ := h'
    exact (pss_one (ps_expr (pos := p3) (act W pn xe Ech p1 p2 tk hW))).run pins s' σ H' D I ⟨h1, h2, h3⟩
  · refine ⟨fun pins s' σ H' D I h' => ?_⟩
    exact (ps_ret (pe_told (X := (cxOf C8.CX0 X.prog X.w X.K X.mg X.base Ng x sg g cdg X.A X.stack s H C8.E0).nox) (i := 1) (pn := pn) Er hr hz hf hgl hNe (.inl hle) hdl hd hcd)).run pins s' σ H' D I h'
  · refine ⟨fun cls d' H' => ∃ F μ m c C t, Ok (gp X fa T) F μ m H' ∧ fa c = .ref C ∧ cls = .ref C ∧ d' = none ∧ tx c = some t ∧ PySem.W.exmOne X.K cls (.ref CS) = some true ∧ ∀ F2 H2, Gr F H' m F2 H2 m → Ok (gp X fa T) F2 μ m H2 → Q (.str t) H2, ?_, h0, hc', h⟩
    intro cls d' σ' H' ⟨F, μ, m, c, C, t, o, hC, ec, ed, ht, hx, hq⟩
    exact ⟨true, hx, fun _ a _ => ⟨F, μ, m, c, C, t, fun hl => List.getElem?_set_self (by rw [List.length_set] at hl; exact hl), o, hC, ec, ed, ht, hq⟩, fun z => nomatch z⟩
/-- x(lambda: body), x such a def -/
theorem dp_refused {x a en er le s0 : Str} {g c P CS : Addr} {k j : Nat} {pg : Arguments} {sg : Scope} {fdg : FuncData} {Ng : List Str} {tx : Nat → Option Str} {params : Arguments} {body : Expr} {scope : Scope} {db : DE} {p lpos pos p1 p2 p3 p4 p5 p6 p7 p8 p9 p10 p11 p12 : Pos}
    (hg : Gl X x) (hm : X.mg x = some (.ref g))
    (Fg : FunD X.K x x pg [.Try [.Expr (.Call (.Name a p1) [] [] p2) p3] [.ExceptHandler (some (.Name er p4)) (some en) [.Return (some (.Call (.Name le p5) [.Name en p6] [] p7)) p8] p9] [] [] p10, .Return (some (.Constant (.str s0) j p11)) p12] sg [] [] g fdg)
    (hb : L2.Binds X.K fdg [a] []) (Sg : FnScope Ng [a] sg) (hNg : Ng[0]? = some a) (hva : Vis sg a) (hNe : Ng[1]? = some en) (hle : sg.names.lookup en = some .local) (hge : sg.names.lookup er = some .globalImplicit) (hgl : sg.names.lookup le = some .globalImplicit) (hme : X.mg er = some (.ref CS))
    (hexm : ∀ c t C, tx c = some t → fa c = .ref C → PySem.W.exmOne X.K (.ref C) (.ref CS) = some true)
    (Er : ErrFn X.prog X.w X.K X.mg X.base fa T le k tx)
    (TB : TabB X.base X.mg c P) (hcode : X.env.code = .ref c) {qq : Str} (hqq : X.env.qual = qq) (hmT : (P, qq ++ "<lambda>") ∈ T.tabs) (hu : ∀ p ∈ T.tabs, p.1 = P → p.2 = qq ++ "<lambda>") (hr : Room (k + 2) X.A) (L : LamS X.env.scope scope) (hdef : defaultsOf params X.env = ([], []))
    (hbind : ∀ (q : Str) (cl : List (Str × Addr)) (pm cv ctv : Value), bindArgs (PySem.W.kla_fn "<lambda>" q params body scope cl pm cv ctv) ⟨[], []⟩ = pure [])
    (hbody : ∀ (A : Around) (outer : List Env) (s : Shared) (H : Hp) (E : XK) (f c' : Addr), Room k (A.deeper (lamEnv X scope s.heap.objs.size f c')) → CE' (lamN X A outer s H E scope f c') fa T (fun cls d _ H => E cls d H) body db)
    (hlen : Ng.length = 2) (hdb : (x == ("__debug__" : Str)) = false := by decide) (hd : (a == ("__debug__" : Str)) = false := by decide) (hcd : (a == ("__classdict__" : Str)) = false := by decide)
    (hde : (er == ("__debug__" : Str)) = false := by decide) (hdl : (le == ("__debug__" : Str)) = false := by decide) (hd2 : (en == ("__debug__" : Str)) = false := by decide) (hcd2 : (en == ("__classdict__" : Str)) = false := by decide) :
    CE' X fa T W (.Call (.Name x p) [.Lambda params body scope lpos] [] pos) (dRef tx s0 db) := ⟨fun pins s σ H Q I ⟨ρ, μ, m, F, o, r, h⟩ => by
  subst hqq
  obtain ⟨oc, od, dV, kV, doc, pm, an, cdv, ct, osl, rfl, lk, hcg, _, _⟩ := Fg.ex
  refine wpAny_Call_Name_kw (ld_glob I hg hm ?_ hdb)
  refine PySem.W.callWith_K (h₀ := X.base) I.ok.mod.kin Fg.kp ?_ (by rfl) (by rfl)
  show wpAny _ _ (spliced ((false, eval (.Lambda params body scope lpos) X.env) :: backTo pos (starEach [] X.env))) _ _ s
  refine Calls.spliced_cons (lam_make2 I TB hcode hmT hu o.tab hdef (L.has I.ok) fun f c' pm' ctv H1 s' I1 eN T1 hf hfn hfr hco => ?_)
  refine Calls.spliced_nil ⟨I1.kIn, ?_⟩
  -- the state behind the making
  have key : ∀ b u, H b = some u → (∀ ps, u ≠ .tbl ps) → H1 b = some u := eN
  have o1 : Ok (gp X fa T) F μ m H1 := ⟨fun b u e => key b u (o.ex b u e) (fun ps z => o.nt b ps (by rw [z] at e; exact e)), o.len, o.nd, o.nf, o.nt, fun i b w h1 h2 => (o.at_ i b w h1 h2).mo (Ex.refl F) List.prefix_rfl fun u hu => by
    obtain ⟨u2, hu2, hn⟩ := (o.at_ i b w h1 h2).there
    rw [hu] at hu2
    cases hu2
    exact key b u hu hn, T1, fun q hq => by
    obtain ⟨k1, k2, z, k3⟩ := o.kn q hq
    exact ⟨key _ _ k1 (fun ps w => by rw [k3] at w; cases w), k2, z, k3⟩, o.kp⟩
  have g1 : Gr F H m F H1 m := ⟨Ex.refl F, List.prefix_rfl, fun b u h1 h2 h3 h4 => ⟨key b u h3 h4, h1, h2⟩⟩
  have rc : codeAny (model X.prog X.w) X.A (.call (.ref g) ⟨[.ref f], []⟩) (CR C8.CX0 X.stack X.prog X.w H1 s' Q C8.E0) s' := by
    refine run_ofS (N := Ng) (ps := [a]) (us := [.ref f]) (vs := [.ref f]) lk hcg Sg hr I1.env0 (hb s' [.ref f] I1.kIn rfl) (.cons rfl .nil) rfl fun hr' => ?_
    obtain ⟨t', ht', hq'⟩ := tried (X := X) (fa := fa) (T := T) (Ng := Ng) (q := X.env.qual ++ "<lambda>") (CS := CS) (Q := Q) (tx := tx) (p1 := p1) (p2 := p2) (p3 := p3) (p4 := p4) (p5 := p5) (p6 := p6) (p7 := p7) (p8 := p8) (p9 := p9) (p10 := p10) (p11 := p11) (p12 := p12)
      (tl := fun E H' Q' => canE (gp X fa T) (fun cls d _ H => E cls d H) db σ H' Q') Er (hr'.mono (Nat.le_succ k)) Sg.nd hNe hle (by exact hle) hge hgl hme hde hdl hd2 hcd2 (by
        have e := hNg
        unfold L2.start
        rfl)
      (fun W pn xe E p1 p2 tk hW => pe_actN (i := 0) I1 L hf hfn hfr (hbind _ _ _ _ _) tk hW hr' (fun A outer s H hr2 => hbody A outer s H E f c' hr2) hNg hva hd hcd) hco hlen (by
        refine ⟨ρ, μ, m, F, o1, r, ?_⟩
        have h := h.gr g1
        have h : Post (gp X fa T) (RU (gp X fa T)) (match db ρ μ with
          | .ok _ μ' => .ok (.d (.str s0)) μ'
          | .err (.own c) μ' => (match tx c with
            | some t => .ok (.d (.str t)) μ'
            | none => .stuck)
          | _ => .stuck) F H1 m Q (fun c d H' => W c d σ H') := h
        cases e : db ρ μ with
        | stuck =>
          rw [e] at h
          exact h
        | ok u μ' =>
          rw [e] at h
          exact fun b F2 H2 m2 g2 o2 _ => h _ F2 H2 m2 g2 o2 (.d (.str s0))
        | err er μ' =>
          rw [e] at h
          cases er with
          | fld _ _ _ => exact h.elim
          | own c =>
            have h : Post (gp X fa T) (RU (gp X fa T)) (match tx c with
              | some t => .ok (.d (.str t)) μ'
              | none => .stuck) F H1 m Q (fun c d H' => W c d σ H') := h
            cases et : tx c with
            | none =>
              rw [et] at h
              exact h.elim
            | some t =>
              rw [et] at h
              intro cls d F2 H2 m2 g2 o2 er2
              obtain ⟨C, h1, h2, h3⟩ := er2
              refine ⟨F2, μ', m2, c, C, t, o2, h1, h2, h3, et, by rw [h2]; exact hexm c t C et h1, fun F3 H3 g3 o3 => h _ F3 H3 m2 (g2.trans g3) o3 (.d (.str t))⟩)
    exact ⟨t', ht'.nox, hq'⟩
  refine wpAny_call (codeAny_mono rc fun r s2 hq => ?_)
  cases r with
  | error e => exact (show False from hq).elim
  | ok fl =>
    cases fl with
    | ret u => exact I1.after hq
    | next => exact False.elim hq
    | brk => exact False.elim hq
    | cont => exact False.elim hq⟩
end
end DL

/-! The data layer, part 11: built-ins with two arguments; the end. -/
namespace DL
open PySem PySem.Spec PyProof.Rows L2 Evl LamX
def rc2 (g : Gp) (f : PyData → PyData → Option PyData) : List V → Hp → VK → Prop := fun vs H Q => ∃ F μ m x y dx dy z, vs = [x, y] ∧ Ok g F μ m H ∧ Vw g.K F H x dx ∧ Vw g.K F H y dy ∧ f dx dy = some z ∧ ∀ v F' H', Gr F H m F' H' m → Ok g F' μ m H' → Dq g.K F' v z → Q v H'
section
variable {X : Cx} {fa : Nat → V} {T : TZ} {W : WX}
theorem dp_b2 {id : String} {x : Str} {f : PyData → PyData → Option PyData} {a b : Expr} {da db : DE} {p pos : Pos} (hc : CallR X (.builtin id) (rc2 (gp X fa T) f)) (ha : CE' X fa T W a da) (hb : CE' X fa T W b db) (hg : Gl X x) (hm : X.mg x = none) (hv : bootBuiltins x = some (.builtin id)) (hn : x ≠ "__name__" := by decide) (hdb : (x == ("__debug__" : Str)) = false := by decide)
    (hs : starEach [a, b] X.env = (false, eval a X.env) :: starEach [b] X.env := by rfl) (hs2 : starEach [b] X.env = (false, eval b X.env) :: starEach [] X.env := by rfl) (hpl : (backTo pos (starEach [b] X.env)).any (·.1) = false := by rfl) : CE' X fa T W (.Call (.Name x p) [a, b] [] pos) (dOp f da db) :=
  mkE (pe_callB hc hg hm hv (pa_cons ha (pa_cons hb pa_nil hs2) hs) hn hdb hs hpl) fun ρ μ m F σ H Q o r h =>
    useE o r h fun u1 μ1 v1 F1 H1 m1 e1 o1 r1 q1 p1 => useE o1 r1 p1 fun u2 μ2 v2 F2 H2 m2 e2 o2 r2 q2 p2 => by
      have q1' := q1.gr e2
      cases ea : peek μ2 u1 with
      | none =>
        simp only [ea] at p2
        exact p2.elim
      | some x =>
        cases eb : peek μ2 u2 with
        | none =>
          simp only [ea, eb] at p2
          exact p2.elim
        | some y =>
          simp only [ea, eb] at p2
          cases ef : f x y with
          | none =>
            rw [ef] at p2
            exact p2.elim
          | some z =>
            rw [ef] at p2
            exact ⟨F2, μ2, m2, v1, v2, x, y, z, rfl, o2, vw_of o2 q1' ea, vw_of o2 q2 eb, ef, fun v F' H' e' o' d' => p2 v F' H' m2 e' o' (.d d')⟩
def max2P : PyData → PyData → Option PyData
  | .int i, .int j => some (.int (if j > i then j else i))
  | _, _ => none
def min2P : PyData → PyData → Option PyData
  | .int i, .int j => some (.int (if j < i then j else i))
  | _, _ => none
theorem cr_max2P (hc : X.calm = true) : CallR X (.builtin "max") (rc2 (gp X fa T) max2P) := by
  intro pins s σ H vs us Q I rs ⟨F, μ, m, x, y, dx, dy, z, e0, o, hx, hy, e, k⟩
  subst e0
  cases dx with
  | int i => cases dy with
    | int j =>
      cases e
      rw [hx.int, hy.int] at rs
      exact call_max2 hc pins s σ H _ us Q I rs ⟨i, j, rfl, k _ F H (Gr.refl _ _ _) o (.int _)⟩
    | _ => cases e
  | _ => cases e
theorem cr_min2P (hc : X.calm = true) : CallR X (.builtin "min") (rc2 (gp X fa T) min2P) := by
  intro pins s σ H vs us Q I rs ⟨F, μ, m, x, y, dx, dy, z, e0, o, hx, hy, e, k⟩
  subst e0
  cases dx with
  | int i => cases dy with
    | int j =>
      cases e
      rw [hx.int, hy.int] at rs
      exact call_min2 hc pins s σ H _ us Q I rs ⟨i, j, rfl, k _ F H (Gr.refl _ _ _) o (.int _)⟩
    | _ => cases e
  | _ => cases e
end
/-! ### the end: the law's promise from its function -/
theorem Ok.start {K : PySem.W.Frag} {fa : Nat → V} {T : TZ} {H : Hp} (ht : Tabs T.tabs H) (hk : T.z.kn = [] ∧ ∀ F, T.z.kp F) : Ok ⟨K, fa, T⟩ (fun b => match H b with
    | some (.tbl _) => none
    | o => o) [] [] H where
  ex := fun b u e => by
    cases q : H b with
    | none =>
      simp only [q] at e
      cases e
    | some w =>
      simp only [q] at e
      cases w <;> first | exact e | (rw [← e] <;> rfl) | (cases e <;> rfl)
  len := rfl
  nd := List.nodup_nil
  nf := fun i a w h1 _ _ => by simp at h1
  nt := fun b ps e => by
    cases q : H b with
    | none =>
      simp only [q] at e
      cases e
    | some w =>
      simp only [q] at e
      cases w <;> cases e
  at_ := fun i a w h1 _ => by simp at h1
  tab := ht
  kn := fun q hq => by rw [hk.1] at hq; cases hq
  kp := hk.2 _
def scr (ns : List Int) : U := .d (.list (ns.map .int))
theorem law_sp {K : PySem.W.Frag} {fa : Nat → V} {T : TZ} {f : List U → M U} {H : Hp} {a : Addr} {ns : List Int} (ht : Tabs T.tabs H) (hk : T.z.kn = [] ∧ ∀ F, T.z.kp F) (hS : SqL K H a (ns.map V.int)) (hl : ∃ μ', f [scr ns] [] = .ok (.d (.bool true)) μ') :
    spD ⟨K, fa, T⟩ 1 f [.ref a] H (fun v _ => v = .bl true) (fun _ _ _ => False) := by
  obtain ⟨μ', hl⟩ := hl
  have hq : SqL K (fun b => match H b with
    | some (.tbl _) => none
    | o => o) a (ns.map V.int) := by
    rcases hS with (h | ⟨o, h⟩) | h
    · exact .inl (.inl (by simp only [h]))
    · exact .inl (.inr ⟨o, by simp only [h]⟩)
    · exact .inr h
  refine ⟨rfl, _, [], [], [scr ns], Ok.start ht hk, .cons (.d (.lst hq (DqAll.ofInts ns))) .nil, ?_⟩
  rw [hl]
  intro b F' H' m' g' o' r'
  exact rp_bl r'
end DL

/-! The data layer, part 12: what a head tells. -/
namespace DL
open PySem PySem.Spec PyProof.Rows L2 Evl LamX
def excB (K : PySem.W.Frag) (x : Str) : Bool := He.eqO (PySem.W.findIn K (.ref (He.ga K x)) "__getattribute__") (some (some (.builtin "BaseException.__getattribute__"))) && (He.eqO (PySem.W.findIn K (.ref (He.ga K x)) "__getattr__") (some none) && (decide (PySem.W.subIn K (.ref (He.ga K x)) (.type "BaseException") = some true) &&
  (PySem.W.hasDictIn K (He.ga K x) && (He.eqO (PySem.W.findIn K (.ref (He.ga K x)) "__class__") (some (some (.builtin "object.__class__"))) && (He.eqO (PySem.W.specialIn K (.builtin "object.__class__") "__get__") (some (some (.builtin "getset_descriptor.__get__"))) &&
  (decide (PySem.W.takesIn K (.builtin "object.__class__") = some true) && decide (PySem.W.mroIn K (He.ga K x) (.type "object") = some true)))))))
theorem excB_ok {K : PySem.W.Frag} {x : Str} (c : excB K x = true) : ExcC K (He.ga K x) := by
  obtain ⟨c1, c⟩ := He.ba c
  obtain ⟨c2, c⟩ := He.ba c
  obtain ⟨c3, c⟩ := He.ba c
  obtain ⟨c4, c⟩ := He.ba c
  obtain ⟨c5, c⟩ := He.ba c
  obtain ⟨c6, c⟩ := He.ba c
  obtain ⟨c7, c8⟩ := He.ba c
  exact ⟨He.eqO_ok c1, He.eqO_ok c2, of_decide_eq_true c3, c4, He.eqO_ok c5, He.eqO_ok c6, of_decide_eq_true c7, of_decide_eq_true c8⟩
def kitB (K : PySem.W.Frag) (x y : Str) (b : Bool) : Bool := decide (PySem.W.kitOne K (.ref (He.ga K x)) (.ref (He.ga K y)) = some b)
theorem kitB_ok {K : PySem.W.Frag} {x y : Str} {b : Bool} (c : kitB K x y b = true) : PySem.W.kitOne K (.ref (He.ga K x)) (.ref (He.ga K y)) = some b := of_decide_eq_true c
def distinctB (l : List Addr) : Bool := decide l.Nodup
theorem funD_code {K : PySem.W.Frag} {x q : Str} {pr : Arguments} {b : List Stmt} {sc : Scope} {dvs : List V} {kws : List (Str × V)} {p : He.Defn} {fd : FuncData} {cdv : Value} (F : FunD K x q pr b sc dvs kws (He.fAd K p) fd) (h : fd.code = cdv) : cdv = .ref (He.codeOf K p) := by
  obtain ⟨oc, od, dV, kV, doc, pm, an, cd, ct, osl, rfl, lk, hcd, _, _⟩ := F.ex
  obtain ⟨c, rfl⟩ := He.codeIn_ref hcd
  rw [He.codeOf_eq lk rfl, ← h]
section
variable {P : Program} {w : World} {K : PySem.W.Frag} {mg : Str → Option Value} {base : Heap} {fa : Nat → V} {T : TZ}
theorem FD.fv {x : Str} {k n j : Nat} {fn : List U → M U} {a : Addr} (B : FD P w K mg base fa T x k n fn) (g : mg x = some (.ref a)) (hj : fa j = .ref a) : FV P w K mg base fa T j k n fn := by
  obtain ⟨f, fd, ps, F, hm, hk, hb⟩ := B.ex
  rw [g] at hm
  cases hm
  exact ⟨a, fd, ps, F, hj, hk, hb⟩
theorem FV.mono {k k' n j : Nat} {fn : List U → M U} (B : FV P w K mg base fa T j k n fn) (h : k ≤ k') : FV P w K mg base fa T j k' n fn := by
  obtain ⟨f, fd, ps, F, hm, hk, hb⟩ := B.ex
  exact ⟨f, fd, ps, F.mono h, hm, hk, hb⟩
end
end DL

/-! The data layer, part 13: how the functions run, for plain proofs. -/
namespace DL
open PySem
section
variable {α β γ : Type} {ρ : Env'} {μ : List MO} {i k n N : Nat} {x : PyData} {u : U}
@[simp] theorem e_pur (a : α) : pur a μ = .ok a μ := rfl
@[simp] theorem e_stk : (stk : M α) μ = .stuck := rfl
@[simp] theorem e_bnd (x : M α) (f : α → M β) : bnd x f μ = (match x μ with
  | .ok a μ' => f a μ'
  | .err e μ' => .err e μ'
  | .stuck => .stuck) := rfl
@[simp] theorem e_ofO_some (a : α) : ofO (some a) μ = .ok a μ := rfl
@[simp] theorem e_ofO_none : (ofO none : M α) μ = .stuck := rfl
@[simp] theorem e_dC : dC x ρ μ = .ok (.d x) μ := rfl
@[simp] theorem e_dF : dF n ρ μ = .ok (.fn n) μ := rfl
@[simp] theorem e_dV : dV i ρ μ = (match ρ[i]? with
  | some (some u) => .ok u μ
  | _ => .stuck) := by
  unfold dV
  cases ρ[i]? with
  | none => rfl
  | some o => cases o <;> rfl
@[simp] theorem e_peek_d : peek μ (.d x) = some x := rfl
@[simp] theorem e_dOp (f : PyData → PyData → Option PyData) (a b : DE) : dOp f a b ρ μ = (match a ρ μ with
  | .ok u μ1 => (match b ρ μ1 with
    | .ok v μ2 => (match peek μ2 u, peek μ2 v with
      | some x, some y => (match f x y with
        | some z => .ok (.d z) μ2
        | none => .stuck)
      | _, _ => .stuck)
    | .err e μ2 => .err e μ2
    | .stuck => .stuck)
  | .err e μ1 => .err e μ1
  | .stuck => .stuck) := by
  unfold dOp bnd
  cases a ρ μ with
  | ok u μ1 =>
    dsimp only
    cases b ρ μ1 with
    | ok v μ2 =>
      dsimp only
      first | done | (cases peek μ2 u <;> cases peek μ2 v <;> first | rfl | (dsimp only; split <;> rfl))
    | _ => rfl
  | _ => rfl
@[simp] theorem e_dUn (f : PyData → Option PyData) (a : DE) : dUn f a ρ μ = (match a ρ μ with
  | .ok u μ1 => (match peek μ1 u with
    | some x => (match f x with
      | some z => .ok (.d z) μ1
      | none => .stuck)
    | none => .stuck)
  | .err e μ1 => .err e μ1
  | .stuck => .stuck) := by
  unfold dUn bnd
  cases a ρ μ with
  | ok u μ1 =>
    dsimp only
    first | done | (cases peek μ1 u <;> first | rfl | (dsimp only; split <;> rfl))
  | _ => rfl
@[simp] theorem e_dTest (a : DE) : dTest a ρ μ = (match a ρ μ with
  | .ok u μ1 => (match u with
    | .d (.bool b) => .ok b μ1
    | _ => .stuck)
  | .err e μ1 => .err e μ1
  | .stuck => .stuck) := by
  unfold dTest bnd
  cases a ρ μ with
  | ok u μ1 => cases u with
    | d x => cases x <;> rfl
    | _ => rfl
  | _ => rfl
@[simp] theorem e_dSeq (a b : DS) : dSeq a b ρ μ = (match a ρ μ with
  | .ok r μ1 => (match r with
    | (.nx, ρ') => b ρ' μ1
    | r => .ok r μ1)
  | .err e μ1 => .err e μ1
  | .stuck => .stuck) := by
  unfold dSeq bnd
  cases a ρ μ with
  | ok r μ1 =>
    obtain ⟨f, ρ'⟩ := r
    cases f <;> rfl
  | _ => rfl
@[simp] theorem e_dAsg (e : DE) : dAsg i e ρ μ = (match e ρ μ with
  | .ok u μ1 => .ok (.nx, ρ.set i (some u)) μ1
  | .err e μ1 => .err e μ1
  | .stuck => .stuck) := by
  unfold dAsg bnd
  cases e ρ μ <;> rfl
@[simp] theorem e_dRet (e : DE) : dRet e ρ μ = (match e ρ μ with
  | .ok u μ1 => .ok (.ret u, ρ) μ1
  | .err e μ1 => .err e μ1
  | .stuck => .stuck) := by
  unfold dRet bnd
  cases e ρ μ <;> rfl
@[simp] theorem e_dDrop (e : DE) : dDrop e ρ μ = (match e ρ μ with
  | .ok u μ1 => .ok (.nx, ρ) μ1
  | .err e μ1 => .err e μ1
  | .stuck => .stuck) := by
  unfold dDrop bnd
  cases e ρ μ <;> rfl
@[simp] theorem e_dSkip : dSkip ρ μ = .ok (.nx, ρ) μ := rfl
@[simp] theorem e_dIte (t : DT) (a b : DS) : dIte t a b ρ μ = (match t ρ μ with
  | .ok c μ1 => if c = true then a ρ μ1 else b ρ μ1
  | .err e μ1 => .err e μ1
  | .stuck => .stuck) := by
  unfold dIte bnd
  cases t ρ μ with
  | ok c μ1 => cases c <;> rfl
  | _ => rfl
@[simp] theorem e_dNil : dNil ρ μ = .ok [] μ := rfl
@[simp] theorem e_dCons (a : DE) (r : DA) : dCons a r ρ μ = (match a ρ μ with
  | .ok u μ1 => (match r ρ μ1 with
    | .ok us μ2 => .ok (u :: us) μ2
    | .err e μ2 => .err e μ2
    | .stuck => .stuck)
  | .err e μ1 => .err e μ1
  | .stuck => .stuck) := by
  unfold dCons bnd
  cases a ρ μ with
  | ok u μ1 =>
    dsimp only
    cases r ρ μ1 <;> rfl
  | _ => rfl
@[simp] theorem e_dCall (fn : List U → M U) (a : DA) : dCall n fn a ρ μ = (match a ρ μ with
  | .ok us μ1 => if us.length = n then fn us μ1 else .stuck
  | .err e μ1 => .err e μ1
  | .stuck => .stuck) := by
  unfold dCall bnd
  cases a ρ μ with
  | ok us μ1 =>
    by_cases h : us.length = n
    · simp only [h, if_true]
    · simp only [h, if_false]
      rfl
  | _ => rfl
@[simp] theorem e_bodyD (ds : DS) (us : List U) (h : us.length = n) : bodyD N n ds us μ = (match ds (startE N us) μ with
  | .ok r μ1 => (match r with
    | (.nx, _) => .ok (.d .none) μ1
    | (.ret u, _) => .ok u μ1
    | _ => .stuck)
  | .err e μ1 => .err e μ1
  | .stuck => .stuck) := by
  unfold bodyD
  rw [if_pos h]
  unfold bnd
  cases ds (startE N us) μ with
  | ok r μ1 =>
    obtain ⟨f, ρ'⟩ := r
    cases f <;> rfl
  | _ => rfl
@[simp] theorem e_dAnd (a b : DT) : dAnd a b ρ μ = (match a ρ μ with
  | .ok c μ1 => if c = true then b ρ μ1 else .ok false μ1
  | .err e μ1 => .err e μ1
  | .stuck => .stuck) := by
  unfold dAnd bnd
  cases a ρ μ with
  | ok c μ1 => cases c <;> rfl
  | _ => rfl
@[simp] theorem e_dOr (a b : DT) : dOr a b ρ μ = (match a ρ μ with
  | .ok c μ1 => if c = true then .ok true μ1 else b ρ μ1
  | .err e μ1 => .err e μ1
  | .stuck => .stuck) := by
  unfold dOr bnd
  cases a ρ μ with
  | ok c μ1 => cases c <;> rfl
  | _ => rfl
@[simp] theorem e_dNot (a : DT) : dNot a ρ μ = (match a ρ μ with
  | .ok c μ1 => .ok (!c) μ1
  | .err e μ1 => .err e μ1
  | .stuck => .stuck) := by
  unfold dNot bnd
  cases a ρ μ <;> rfl
@[simp] theorem e_dIsa (f : PyData → Bool) (a : DE) : dIsa f a ρ μ = (match a ρ μ with
  | .ok u μ1 => (match peek μ1 u with
    | some x => .ok (.d (.bool (f x))) μ1
    | none => .stuck)
  | .err e μ1 => .err e μ1
  | .stuck => .stuck) := by
  unfold dIsa bnd
  cases a ρ μ with
  | ok u μ1 =>
    dsimp only
    first | done | (cases peek μ1 u <;> rfl)
  | _ => rfl
@[simp] theorem e_dTup (a : DA) : dTup a ρ μ = (match a ρ μ with
  | .ok us μ1 => if us.length ≤ big then .ok (tupU us) μ1 else .stuck
  | .err e μ1 => .err e μ1
  | .stuck => .stuck) := by
  unfold dTup bnd
  cases a ρ μ with
  | ok us μ1 =>
    by_cases h : us.length ≤ big
    · simp only [h, if_true]
      rfl
    · simp only [h, if_false]
      rfl
  | _ => rfl
@[simp] theorem e_dLst (a : DA) : dLst a ρ μ = (match a ρ μ with
  | .ok us μ1 => if us.length ≤ big then .ok (lstU us) μ1 else .stuck
  | .err e μ1 => .err e μ1
  | .stuck => .stuck) := by
  unfold dLst bnd
  cases a ρ μ with
  | ok us μ1 =>
    by_cases h : us.length ≤ big
    · simp only [h, if_true]
      rfl
    · simp only [h, if_false]
      rfl
  | _ => rfl
@[simp] theorem e_dSq (a : DE) : dSq a ρ μ = (match a ρ μ with
  | .ok u μ1 => ofO (seqU u) μ1
  | .err e μ1 => .err e μ1
  | .stuck => .stuck) := by
  unfold dSq bnd
  cases a ρ μ <;> rfl
@[simp] theorem e_dIf (t : DT) (a b : DE) : dIf t a b ρ μ = (match t ρ μ with
  | .ok c μ1 => if c = true then a ρ μ1 else b ρ μ1
  | .err e μ1 => .err e μ1
  | .stuck => .stuck) := by
  unfold dIf bnd
  cases t ρ μ with
  | ok c μ1 => cases c <;> rfl
  | _ => rfl
@[simp] theorem e_dAndV (a b : DE) : dAndV a b ρ μ = (match a ρ μ with
  | .ok u μ1 => (match u with
    | .d (.bool c) => if c = true then b ρ μ1 else .ok (.d (.bool false)) μ1
    | _ => .stuck)
  | .err e μ1 => .err e μ1
  | .stuck => .stuck) := by
  unfold dAndV bnd
  cases a ρ μ with
  | ok u μ1 => cases u with
    | d x => cases x with
      | bool c => cases c <;> rfl
      | _ => rfl
    | _ => rfl
  | _ => rfl
@[simp] theorem e_dOrV (a b : DE) : dOrV a b ρ μ = (match a ρ μ with
  | .ok u μ1 => (match u with
    | .d (.bool c) => if c = true then .ok (.d (.bool true)) μ1 else b ρ μ1
    | _ => .stuck)
  | .err e μ1 => .err e μ1
  | .stuck => .stuck) := by
  unfold dOrV bnd
  cases a ρ μ with
  | ok u μ1 => cases u with
    | d x => cases x with
      | bool c => cases c <;> rfl
      | _ => rfl
    | _ => rfl
  | _ => rfl
@[simp] theorem e_dNotV (a : DE) : dNotV a ρ μ = (match a ρ μ with
  | .ok u μ1 => (match u with
    | .d (.bool c) => .ok (.d (.bool (!c))) μ1
    | _ => .stuck)
  | .err e μ1 => .err e μ1
  | .stuck => .stuck) := by
  unfold dNotV bnd
  cases a ρ μ with
  | ok u μ1 => cases u with
    | d x => cases x <;> rfl
    | _ => rfl
  | _ => rfl
@[simp] theorem e_opU (f : PyData → PyData → Option PyData) (a b : U) : opU f a b μ = (match peek μ a, peek μ b with
  | some x, some y => (match f x y with
    | some z => .ok (.d z) μ
    | none => .stuck)
  | _, _ => .stuck) := rfl
@[simp] theorem e_dChain (f f' : PyData → PyData → Option PyData) (a b c : DE) : dChain f f' a b c ρ μ = (match a ρ μ with
  | .ok u μ1 => (match b ρ μ1 with
    | .ok v μ2 => (match opU f u v μ2 with
      | .ok t μ3 => (match t with
        | .d (.bool true) => (match c ρ μ3 with
          | .ok w μ4 => opU f' v w μ4
          | .err e μ4 => .err e μ4
          | .stuck => .stuck)
        | .d (.bool false) => .ok (.d (.bool false)) μ3
        | _ => .stuck)
      | .err e μ3 => .err e μ3
      | .stuck => .stuck)
    | .err e μ2 => .err e μ2
    | .stuck => .stuck)
  | .err e μ1 => .err e μ1
  | .stuck => .stuck) := by
  unfold dChain bnd
  cases a ρ μ with
  | ok u μ1 =>
    dsimp only
    cases b ρ μ1 with
    | ok v μ2 =>
      dsimp only
      cases opU f u v μ2 with
      | ok t μ3 => cases t with
        | d x => cases x with
          | bool q => cases q with
            | true =>
              dsimp only
              cases c ρ μ3 <;> rfl
            | false => rfl
          | _ => rfl
        | _ => rfl
      | _ => rfl
    | _ => rfl
  | _ => rfl
@[simp] theorem e_dNo : dNo ρ μ = .ok none μ := rfl
@[simp] theorem e_dPart (a : DE) : dPart a ρ μ = (match a ρ μ with
  | .ok u μ1 => (match u with
    | .d (.int i) => .ok (some i) μ1
    | _ => .stuck)
  | .err e μ1 => .err e μ1
  | .stuck => .stuck) := by
  unfold dPart bnd
  cases a ρ μ with
  | ok u μ1 => cases u with
    | d x => cases x <;> rfl
    | _ => rfl
  | _ => rfl
@[simp] theorem e_dSl (a : DE) (l h : DO) : dSl a l h ρ μ = (match a ρ μ with
  | .ok u μ1 => (match l ρ μ1 with
    | .ok lo μ2 => (match h ρ μ2 with
      | .ok hi μ3 => (match peek μ3 u with
        | some x => (match slP x lo hi with
          | some z => .ok (.d z) μ3
          | none => .stuck)
        | none => .stuck)
      | .err e μ3 => .err e μ3
      | .stuck => .stuck)
    | .err e μ2 => .err e μ2
    | .stuck => .stuck)
  | .err e μ1 => .err e μ1
  | .stuck => .stuck) := by
  unfold dSl bnd
  cases a ρ μ with
  | ok u μ1 =>
    dsimp only
    cases l ρ μ1 with
    | ok lo μ2 =>
      dsimp only
      cases h ρ μ2 with
      | ok hi μ3 =>
        dsimp only
        first | done | (cases peek μ3 u <;> first | rfl | (dsimp only; split <;> rfl))
      | _ => rfl
    | _ => rfl
  | _ => rfl
@[simp] theorem e_dZip (a : DA) : dZip a ρ μ = (match a ρ μ with
  | .ok us μ1 => ofO (zipU us) μ1
  | .err e μ1 => .err e μ1
  | .stuck => .stuck) := by
  unfold dZip bnd
  cases a ρ μ <;> rfl
@[simp] theorem e_dR1 (a : DA) : dR1 a ρ μ = (match a ρ μ with
  | .ok us μ1 => ofO (rng1 us) μ1
  | .err e μ1 => .err e μ1
  | .stuck => .stuck) := by
  unfold dR1 bnd
  cases a ρ μ <;> rfl
@[simp] theorem e_dR2 (a : DA) : dR2 a ρ μ = (match a ρ μ with
  | .ok us μ1 => ofO (rng2 us) μ1
  | .err e μ1 => .err e μ1
  | .stuck => .stuck) := by
  unfold dR2 bnd
  cases a ρ μ <;> rfl
@[simp] theorem e_dPar (is : List Nat) (a : DA) : dPar is a ρ μ = (match a ρ μ with
  | .ok us μ1 => if us.length = is.length then .ok (.nx, (is.zip us).foldl (fun r p => r.set p.1 (some p.2)) ρ) μ1 else .stuck
  | .err e μ1 => .err e μ1
  | .stuck => .stuck) := by
  unfold dPar bnd
  cases a ρ μ with
  | ok us μ1 =>
    dsimp only
    split <;> rfl
  | _ => rfl
@[simp] theorem e_dUnp (dg : DG) (a : DE) : dUnp dg a ρ μ = (match a ρ μ with
  | .ok u μ1 => (match dg.f u ρ with
    | some ρ' => .ok (.nx, ρ') μ1
    | none => .stuck)
  | .err e μ1 => .err e μ1
  | .stuck => .stuck) := by
  unfold dUnp bnd
  cases a ρ μ with
  | ok u μ1 =>
    dsimp only
    cases dg.f u ρ <;> rfl
  | _ => rfl
@[simp] theorem e_dFor (di : DI) (dg : DG) (b : DS) : dFor di dg b ρ μ = (match di ρ μ with
  | .ok us μ1 => forD dg.f b us ρ μ1
  | .err e μ1 => .err e μ1
  | .stuck => .stuck) := by
  unfold dFor bnd
  cases di ρ μ <;> rfl
theorem forD_nil (gd : U → Env' → Option Env') (b : DS) : forD gd b [] ρ μ = .ok (.nx, ρ) μ := rfl
theorem forD_cons (gd : U → Env' → Option Env') (b : DS) (us : List U) {ρ1 : Env'} (h : gd u ρ = some ρ1) : forD gd b (u :: us) ρ μ = (match b ρ1 μ with
  | .ok r μ1 => (match r with
    | (.nx, ρ2) => forD gd b us ρ2 μ1
    | (.cnt, ρ2) => forD gd b us ρ2 μ1
    | (.brk, ρ2) => .ok (.nx, ρ2) μ1
    | (.ret u, ρ2) => .ok (.ret u, ρ2) μ1)
  | .err e μ1 => .err e μ1
  | .stuck => .stuck) := by
  rw [forD]
  simp only [h]
  unfold bnd
  cases b ρ1 μ with
  | ok r μ1 =>
    obtain ⟨f, ρ2⟩ := r
    cases f <;> rfl
  | _ => rfl
@[simp] theorem e_gN : (gN i).f u ρ = some (ρ.set i (some u)) := rfl
@[simp] theorem e_gT_d (r : DGs) (xs : List PyData) : (gT n r).f (.d (.tuple xs)) ρ = if xs.length = n then r.f (xs.map .d) ρ else none := rfl
@[simp] theorem e_gT_tu (r : DGs) (us : List U) : (gT n r).f (.tu us) ρ = if us.length = n then r.f us ρ else none := rfl
@[simp] theorem e_gsCons (a : DG) (r : DGs) (us : List U) : (gsCons a r).f (u :: us) ρ = (match a.f u ρ with
  | some ρ' => r.f us ρ'
  | none => none) := rfl
@[simp] theorem e_gsNil : gsNil.f [] ρ = some ρ := rfl
@[simp] theorem e_seq_l (xs : List PyData) : seqU (.d (.list xs)) = some (xs.map .d) := rfl
@[simp] theorem e_seq_t (xs : List PyData) : seqU (.d (.tuple xs)) = some (xs.map .d) := rfl
@[simp] theorem e_seq_tu (us : List U) : seqU (.tu us) = some us := rfl
theorem allD_map : ∀ l : List PyData, allD (l.map .d) = some l
  | [] => rfl
  | x :: l => by
    rw [List.map_cons, allD, allD_map l]
theorem lstU_map (l : List PyData) : lstU (l.map .d) = .d (.list l) := by
  unfold lstU
  rw [allD_map]
theorem tupU_map (l : List PyData) : tupU (l.map .d) = .d (.tuple l) := by
  unfold tupU
  rw [allD_map]
/-- [.. for .. in .. if ..] when nothing changes -/
theorem lc_data {di : DI} {dg : DG} {tt : DT} {te : DE} {vs : List Nat} (xs : List α) (g : α → U) (p : α → Bool) (h : α → PyData) (hd : di ρ μ = .ok (xs.map g) μ) (hl : xs.length ≤ big)
    (H : ∀ x ∈ xs, ∃ ρ1, dg.f (g x) (wipeE ρ vs) = some ρ1 ∧ tt ρ1 μ = .ok (p x) μ ∧ (p x = true → te ρ1 μ = .ok (.d (h x)) μ)) : dLc di dg tt te vs ρ μ = .ok (.d (.list ((xs.filter p).map h))) μ := by
  have key : ∀ ys : List α, (∀ x ∈ ys, x ∈ xs) → lcD dg.f tt te (wipeE ρ vs) (ys.map g) μ = .ok (((ys.filter p).map h).map .d) μ := fun ys => by
    induction ys with
    | nil => exact fun _ => rfl
    | cons y ys ih =>
      intro hy
      obtain ⟨ρ1, h1, h2, h3⟩ := H y (hy y List.mem_cons_self)
      have ih := ih fun x hx => hy x (List.mem_cons_of_mem _ hx)
      rw [List.map_cons, lcD]
      simp only [h1]
      unfold bnd noErr
      simp only [h2]
      cases hp : p y with
      | false =>
        simp only [Bool.false_eq_true, if_false]
        rw [ih, List.filter_cons_of_neg (by rw [hp]; exact Bool.false_ne_true)]
      | true =>
        simp only [if_true]
        simp only [h3 hp]
        rw [ih, List.filter_cons_of_pos hp]
        rfl
  unfold dLc bnd
  rw [hd]
  simp only [List.length_map, hl, if_true]
  rw [key xs fun _ hx => hx]
  show pur (lstU (((xs.filter p).map h).map .d)) μ = _
  rw [lstU_map]
  rfl
/-- .. without a test -/
theorem lc_all {di : DI} {dg : DG} {te : DE} {vs : List Nat} (xs : List α) (g : α → U) (h : α → PyData) (hd : di ρ μ = .ok (xs.map g) μ) (hl : xs.length ≤ big)
    (H : ∀ x ∈ xs, ∃ ρ1, dg.f (g x) (wipeE ρ vs) = some ρ1 ∧ te ρ1 μ = .ok (.d (h x)) μ) : dLc di dg dYes te vs ρ μ = .ok (.d (.list (xs.map h))) μ := by
  have := lc_data (p := fun _ => true) (h := h) xs g (tt := dYes) hd hl (dg := dg) (te := te) (vs := vs) fun x hx => by
    obtain ⟨ρ1, h1, h2⟩ := H x hx
    exact ⟨ρ1, h1, rfl, fun _ => h2⟩
  rw [this]
  have e : xs.filter (fun _ => true) = xs := List.filter_eq_self.mpr fun _ _ => rfl
  rw [e]
@[simp] theorem eqP_int (i j : Int) : eqP (.int i) (.int j) = some (.bool (i == j)) := by
  unfold eqP cl
  simp [PyData.depth, PyData.eqv]
@[simp] theorem neP_int (i j : Int) : neP (.int i) (.int j) = some (.bool (!(i == j))) := by
  unfold neP cl
  simp [PyData.depth, PyData.eqv]
@[simp] theorem ltP_int (i j : Int) : ltP (.int i) (.int j) = some (.bool (decide (i < j))) := rfl
@[simp] theorem leP_int (i j : Int) : leP (.int i) (.int j) = some (.bool (decide (i ≤ j))) := rfl
@[simp] theorem gtP_int (i j : Int) : gtP (.int i) (.int j) = some (.bool (decide (j < i))) := rfl
@[simp] theorem geP_int (i j : Int) : geP (.int i) (.int j) = some (.bool (decide (j ≤ i))) := rfl
@[simp] theorem ixP_t (xs : List PyData) (i : Int) : ixP (.tuple xs) (.int i) = L2.atI xs i := rfl
@[simp] theorem ixP_l (xs : List PyData) (i : Int) : ixP (.list xs) (.int i) = L2.atI xs i := rfl
@[simp] theorem lenP_t (xs : List PyData) : lenP (.tuple xs) = some (.int xs.length) := rfl
@[simp] theorem lenP_l (xs : List PyData) : lenP (.list xs) = some (.int xs.length) := rfl
@[simp] theorem addP_int (i j : Int) : addP (.int i) (.int j) = some (.int (i + j)) := rfl
@[simp] theorem subP_int (i j : Int) : subP (.int i) (.int j) = some (.int (i - j)) := rfl
@[simp] theorem negP_int (i : Int) : negP (.int i) = some (.int (-i)) := rfl
@[simp] theorem intP_int (i : Int) : intP (.int i) = some (.int i) := rfl
@[simp] theorem max2P_int (i j : Int) : max2P (.int i) (.int j) = some (.int (if j > i then j else i)) := rfl
@[simp] theorem min2P_int (i j : Int) : min2P (.int i) (.int j) = some (.int (if j < i then j else i)) := rfl
@[simp] theorem isNP_none : isNP .none .none = some (.bool true) := rfl
@[simp] theorem isNP_int (i : Int) : isNP (.int i) .none = some (.bool false) := rfl
@[simp] theorem isNP_tuple (xs : List PyData) : isNP (.tuple xs) .none = some (.bool false) := rfl
@[simp] theorem isNP_list (xs : List PyData) : isNP (.list xs) .none = some (.bool false) := rfl
@[simp] theorem notNP_none : notNP .none .none = some (.bool false) := rfl
@[simp] theorem notNP_int (i : Int) : notNP (.int i) .none = some (.bool true) := rfl
@[simp] theorem notNP_tuple (xs : List PyData) : notNP (.tuple xs) .none = some (.bool true) := rfl
@[simp] theorem tupP_l (xs : List PyData) : tupP (.list xs) = some (.tuple xs) := rfl
@[simp] theorem isInt_int (i : Int) : (PyData.int i).isInt = true := rfl
@[simp] theorem isBool_int (i : Int) : (PyData.int i).isBool = false := rfl
@[simp] theorem isTuple_tuple (xs : List PyData) : (PyData.tuple xs).isTuple = true := rfl
theorem mul_small {i j : Int} (h : (-(2 ^ 64) < i ∧ i < 2 ^ 64) ∨ (-(2 ^ 64) < j ∧ j < 2 ^ 64)) : mulP (.int i) (.int j) = some (.int (i * j)) := by
  have : mulOk i j = true := decide_eq_true (h.imp id Or.inl)
  show (if mulOk i j = true then some (PyData.int (i * j)) else none) = _
  rw [if_pos this]
theorem mod_pos {i j : Int} (h : 0 < j) : modP (.int i) (.int j) = some (.int (i % j)) := if_pos h
theorem div_pos {i j : Int} (h : 0 < j) (h2 : j < 2 ^ 64) : divP (.int i) (.int j) = some (.int (i / j)) := if_pos ⟨h, by
  have : j.natAbs < 2 ^ 64 := by omega
  exact Nat.lt_of_lt_of_le this (by decide)⟩
theorem sum_t (ns : List Int) : sumP (.tuple (ns.map .int)) = some (.int ns.sum) := by
  show (intsOf (ns.map .int)).map _ = _
  rw [intsOf_map]
  rfl
theorem sum_l (ns : List Int) : sumP (.list (ns.map .int)) = some (.int ns.sum) := by
  show (intsOf (ns.map .int)).map _ = _
  rw [intsOf_map]
  rfl
theorem all_l (bs : List Bool) : allP (.list (bs.map .bool)) = some (.bool (bs.all id)) := by
  show (bools (bs.map .bool)).map _ = _
  rw [bools_map]
  rfl
theorem all_true {α : Type} (xs : List α) : allP (.list (xs.map fun _ => .bool true)) = some (.bool true) := by
  have e : xs.map (fun _ => PyData.bool true) = (xs.map fun _ => true).map .bool := by rw [List.map_map] <;> rfl
  rw [e, all_l]
  have : (xs.map fun _ => true).all id = true := List.all_eq_true.mpr fun b hb => by
    obtain ⟨_, _, rfl⟩ := List.mem_map.mp hb
    rfl
  rw [this]
theorem depth_ints : ∀ ns : List Int, PyData.depthAll (ns.map .int) ≤ 1
  | [] => Nat.zero_le _
  | n :: ns => by
    have := depth_ints ns
    simp only [List.map_cons, PyData.depthAll, PyData.depth]
    omega
theorem plain_ints : ∀ ns : List Int, PyData.plainAll (ns.map .int) = true
  | [] => rfl
  | n :: ns => by
    have := plain_ints ns
    simp only [List.map_cons, PyData.plainAll, PyData.plain, this, Bool.and_self]
theorem eq_refl {x : PyData} (hp : x.plain = true) (hd : x.depth ≤ 100) : eqP x x = some (.bool true) := by
  unfold eqP cl
  rw [if_pos (decide_eq_true (by omega)), PySem.SeqAt.eqv_refl_plain x hp]
theorem ne_refl {x : PyData} (hp : x.plain = true) (hd : x.depth ≤ 100) : neP x x = some (.bool false) := by
  unfold neP cl
  rw [if_pos (decide_eq_true (by omega)), PySem.SeqAt.eqv_refl_plain x hp]
  rfl
theorem atI_nat {α : Type} {xs : List α} {i : Int} (h0 : 0 ≤ i) (h : i < xs.length) : L2.atI xs i = xs[i.toNat]? := by
  unfold L2.atI L2.ixN
  rw [if_pos h0, if_pos h]
  rfl
theorem atI_back {α : Type} {xs : List α} {i : Int} (h0 : i < 0) (h : -(xs.length : Int) ≤ i) : L2.atI xs i = xs[(i + xs.length).toNat]? := by
  unfold L2.atI L2.ixN
  rw [if_neg (by omega), if_pos h]
  rfl
end
end DL

/-! The data layer, part 14: xs[::-1]; comprehensions of two clauses. -/
namespace DL
open PySem PySem.Spec PyProof.Rows L2 Evl LamX
theorem nodup_fst {l : List (Addr × Str)} (h : distinctB (l.map (·.1)) = true) {p q : Addr × Str} (hp : p ∈ l) (hq : q ∈ l) (e : p.1 = q.1) : p = q := by
  have nd : (l.map (·.1)).Nodup := of_decide_eq_true h
  clear h
  induction l with
  | nil => cases hp
  | cons a l ih =>
    rw [List.map_cons, List.nodup_cons] at nd
    rcases List.mem_cons.mp hp with h1 | h1
    · rcases List.mem_cons.mp hq with h2 | h2
      · rw [h1, h2]
      · exact (nd.1 (List.mem_map.mpr ⟨q, h2, by rw [← h1]; exact e.symm⟩)).elim
    · rcases List.mem_cons.mp hq with h2 | h2
      · exact (nd.1 (List.mem_map.mpr ⟨p, h1, by rw [← h2]; exact e⟩)).elim
      · exact ih h1 h2 nd.2
/-! ### xs[::-1] -/
def revP : PyData → Option PyData
  | .list xs => some (.list xs.reverse)
  | .tuple xs => some (.tuple xs.reverse)
  | _ => none
theorem DqAll.rev {K : PySem.W.Frag} {F : Hp} : ∀ {xs : List PyData} {vs : List V}, DqAll K F vs xs → DqAll K F vs.reverse xs.reverse
  | [], _, h => by cases h; exact .nil
  | x :: xs, _, h => by
    cases h with
    | cons h1 h2 =>
      rw [List.reverse_cons, List.reverse_cons]
      exact (DqAll.rev h2).app (.cons h1 .nil)
theorem back_places (n : Nat) : Builtin.Slice.slicePlaces ((n : Int) - 1) (-1) (-1) = n := by
  unfold Builtin.Slice.slicePlaces
  rw [if_neg (by decide)]
  by_cases h : (n : Int) - 1 > -1
  · rw [if_pos h, show (- -1 : Int) = 1 by decide, Int.ediv_one]
    omega
  · rw [if_neg h]
    omega
theorem fm_congr {α β : Type} {f g : α → Option β} : ∀ {l : List α}, (∀ x ∈ l, f x = g x) → l.filterMap f = l.filterMap g
  | [], _ => rfl
  | x :: l, h => by rw [List.filterMap_cons, List.filterMap_cons, h x List.mem_cons_self, fm_congr fun y hy => h y (List.mem_cons_of_mem _ hy)]
theorem back_pick (xs : Array Value) : ((List.range xs.size).filterMap fun (k : Nat) => xs[((xs.size : Int) - 1 + (k : Int) * (-1)).toNat]?).toArray = xs.toList.reverse.toArray := by
  have e : (List.range xs.size).filterMap (fun (k : Nat) => xs[((xs.size : Int) - 1 + (k : Int) * (-1)).toNat]?) = (List.range xs.reverse.size).filterMap (xs.reverse[·]?) := by
    rw [Array.size_reverse]
    apply fm_congr
    intro k hk
    have hk := List.mem_range.mp hk
    rw [Array.getElem?_reverse (by omega)]
    have : ((xs.size : Int) - 1 + (k : Int) * (-1)).toNat = xs.size - 1 - k := by omega
    rw [this]
  rw [e, PySem.W.krv_all, Array.toList_reverse]
section
variable {prog : Program} {w : World} {A : Around} {E : Value → Shared → Prop} {s : Shared}
theorem back_tuple {t sl : Addr} {items : Array Value} {vl vu vs : Value} {Q : Value → Shared → Prop} (ht : s.heap.IsTuple t items) (hs : s.heap.IsSliceOf sl vl vu vs) (pl : IsPart vl none) (pu : IsPart vu none) (ps : IsPart vs (some (-1)))
    (h : Q (.ref s.heap.objs.size) { s with heap := s.heap.push { cls := .type "tuple", data := .seq items.toList.reverse.toArray } }) (hsz : items.size ≤ sizeLine) : wpAny (model prog w) A (getItem (.ref t) (.ref sl)) Q E s := by
  have hfit : sizeOk (.seq items.toList.reverse.toArray) := by
    show items.toList.reverse.toArray.size ≤ sizeLine
    rw [List.size_toArray, List.length_reverse, Array.length_toList]
    exact hsz
  obtain ⟨os, hos, hcs, hds⟩ := id hs
  have hTs : s.TypeIs (.ref sl) "slice" := ⟨os, hos, hcs⟩
  have ht' : IsTup s.heap t items := ht
  unfold getItem
  try with_reducible refine wpAny_holding ?_
  first | refine wpAny_bind (wpAny_pure ?_) | skip
  refine wpAny_bind (wpAny_sequenceKey ht'.typeIs (by decide) ?_)
  refine wpAny_bind (wpAny_callSpecial?_slot (name := Str.ofString "__getitem__") ht'.typeIs PyProof.Rows.slot_tuple_getitem
    (wpAny_call_entry PyProof.Rows.slot_tuple_getitem ht'.typeIs entry_tuple_getitem ?_ (args_tuple_getitem _ _)))
  show wpAny _ _ (Builtin.Tuple.tupleItemsOf (.ref t) >>= _) _ _ s
  refine wpAny_bind (tupleItemsOf_ ht' ?_)
  refine wpAny_bind (wpAny_typeOf hTs ?_)
  rw [if_pos (by decide)]
  have ap : ∀ {Q' : Int × Int × Nat → Shared → Prop}, Q' ((items.size : Int) - 1, -1, items.size) s → wpAny (model prog w) A.in1 (Builtin.Slice.sliceApplied (.ref sl) (pure (items.size : Int))) Q' E s := fun {Q'} q => by
    unfold Builtin.Slice.sliceApplied Builtin.Slice.sliceFields
    refine wpAny_bind (wpAny_bind (wpAny_field hos hds (x := vl) rfl (wpAny_bind (wpAny_field hos hds (x := vu) rfl (wpAny_bind (wpAny_field hos hds (x := vs) rfl (wpAny_pure ?_)))))))
    refine wpAny_bind (HT.slicePart_ ps ?_)
    show wpAny _ _ (if ((-1 : Int) == 0) = true then _ else _) _ _ s
    rw [if_neg (by decide)]
    refine wpAny_bind (HT.slicePart_ pl (wpAny_bind (HT.slicePart_ pu (wpAny_bind (wpAny_pure ?_)))))
    show wpAny _ _ (pure ((items.size : Int) - 1, (-1 : Int), Builtin.Slice.slicePlaces ((items.size : Int) - 1) (-1) (-1))) _ _ s
    rw [back_places]
    exact wpAny_pure q
  refine wpAny_bind (ap ?_)
  show wpAny _ _ (if (((items.size : Int) - 1) == 0 && (-1 : Int) == 1 && items.size == items.size) = true then _ else _) _ _ s
  rw [if_neg (by simp), back_pick]
  first
    | exact wpAny_bind (m := Builtin.Tuple.tupleExact _) (wpAny_newObj_type (wpAny_pure ⟨_, rfl, wpAny_pure h⟩) hfit)
    | exact wpAny_bind (m := Builtin.Tuple.tupleExact _) (wpAny_newObj_type (wpAny_bind (wpAny_pure (wpAny_pure ⟨_, rfl, wpAny_pure h⟩))) hfit)
    | exact wpAny_bind (wpAny_bind (m := Builtin.Tuple.tupleExact _) (wpAny_newObj_type (wpAny_pure (wpAny_pure ⟨_, rfl, wpAny_pure h⟩)) hfit))
    | exact wpAny_bind (wpAny_bind (m := Builtin.Tuple.tupleExact _) (wpAny_newObj_type (wpAny_pure ⟨_, rfl, wpAny_pure h⟩) hfit))
end
def tRevA (K : PySem.W.Frag) (te : TE) : TE := fun σ H Q => te σ H fun x H1 => ∃ a xs, x = .ref a ∧ ((SqL K H1 a xs ∧ ∀ p, H1 p = none → Q (.ref p) (upd H1 p (.lst xs.reverse))) ∨ (SqT K H1 a xs ∧ ∀ p, H1 p = none → Q (.ref p) (upd H1 p (.tup xs.reverse))))
section
variable {X : Cx} {fa : Nat → V} {T : TZ} {W : WX} {g : Gp}
theorem pe_revA {e : Expr} {te : TE} {k : Nat} {p1 p2 p3 pos : Pos} (he : PE X e te) : PE X (.Subscript e (.Slice none none (some (.UnaryOp .USub (.Constant (.int 1) k p1) p2)) p3) pos) (tRevA X.K te) := by
  refine ⟨fun pins s σ H Q I h => ?_⟩
  refine Subscript_ (thn (he.run pins s σ H _ I h) fun v s1 ⟨x, H1, I1, r1, q1⟩ => ?_)
  obtain ⟨a, xs, ex, hx⟩ := q1
  subst ex
  cases r1
  have hst : PO X (some (.UnaryOp .USub (.Constant (.int 1) k p1) p2)) (tPart (tUn (rU fun i => .int (-i)) (tC (.int 1)))) := po_some (pe_un un_neg pe_int)
  refine wpAny_Slice (thn (po_none.run pins s1 σ H1 (fun o H2 => o = none ∧ H2 = H1) I1 ⟨rfl, rfl⟩) fun vl s2 ⟨l, H2, I2, pl, el, e2⟩ => ?_)
  subst el e2
  refine thn (po_none.run pins s2 σ H2 (fun o H3 => o = none ∧ H3 = H2) I2 ⟨rfl, rfl⟩) fun vu s3 ⟨u, H3, I3, pu, eu, e3⟩ => ?_
  subst eu e3
  refine thn (hst.run pins s3 σ H3 (fun o H4 => o = some (-1) ∧ H4 = H3) I3 ⟨1, rfl, -1, rfl, rfl, rfl⟩) fun vs s4 ⟨o, H4, I4, ps, eo, e4⟩ => ?_
  subst eo e4
  have I5 : Inv X pins σ H4 { s4 with heap := s4.heap.push { cls := .type "slice", data := .fields #[vl, vu, vs] } } := I4.kept (t' := s4.toks) fun b ob q => Heap.get?_push_of_some _ q
  rcases hx with ⟨hx, q⟩ | ⟨hx, q⟩
  · obtain ⟨its, r, ht, hz⟩ := I5.list hx
    have hlen := r.length
    show wpAny (model X.prog X.w) X.A (subscriptTail e (.Slice none none (some (.UnaryOp .USub (.Constant (.int 1) k p1) p2)) p3) (.ref a) (.ref s4.heap.objs.size)) (EP X pins σ Q) X.xe { s4 with heap := s4.heap.push { cls := .type "slice", data := .fields #[vl, vu, vs] } }
    refine tail_any (ops := [.ref a, .ref s4.heap.objs.size]) ht.isList.typeIs (PySem.slot_list_getitem.lookup) ?_ (by with_unfolding_all rfl)
    refine wpAny_getItem_list_slice ht.isList (Heap.IsSliceOf.new _ vl vu vs) pl pu ps (by decide) ?_ (by rw [List.size_toArray]; omega)
    rw [PySem.W.krv_pick]
    refine ⟨.ref _, _, I5.laid (t' := s4.toks) (o := .lst xs.reverse) (fun b ob q => Heap.get?_push_of_some _ q) (Nat.le_refl _) ?_, rfl, q _ (I5.hok.fresh (Nat.le_refl _))⟩
    exact ⟨by rw [List.length_reverse]; exact hz, _, 0, r.reverse, Heap.get?_push_size _ rfl⟩
  · obtain ⟨its, r, ht, hz⟩ := I5.tuple hx
    have hlen := r.length
    show wpAny (model X.prog X.w) X.A (subscriptTail e (.Slice none none (some (.UnaryOp .USub (.Constant (.int 1) k p1) p2)) p3) (.ref a) (.ref s4.heap.objs.size)) (EP X pins σ Q) X.xe { s4 with heap := s4.heap.push { cls := .type "slice", data := .fields #[vl, vu, vs] } }
    refine tail_any (ops := [.ref a, .ref s4.heap.objs.size]) ht.typeIs (PyProof.Rows.slot_tuple_getitem.lookup) ?_ (by with_unfolding_all rfl)
    refine back_tuple ht (Heap.IsSliceOf.new _ vl vu vs) pl pu ps ?_ (by rw [List.size_toArray]; omega)
    refine ⟨.ref _, _, I5.laid (t' := s4.toks) (o := .tup xs.reverse) (fun b ob q => Heap.get?_push_of_some _ q) (Nat.le_refl _) ?_, rfl, q _ (I5.hok.fresh (Nat.le_refl _))⟩
    exact ⟨by rw [List.length_reverse]; exact hz, _, r.reverse, IsTup.new _ _⟩
/-- e[::-1], of data -/
theorem dp_rev {e : Expr} {de : DE} {k : Nat} {p1 p2 p3 pos : Pos} (he : CE' X fa T W e de) : CE' X fa T W (.Subscript e (.Slice none none (some (.UnaryOp .USub (.Constant (.int 1) k p1) p2)) p3) pos) (dUn revP de) :=
  mkE (pe_revA he) fun ρ μ m F σ H Q o r h => useE o r h fun u μ1 v F1 H1 m1 e1 o1 r1 q1 p1 => by
    cases ea : peek μ1 u with
    | none =>
      simp only [ea] at p1
      exact p1.elim
    | some x =>
      simp only [ea] at p1
      have vw := vw_of o1 q1 ea
      cases x with
      | list xs =>
        obtain ⟨a, ws, eq, ha, ra⟩ := vw.lst o1.ex
        refine ⟨a, ws, eq, .inl ⟨ha, fun p hp => ?_⟩⟩
        obtain ⟨o2, e2⟩ := o1.froz (u := .lst ws.reverse) hp (fun _ z => by cases z)
        exact p1 _ _ _ _ e2 o2 (.d (.lst (sq_of upd_same) (DqAll.mo e2.ef _ _ ra.rev)))
      | tuple xs =>
        obtain ⟨a, ws, eq, ha, ra⟩ := vw.tup
        refine ⟨a, ws, eq, .inr ⟨ex_t o1.ex ha, fun p hp => ?_⟩⟩
        obtain ⟨o2, e2⟩ := o1.froz (u := .tup ws.reverse) hp (fun _ z => by cases z)
        exact p1 _ _ _ _ e2 o2 (.d (.tup (st_of upd_same) (DqAll.mo e2.ef _ _ ra.rev)))
      | _ => exact p1.elim
end
/-! ### comprehensions of two clauses -/
def few : Nat := 1000
/-- the inner walk's items, then the others' -/
def lcD2 (gd : U → Env' → Option Env') (tt : DT) (di1 : DI) (gd1 : U → Env' → Option Env') (tt1 : DT) (te : DE) (vs1 : List Nat) (ρ : Env') : List U → M (List U)
  | [] => pur []
  | u :: us => match gd u ρ with
    | none => stk
    | some ρ1 => bnd (noErr (tt ρ1)) fun b => if b = true then bnd (noErr (di1 ρ1)) fun us1 => if us1.length ≤ few then
        bnd (lcD gd1 tt1 te (wipeE ρ1 vs1) us1) fun ys => bnd (lcD2 gd tt di1 gd1 tt1 te vs1 ρ us) fun zs => pur (ys ++ zs) else stk
      else lcD2 gd tt di1 gd1 tt1 te vs1 ρ us
def dLc2 (di : DI) (dg : DG) (tt : DT) (di1 : DI) (dg1 : DG) (tt1 : DT) (te : DE) (vs vs1 : List Nat) : DE := fun ρ => bnd (di ρ) fun us => if us.length ≤ few then bnd (lcD2 dg.f tt di1 dg1.f tt1 te vs1 (wipeE ρ vs) us) fun ys => pur (lstU ys) else stk
section
variable {X : Cx} {fa : Nat → V} {T : TZ} {W : WX} {g : Gp}
theorem wipe_off {j : Nat} : ∀ (τ : L2.St) (ws : List Nat), j ∉ ws → (L2.wipe τ ws)[j]? = τ[j]?
  | _, [], _ => rfl
  | τ, w :: ws, hw => by
    show ((L2.wipe τ ws).set w none)[j]? = _
    rw [List.getElem?_set_ne (fun z => hw (by rw [z]; exact List.mem_cons_self))]
    exact wipe_off τ ws fun z => hw (List.mem_cons_of_mem _ z)
theorem wipe_turn {σ σ2 : L2.St} {vs ix : List Nat} (hv : ∀ j ∈ ix, j ∈ vs) (hl : σ2.length = σ.length) (same : ∀ j, j ∉ ix → σ2[j]? = (L2.wipe σ vs)[j]?) : L2.wipe σ2 vs = L2.wipe σ vs := by
  have z := wipe_same (σ := wipe σ vs) (σ' := σ2) (vs := vs) (ix := []) (by rw [hl, wipe_length]) fun j hj => by
    rw [same j fun q => hj (hv j q), wipe_off (wipe σ vs) vs hj]
  rw [z]
  exact wipe_same (ix := []) (wipe_length _ _) fun j hj => rfl
theorem post_bnd2 {α β γ δ : Type} {R : Hp → List Addr → β → α → Prop} {R' : Hp → List Addr → δ → γ → Prop} {x : M α} {f : α → M γ} {μ : List MO} {F H : Hp} {m : List Addr} {Q : δ → Hp → Prop} {W' W2 : Value → Option Addr → Hp → Prop} {F3 H3 : Hp} {m3 : List Addr} {Q' : β → Hp → Prop}
    (h : Post g R' (bnd (noErr x) f μ) F H m Q W') (k : ∀ a μ4 b F4 H4 m4, Gr F3 H3 m3 F4 H4 m4 → Ok g F4 μ4 m4 H4 → R F4 m4 b a → Post g R' (f a μ4) F H m Q W' → Q' b H4) : Post g R (x μ) F3 H3 m3 Q' W2 := post_at h k
theorem lc2_sim {di di1 : DI} {dg dg1 : DG} {tt tt1 : DT} {te : DE} {vs vs1 : List Nat} (hv : ∀ j ∈ dg.ix, j ∈ vs) (hv1 : ∀ j ∈ dg1.ix, j ∈ vs1) :
    SimE g W (tLc2 (canI g W di) (canG g dg) (canT g Wno tt) (canI g Wno di1) (canG g dg1) (canT g Wno tt1) (canE g Wno te) vs vs1) (dLc2 di dg tt di1 dg1 tt1 te vs vs1) := fun ρ μ m F σ H Q o r h => by
  refine ⟨ρ, μ, m, F, o, r, post_bnd h fun us μ1 J F1 H1 m1 _ e1 o1 it p1 D hD => ?_⟩
  have r1 := r.gr e1
  by_cases hbig : us.length ≤ few
  · rw [if_pos hbig] at p1
    obtain ⟨oS, gS, fD, mD⟩ := o1.spare (u := .lst []) hD
    refine ⟨fun i k H' => ∃ μ' m' F' acc done, k = us.length - i ∧ i ≤ us.length ∧ Ok g F' μ' m' H' ∧ Gr F1 H1 m1 F' H' m' ∧ H' D = some (.lst acc) ∧ F' D = none ∧ D ∉ m' ∧ RpAll g F' m' acc done ∧ done.length ≤ i * few ∧
      Post g (RU g) (bnd (lcD2 dg.f tt di1 dg1.f tt1 te vs1 (wipeE ρ vs) (us.drop i)) (fun ys => pur (lstU (done ++ ys))) μ') F1 H1 m1 Q (fun c d H' => W c d σ H'),
      ⟨us.length, μ1, m1, F1, [], [], rfl, Nat.zero_le _, oS, gS, upd_same, fD, mD, .nil, Nat.zero_le _, p1⟩, ?_⟩
    rintro i k H' ⟨μ', m', F', acc, done, rfl, hi, o', g', hD', fD', mD', ra, hdl, p⟩
    by_cases hlt : i < us.length
    · have hlen : ∀ n, n ≤ i * few + few → n ≤ (i + 1) * few := fun n hn => by rw [Nat.add_mul, Nat.one_mul]; exact hn
      have hbound : ∀ n, n < i * few + few → n < sizeLine := fun n hn => by
        have h1 : i * few + few ≤ few * few := by
          rw [← Nat.succ_mul]
          exact Nat.mul_le_mul (Nat.le_trans hlt hbig) (Nat.le_refl _)
        exact big_lt (Nat.lt_of_lt_of_le hn h1)
      refine .inr ⟨it.go i F' H' μ' m' g'.ef g'.pm o' hlt, fun H2 => ∃ μ2 m2 F2 acc2 done2, Ok g F2 μ2 m2 H2 ∧ Gr F1 H1 m1 F2 H2 m2 ∧ H2 D = some (.lst acc2) ∧ F2 D = none ∧ D ∉ m2 ∧ RpAll g F2 m2 acc2 done2 ∧ done2.length ≤ (i + 1) * few ∧
        Post g (RU g) (bnd (lcD2 dg.f tt di1 dg1.f tt1 te vs1 (wipeE ρ vs) (us.drop (i + 1))) (fun ys => pur (lstU (done2 ++ ys))) μ2) F1 H1 m1 Q (fun c d H' => W c d σ H'),
        fun H2 ⟨μ2, m2, F2, acc2, done2, a1, a2, a3, a4, a5, a6, a7, a8⟩ => ⟨us.length - (i + 1), by omega, μ2, m2, F2, acc2, done2, rfl, hlt, a1, a2, a3, a4, a5, a6, a7, a8⟩, fun x H2 y => ?_⟩
      obtain ⟨F2, g2, o2, q2⟩ := it.yld i _ x F' H' H2 μ' m' g'.ef g'.pm o' (List.getElem?_eq_getElem hlt) y
      obtain ⟨hD2, fD2, mD2⟩ := g2.un D _ fD' mD' hD' (fun _ z => by cases z)
      rw [List.drop_eq_getElem_cons hlt] at p
      have r2 : EnvR g F2 m' (wipe σ vs) (wipeE ρ vs) := ((r1.gr g').gr g2).wipe vs
      cases eg : dg.f us[i] (wipeE ρ vs) with
      | none =>
        unfold lcD2 at p
        simp only [eg] at p
        exact p.elim
      | some ρ1 =>
        unfold lcD2 at p
        simp only [eg, bnd_bnd] at p
        refine ⟨F2, μ', m', us[i], wipeE ρ vs, ρ1, o2, r2, q2, eg, fun σ2 rr2 same => ⟨?_, ρ1, μ', m', F2, o2, rr2, post_at p fun b μ3 b' F3 H3 m3 g3 o3 rb p3 => ?_⟩⟩
        · exact wipe_turn hv (by rw [rr2.1, dg.len _ _ _ eg, wipeE_length, r1.1]) same
        · have rb : b' = b := rb
          subst rb
          obtain ⟨hD3, fD3, mD3⟩ := g3.un D _ fD2 mD2 hD2 (fun _ z => by cases z)
          cases b' with
          | false =>
            simp only [Bool.false_eq_true, if_false] at p3 ⊢
            exact ⟨μ3, m3, F3, acc, done, o3, (g'.trans g2).trans g3, hD3, fD3, mD3, (ra.gr g2).gr g3, hlen _ (by omega), p3⟩
          | true =>
            simp only [if_true, bnd_bnd] at p3 ⊢
            refine ⟨ρ1, μ3, m3, F3, o3, rr2.gr g3, post_at p3 fun us1 μ4 J1 F4 H4 m4 g4 o4 it1 p4 => ?_⟩
            obtain ⟨hD4, fD4, mD4⟩ := g4.un D _ fD3 mD3 hD3 (fun _ z => by cases z)
            have ra4 : RpAll g F4 m4 acc done := ((ra.gr g2).gr g3).gr g4
            have rr4 : EnvR g F4 m4 σ2 ρ1 := (rr2.gr g3).gr g4
            have g04 : Gr F1 H1 m1 F4 H4 m4 := ((g'.trans g2).trans g3).trans g4
            by_cases hf1 : us1.length ≤ few
            · simp only [hf1, if_true, bnd_bnd] at p4
              refine ⟨fun j k H5 => ∃ μ5 m5 F5 acc5 done5, k = us1.length - j ∧ j ≤ us1.length ∧ Ok g F5 μ5 m5 H5 ∧ Gr F1 H1 m1 F5 H5 m5 ∧ Ex F4 F5 ∧ m4 <+: m5 ∧ H5 D = some (.lst acc5) ∧ F5 D = none ∧ D ∉ m5 ∧ RpAll g F5 m5 acc5 done5 ∧ done5.length ≤ i * few + j ∧
                Post g (RU g) (bnd (lcD dg1.f tt1 te (wipeE ρ1 vs1) (us1.drop j)) (fun ys => bnd (lcD2 dg.f tt di1 dg1.f tt1 te vs1 (wipeE ρ vs) (us.drop (i + 1))) fun zs => pur (lstU (done5 ++ (ys ++ zs)))) μ5) F1 H1 m1 Q (fun c d H' => W c d σ H'),
                ⟨us1.length, μ4, m4, F4, acc, done, rfl, Nat.zero_le _, o4, g04, Ex.refl F4, List.prefix_rfl, hD4, fD4, mD4, ra4, by omega, p4⟩, ?_⟩
              rintro j k H5 ⟨μ5, m5, F5, acc5, done5, rfl, hj, o5, g5, x5, px5, hD5, fD5, mD5, ra5, hdl5, p5⟩
              by_cases hlt1 : j < us1.length
              · refine .inr ⟨it1.go j F5 H5 μ5 m5 x5 px5 o5 hlt1, fun H6 => ∃ μ6 m6 F6 acc6 done6, Ok g F6 μ6 m6 H6 ∧ Gr F1 H1 m1 F6 H6 m6 ∧ Ex F4 F6 ∧ m4 <+: m6 ∧ H6 D = some (.lst acc6) ∧ F6 D = none ∧ D ∉ m6 ∧ RpAll g F6 m6 acc6 done6 ∧ done6.length ≤ i * few + (j + 1) ∧
                  Post g (RU g) (bnd (lcD dg1.f tt1 te (wipeE ρ1 vs1) (us1.drop (j + 1))) (fun ys => bnd (lcD2 dg.f tt di1 dg1.f tt1 te vs1 (wipeE ρ vs) (us.drop (i + 1))) fun zs => pur (lstU (done6 ++ (ys ++ zs)))) μ6) F1 H1 m1 Q (fun c d H' => W c d σ H'),
                  fun H6 ⟨μ6, m6, F6, acc6, done6, a1, a2, a3, a4, a5, a6, a7, a8, a9, a10⟩ => ⟨us1.length - (j + 1), by omega, μ6, m6, F6, acc6, done6, rfl, hlt1, a1, a2, a3, a4, a5, a6, a7, a8, a9, a10⟩, fun x6 H6 y6 => ?_⟩
                obtain ⟨F6, g6, o6, q6⟩ := it1.yld j _ x6 F5 H5 H6 μ5 m5 x5 px5 o5 (List.getElem?_eq_getElem hlt1) y6
                obtain ⟨hD6, fD6, mD6⟩ := g6.un D _ fD5 mD5 hD5 (fun _ z => by cases z)
                rw [List.drop_eq_getElem_cons hlt1] at p5
                have r6 : EnvR g F6 m5 (wipe σ2 vs1) (wipeE ρ1 vs1) := ((rr4.mo x5 px5).gr g6).wipe vs1
                cases eg1 : dg1.f us1[j] (wipeE ρ1 vs1) with
                | none =>
                  unfold lcD at p5
                  simp only [eg1] at p5
                  exact p5.elim
                | some ρ6 =>
                  unfold lcD at p5
                  simp only [eg1, bnd_bnd] at p5
                  refine ⟨F6, μ5, m5, us1[j], wipeE ρ1 vs1, ρ6, o6, r6, q6, eg1, fun σ6 rr6 same6 => ⟨?_, ρ6, μ5, m5, F6, o6, rr6, post_at p5 fun b7 μ7 b7' F7 H7 m7 g7 o7 rb7 p7 => ?_⟩⟩
                  · exact wipe_turn hv1 (by rw [rr6.1, dg1.len _ _ _ eg1, wipeE_length, rr4.1]) same6
                  · have rb7 : b7' = b7 := rb7
                    subst rb7
                    obtain ⟨hD7, fD7, mD7⟩ := g7.un D _ fD6 mD6 hD6 (fun _ z => by cases z)
                    cases b7' with
                    | false =>
                      simp only [Bool.false_eq_true, if_false] at p7 ⊢
                      exact ⟨μ7, m7, F7, acc5, done5, o7, (g5.trans g6).trans g7, (x5.trans g6.ef).trans g7.ef, (px5.trans g6.pm).trans g7.pm, hD7, fD7, mD7, (ra5.gr g6).gr g7, by omega, p7⟩
                    | true =>
                      simp only [if_true, bnd_bnd] at p7 ⊢
                      refine ⟨ρ6, μ7, m7, F7, o7, rr6.gr g7, post_at p7 fun y8 μ8 y8' F8 H8 m8 g8 o8 ry8 p8 => ?_⟩
                      obtain ⟨hD8, fD8, mD8⟩ := g8.un D _ fD7 mD7 hD7 (fun _ z => by cases z)
                      have ra8 : RpAll g F8 m8 acc5 done5 := ((ra5.gr g6).gr g7).gr g8
                      exact ⟨acc5, hD8, by rw [ra8.len]; exact hbound _ (by omega), μ8, m8, F8, acc5 ++ [y8'], done5 ++ [y8], o8.other hD8 trivial fD8 mD8, (((g5.trans g6).trans g7).trans g8).spare hD, ((x5.trans g6.ef).trans g7.ef).trans g8.ef, ((px5.trans g6.pm).trans g7.pm).trans g8.pm, upd_same, fD8, mD8, ra8.app (.cons ry8 .nil), by rw [List.length_append, List.length_singleton]; omega, by
                        simpa [bnd_bnd, bnd_pur, List.append_assoc] using p8⟩
              · have e : j = us1.length := by omega
                subst e
                rw [List.drop_length] at p5
                refine .inl ⟨it1.stop _ F5 H5 μ5 m5 x5 px5 o5 (Nat.le_refl _), μ5, m5, F5, acc5, done5, o5, g5, hD5, fD5, mD5, ra5, hlen _ (by omega), ?_⟩
                simpa [lcD, bnd_bnd, bnd_pur] using p5
            · simp only [hf1, if_false] at p4
              exact p4.elim
    · have e : i = us.length := by omega
      subst e
      rw [List.drop_length] at p
      refine .inl ⟨it.stop _ F' H' μ' m' g'.ef g'.pm o' (Nat.le_refl _), ?_⟩
      have p : Post g (RU g) (Res.ok (lstU (done ++ [])) μ') F1 H1 m1 Q (fun c d H' => W c d σ H') := p
      rw [List.append_nil] at p
      have gf := g'.spareF (u := .lst acc) hD fD'
      exact p _ _ _ _ gf (o'.seal hD' (fun _ z => by cases z) fD' mD') (rp_lst upd_same (RpAll.mo (Ex.new fD') List.prefix_rfl _ _ ra))
  · rw [if_neg hbig] at p1
    exact p1.elim
/-- [elt for tg in iter if .. for tg1 in iter1 if ..] -/
theorem dp_lc2 {elt tg iter tg1 iter1 : Expr} {ifs ifs1 : List Expr} {scope : Scope} {own : List (Str × Nat)} {vs vs1 : List Nat} {pos : Pos} {di di1 : DI} {dg dg1 : DG} {tt tt1 : DT} {te : DE} (hc : X.calm = true) (hN : X.N.Nodup) (hi : CI' X fa T W tg iter di) (ok : BlkOk X.N X.env.scope scope own)
    (hg : ∀ (s : Shared) (H : Hp) (C : Addr) (cl : List (Str × Addr)) (fp : List Addr), CG' (X.blk s H scope (compEnvC scope cl C X.env) fp) fa T tg dg) (ht : ∀ (s : Shared) (H : Hp) (C : Addr) (cl : List (Str × Addr)) (fp : List Addr), CTs (X.blk s H scope (compEnvC scope cl C X.env) fp) fa T Wno ifs tt)
    (hi1 : ∀ (s : Shared) (H : Hp) (C : Addr) (cl : List (Str × Addr)) (fp : List Addr), CI' (X.blk s H scope (compEnvC scope cl C X.env) fp) fa T Wno tg1 iter1 di1)
    (hg1 : ∀ (s : Shared) (H : Hp) (C : Addr) (cl : List (Str × Addr)) (fp : List Addr), CG' (X.blk s H scope (compEnvC scope cl C X.env) fp) fa T tg1 dg1) (ht1 : ∀ (s : Shared) (H : Hp) (C : Addr) (cl : List (Str × Addr)) (fp : List Addr), CTs (X.blk s H scope (compEnvC scope cl C X.env) fp) fa T Wno ifs1 tt1)
    (he : ∀ (s : Shared) (H : Hp) (C : Addr) (cl : List (Str × Addr)) (fp : List Addr), CE' (X.blk s H scope (compEnvC scope cl C X.env) fp) fa T Wno elt te) (hv : ∀ j ∈ dg.ix, j ∈ vs := by decide) (hv1 : ∀ j ∈ dg1.ix, j ∈ vs1 := by decide) (hvs1 : ∀ j ∈ vs1, j ∈ vs := by decide) (hvs : own.map (·.2) = vs := by rfl)
    (hs : ∀ x, foldedSetIterable iter X.env x = pure x := by intro _; rfl) (hs1 : ∀ env x, foldedSetIterable iter1 env x = pure x := by intro _ _; rfl) :
    CE' X fa T W (.ListComp elt [⟨tg, iter, ifs, 0⟩, ⟨tg1, iter1, ifs1, 0⟩] scope pos) (dLc2 di dg tt di1 dg1 tt1 te vs vs1) := by
  subst hvs
  exact mkE (pe_lc2 hc hN hi ok hvs1 hg ht hi1 hg1 ht1 he hs hs1) (lc2_sim hv hv1)
end
end DL

/-! The data layer, part 15: rules by which a function is run on data that is not written. -/
namespace DL
open PySem
section
variable {α σ : Type} {ρ ρ' ρ1 ρ2 : Env'} {μ μ' μ1 μ2 μ3 : List MO} {i k n N : Nat} {x y z : PyData} {u v : U} {us vs : List U} {R : Res (Fl × Env')} {c : Bool} {RU' : Res U} {RB' : Res Bool}
theorem big5 {n : Nat} (h : n ≤ 1000) : n ≤ big := Nat.le_trans h (by decide)
theorem r_V (h : ρ[i]? = some (some u)) : dV i ρ μ = .ok u μ := by rw [e_dV, h]
theorem r_C : dC x ρ μ = .ok (.d x) μ := rfl
theorem r_F : dF n ρ μ = .ok (.fn n) μ := rfl
theorem r_op {f : PyData → PyData → Option PyData} {a b : DE} (ha : a ρ μ = .ok u μ1) (hb : b ρ μ1 = .ok v μ2) (pu : peek μ2 u = some x) (pv : peek μ2 v = some y) (hf : f x y = some z) : dOp f a b ρ μ = .ok (.d z) μ2 := by
  rw [e_dOp, ha]
  dsimp only
  rw [hb]
  dsimp only
  rw [pu, pv]
  dsimp only
  rw [hf]
theorem r_opD {f : PyData → PyData → Option PyData} {a b : DE} (ha : a ρ μ = .ok (.d x) μ1) (hb : b ρ μ1 = .ok (.d y) μ2) (hf : f x y = some z) : dOp f a b ρ μ = .ok (.d z) μ2 := r_op ha hb rfl rfl hf
theorem r_un {f : PyData → Option PyData} {a : DE} (ha : a ρ μ = .ok u μ1) (pu : peek μ1 u = some x) (hf : f x = some z) : dUn f a ρ μ = .ok (.d z) μ1 := by
  rw [e_dUn, ha]
  dsimp only
  rw [pu]
  dsimp only
  rw [hf]
theorem r_unD {f : PyData → Option PyData} {a : DE} (ha : a ρ μ = .ok (.d x) μ1) (hf : f x = some z) : dUn f a ρ μ = .ok (.d z) μ1 := r_un ha rfl hf
theorem r_nil : dNil ρ μ = .ok [] μ := rfl
theorem r_cons {a : DE} {r : DA} (ha : a ρ μ = .ok u μ1) (hr : r ρ μ1 = .ok us μ2) : dCons a r ρ μ = .ok (u :: us) μ2 := by
  rw [e_dCons, ha]
  dsimp only
  rw [hr]
theorem r_tup {a : DA} (ha : a ρ μ = .ok us μ1) (hl : us.length ≤ 1000) (hu : tupU us = u) : dTup a ρ μ = .ok u μ1 := by
  rw [e_dTup, ha]
  dsimp only
  rw [if_pos (big5 hl), hu]
theorem r_lst {a : DA} (ha : a ρ μ = .ok us μ1) (hl : us.length ≤ 1000) (hu : lstU us = u) : dLst a ρ μ = .ok u μ1 := by
  rw [e_dLst, ha]
  dsimp only
  rw [if_pos (big5 hl), hu]
theorem r_call {fn : List U → M U} {a : DA} {r : Res U} (ha : a ρ μ = .ok us μ1) (hl : us.length = n) (hf : fn us μ1 = r) : dCall n fn a ρ μ = r := by
  rw [e_dCall, ha]
  dsimp only
  rw [if_pos hl, hf]
theorem r_call0 {fn : List U → M U} (hf : fn [] μ = .ok u μ1) : dCall0 fn ρ μ = .ok u μ1 := by
  show noErr (fn []) μ = _
  unfold noErr
  rw [hf]
theorem r_callV {tb : Nat → Option (List U → M U)} {fn : List U → M U} {a : DA} {r : Res U} {j : Nat} (hj : ρ[i]? = some (some (.fn j))) (ht : tb j = some fn) (ha : a ρ μ = .ok us μ1) (hl : us.length = n) (hf : fn us μ1 = r) : dCallV i n tb a ρ μ = r := by
  unfold dCallV
  rw [hj]
  dsimp only
  rw [ht]
  exact r_call ha hl hf
theorem r_test {a : DE} (ha : a ρ μ = .ok (.d (.bool c)) μ1) : dTest a ρ μ = .ok c μ1 := by rw [e_dTest, ha]
theorem r_and {a b : DT} (ha : a ρ μ = .ok c μ1) (h : (if c = true then b ρ μ1 else .ok false μ1) = RB') : dAnd a b ρ μ = RB' := by
  rw [e_dAnd, ha]
  exact h
theorem r_or {a b : DT} (ha : a ρ μ = .ok c μ1) (h : (if c = true then .ok true μ1 else b ρ μ1) = RB') : dOr a b ρ μ = RB' := by
  rw [e_dOr, ha]
  exact h
theorem r_not {a : DT} (ha : a ρ μ = .ok c μ1) : dNot a ρ μ = .ok (!c) μ1 := by rw [e_dNot, ha]
theorem r_andV {a b : DE} (ha : a ρ μ = .ok (.d (.bool c)) μ1) (h : (if c = true then b ρ μ1 else .ok (.d (.bool false)) μ1) = RU') : dAndV a b ρ μ = RU' := by
  rw [e_dAndV, ha]
  exact h
theorem r_orV {a b : DE} (ha : a ρ μ = .ok (.d (.bool c)) μ1) (h : (if c = true then .ok (.d (.bool true)) μ1 else b ρ μ1) = RU') : dOrV a b ρ μ = RU' := by
  rw [e_dOrV, ha]
  exact h
theorem r_notV {a : DE} (ha : a ρ μ = .ok (.d (.bool c)) μ1) : dNotV a ρ μ = .ok (.d (.bool (!c))) μ1 := by rw [e_dNotV, ha]
theorem r_if {t : DT} {a b : DE} (ha : t ρ μ = .ok c μ1) (h : (if c = true then a ρ μ1 else b ρ μ1) = RU') : dIf t a b ρ μ = RU' := by
  rw [e_dIf, ha]
  exact h
theorem r_isa {f : PyData → Bool} {a : DE} (ha : a ρ μ = .ok u μ1) (pu : peek μ1 u = some x) (hf : f x = c) : dIsa f a ρ μ = .ok (.d (.bool c)) μ1 := by
  rw [e_dIsa, ha]
  dsimp only
  rw [pu]
  dsimp only
  rw [hf]
theorem r_chain {f f' : PyData → PyData → Option PyData} {a b d : DE} {w : PyData} (ha : a ρ μ = .ok (.d x) μ1) (hb : b ρ μ1 = .ok (.d y) μ2) (hf : f x y = some (.bool c))
    (h : (if c = true then (match d ρ μ2 with
      | .ok w μ4 => opU f' (.d y) w μ4
      | .err e μ4 => .err e μ4
      | .stuck => .stuck) else .ok (.d (.bool false)) μ2) = RU') : dChain f f' a b d ρ μ = RU' := by
  rw [e_dChain, ha]
  dsimp only
  rw [hb]
  dsimp only
  rw [e_opU]
  dsimp only [e_peek_d]
  rw [hf]
  dsimp only
  rw [← h]
  cases c with
  | true => dsimp only; rw [if_pos rfl]; first | done | (cases d ρ μ2 <;> rfl)
  | false => rfl
/-- a < b < d of data that is at hand, with its answers -/
theorem r_chain2 {f f' : PyData → PyData → Option PyData} {a b d : DE} {w : PyData} {c' : Bool} (ha : a ρ μ = .ok (.d x) μ1) (hb : b ρ μ1 = .ok (.d y) μ2) (hd : d ρ μ2 = .ok (.d w) μ2) (hf : f x y = some (.bool c)) (hf' : f' y w = some (.bool c')) : dChain f f' a b d ρ μ = .ok (.d (.bool (c && c'))) μ2 := by
  refine r_chain (w := w) ha hb hf ?_
  cases c with
  | true =>
    rw [if_pos rfl, hd, Bool.true_and]
    dsimp only
    rw [e_opU]
    dsimp only [e_peek_d]
    rw [hf']
  | false => rfl
theorem r_no : dNo ρ μ = .ok none μ := rfl
theorem r_part {a : DE} {j : Int} (ha : a ρ μ = .ok (.d (.int j)) μ1) : dPart a ρ μ = .ok (some j) μ1 := by rw [e_dPart, ha]
theorem r_sl {a : DE} {l h : DO} {lo hi : Option Int} (ha : a ρ μ = .ok u μ1) (hl : l ρ μ1 = .ok lo μ2) (hh : h ρ μ2 = .ok hi μ3) (pu : peek μ3 u = some x) (hf : slP x lo hi = some z) : dSl a l h ρ μ = .ok (.d z) μ3 := by
  rw [e_dSl, ha]
  dsimp only
  rw [hl]
  dsimp only
  rw [hh]
  dsimp only
  rw [pu]
  dsimp only
  rw [hf]
/-! ### walks -/
theorem r_sq {a : DE} (ha : a ρ μ = .ok u μ1) (hu : seqU u = some us) : dSq a ρ μ = .ok us μ1 := by
  rw [e_dSq, ha]
  dsimp only
  rw [hu]
  rfl
theorem r_zip {a : DA} (ha : a ρ μ = .ok vs μ1) (hu : zipU vs = some us) : dZip a ρ μ = .ok us μ1 := by
  rw [e_dZip, ha]
  dsimp only
  rw [hu]
  rfl
theorem rngU_0 (n : Nat) : rngU 0 n = (List.range n).map fun (i : Nat) => U.d (.int (i : Int)) := by
  unfold rngU
  refine List.map_congr_left fun i _ => ?_
  rw [Int.zero_add]
theorem r_r1 {a : DA} {j : Int} (ha : a ρ μ = .ok [.d (.int j)] μ1) (hj : j < 2 ^ 62) (h0 : 0 ≤ j) : dR1 a ρ μ = .ok ((List.range j.toNat).map fun (i : Nat) => U.d (.int (i : Int))) μ1 := by
  rw [e_dR1, ha]
  show ofO (if -(2 ^ 62) ≤ j ∧ j < 2 ^ 62 then some (rngU 0 j.toNat) else none) μ1 = _
  rw [if_pos ⟨by omega, hj⟩, rngU_0]
  rfl
theorem r_r2 {a : DA} {j j' : Int} (ha : a ρ μ = .ok [.d (.int j), .d (.int j')] μ1) (hj : -(2 ^ 62) ≤ j ∧ j < 2 ^ 62 ∧ -(2 ^ 62) ≤ j' ∧ j' < 2 ^ 62) : dR2 a ρ μ = .ok (rngU j (j' - j).toNat) μ1 := by
  rw [e_dR2, ha]
  show ofO (if -(2 ^ 62) ≤ j ∧ j < 2 ^ 62 ∧ -(2 ^ 62) ≤ j' ∧ j' < 2 ^ 62 then some (rngU j (j' - j).toNat) else none) μ1 = _
  rw [if_pos hj]
  rfl
theorem rngU_map (lo : Int) (n : Nat) : rngU lo n = (List.range n).map fun (i : Nat) => U.d (.int (lo + (i : Int))) := rfl
theorem seq_map {h : α → PyData} {xs : List α} : seqU (.d (.list (xs.map h))) = some (xs.map fun x => .d (h x)) := by
  show some ((xs.map h).map U.d) = _
  rw [List.map_map] <;> rfl
theorem seq_mapT {h : α → PyData} {xs : List α} : seqU (.d (.tuple (xs.map h))) = some (xs.map fun x => .d (h x)) := by
  show some ((xs.map h).map U.d) = _
  rw [List.map_map] <;> rfl
theorem zip_mapP {β : Type} (f : α → PyData) (f' : β → PyData) : ∀ (xs : List α) (ys : List β), zipD (xs.map f) (ys.map f') = (xs.zip ys).map fun p => .d (.tuple [f p.1, f' p.2])
  | [], _ => rfl
  | _ :: _, [] => rfl
  | x :: xs, y :: ys => by
    have := zip_mapP f f' xs ys
    unfold zipD at this ⊢
    simp only [List.map_cons, List.zip_cons_cons]
    rw [this]
/-! ### comprehensions -/
theorem r_el {tt : DT} {te : DE} {gd : U → Env' → Option Env'} {p : α → Bool} {h : α → PyData} {x : α} (h1 : gd u ρ = some ρ1) (h2 : tt ρ1 μ = .ok (p x) μ) (h3 : p x = true → te ρ1 μ = .ok (.d (h x)) μ) :
    ∃ ρ1, gd u ρ = some ρ1 ∧ tt ρ1 μ = .ok (p x) μ ∧ (p x = true → te ρ1 μ = .ok (.d (h x)) μ) := ⟨_, h1, h2, h3⟩
theorem r_elA {te : DE} {gd : U → Env' → Option Env'} {h : α → PyData} {x : α} (h1 : gd u ρ = some ρ1) (h3 : te ρ1 μ = .ok (.d (h x)) μ) : ∃ ρ1, gd u ρ = some ρ1 ∧ te ρ1 μ = .ok (.d (h x)) μ := ⟨_, h1, h3⟩
theorem r_lc {di : DI} {dg : DG} {tt : DT} {te : DE} {vs : List Nat} {xs : List α} {g : α → U} {p : α → Bool} {h : α → PyData} (hd : di ρ μ = .ok (xs.map g) μ) (hl : xs.length ≤ 1000)
    (H : ∀ x ∈ xs, ∃ ρ1, dg.f (g x) (wipeE ρ vs) = some ρ1 ∧ tt ρ1 μ = .ok (p x) μ ∧ (p x = true → te ρ1 μ = .ok (.d (h x)) μ)) : dLc di dg tt te vs ρ μ = .ok (.d (.list ((xs.filter p).map h))) μ := lc_data xs g p h hd (big5 hl) H
theorem r_lcA {di : DI} {dg : DG} {te : DE} {vs : List Nat} {xs : List α} {g : α → U} {h : α → PyData} (hd : di ρ μ = .ok (xs.map g) μ) (hl : xs.length ≤ 1000)
    (H : ∀ x ∈ xs, ∃ ρ1, dg.f (g x) (wipeE ρ vs) = some ρ1 ∧ te ρ1 μ = .ok (.d (h x)) μ) : dLc di dg dYes te vs ρ μ = .ok (.d (.list (xs.map h))) μ := lc_all xs g h hd (big5 hl) H
/-- .. of two clauses, without tests -/
theorem lcD_all {gd : U → Env' → Option Env'} {te : DE} {xs : List α} {g : α → U} {h : α → PyData} (H : ∀ x ∈ xs, ∃ ρ1, gd (g x) ρ = some ρ1 ∧ te ρ1 μ = .ok (.d (h x)) μ) : lcD gd dYes te ρ (xs.map g) μ = .ok ((xs.map h).map .d) μ := by
  induction xs with
  | nil => rfl
  | cons x xs ih =>
    obtain ⟨ρ1, h1, h2⟩ := H x List.mem_cons_self
    rw [List.map_cons, lcD, h1]
    show bnd (noErr (dYes ρ1)) _ μ = _
    rw [e_bnd]
    show (if true = true then bnd (noErr (te ρ1)) fun y => bnd (lcD gd dYes te ρ (xs.map g)) fun ys => pur (y :: ys) else lcD gd dYes te ρ (xs.map g)) μ = _
    rw [if_pos rfl, e_bnd]
    unfold noErr
    rw [h2]
    dsimp only
    rw [e_bnd, ih fun y hy => H y (List.mem_cons_of_mem _ hy)]
    rfl
theorem r_el2 {β : Type} {di1 : DI} {dg1 : DG} {te : DE} {gd : U → Env' → Option Env'} {vs1 : List Nat} {yl : List β} {g1 : β → U} {h : β → PyData} (h1 : gd u ρ = some ρ1) (h2 : di1 ρ1 μ = .ok (yl.map g1) μ) (h3 : yl.length ≤ 1000) (h4 : ∀ y ∈ yl, ∃ ρ2, dg1.f (g1 y) (wipeE ρ1 vs1) = some ρ2 ∧ te ρ2 μ = .ok (.d (h y)) μ) :
    ∃ ρ1, gd u ρ = some ρ1 ∧ di1 ρ1 μ = .ok (yl.map g1) μ ∧ yl.length ≤ 1000 ∧ ∀ y ∈ yl, ∃ ρ2, dg1.f (g1 y) (wipeE ρ1 vs1) = some ρ2 ∧ te ρ2 μ = .ok (.d (h y)) μ := ⟨_, h1, h2, h3, h4⟩
theorem r_lc2A {β : Type} {di di1 : DI} {dg dg1 : DG} {te : DE} {vs vs1 : List Nat} {xs : List α} {g : α → U} {ys : α → List β} {g1 : α → β → U} {h : α → β → PyData} (hd : di ρ μ = .ok (xs.map g) μ) (hl : xs.length ≤ 1000)
    (H : ∀ x ∈ xs, ∃ ρ1, dg.f (g x) (wipeE ρ vs) = some ρ1 ∧ di1 ρ1 μ = .ok ((ys x).map (g1 x)) μ ∧ (ys x).length ≤ 1000 ∧ ∀ y ∈ ys x, ∃ ρ2, dg1.f (g1 x y) (wipeE ρ1 vs1) = some ρ2 ∧ te ρ2 μ = .ok (.d (h x y)) μ) :
    dLc2 di dg dYes di1 dg1 dYes te vs vs1 ρ μ = .ok (.d (.list (xs.flatMap fun x => (ys x).map (h x)))) μ := by
  have key : ∀ zs : List α, (∀ z ∈ zs, z ∈ xs) → lcD2 dg.f dYes di1 dg1.f dYes te vs1 (wipeE ρ vs) (zs.map g) μ = .ok ((zs.flatMap fun x => (ys x).map (h x)).map .d) μ := fun zs => by
    induction zs with
    | nil => exact fun _ => rfl
    | cons z zs ih =>
      intro hz
      obtain ⟨ρ1, h1, h2, h3, h4⟩ := H z (hz z List.mem_cons_self)
      have ih := ih fun w hw => hz w (List.mem_cons_of_mem _ hw)
      rw [List.map_cons, lcD2, h1]
      show bnd (noErr (dYes ρ1)) _ μ = _
      rw [e_bnd]
      show (if true = true then bnd (noErr (di1 ρ1)) fun us1 => if us1.length ≤ few then bnd (lcD dg1.f dYes te (wipeE ρ1 vs1) us1) fun ys => bnd (lcD2 dg.f dYes di1 dg1.f dYes te vs1 (wipeE ρ vs) (zs.map g)) fun zs => pur (ys ++ zs) else stk else lcD2 dg.f dYes di1 dg1.f dYes te vs1 (wipeE ρ vs) (zs.map g)) μ = _
      rw [if_pos rfl, e_bnd]
      unfold noErr
      rw [h2]
      dsimp only
      rw [if_pos (by rw [List.length_map]; exact h3), e_bnd, lcD_all h4]
      dsimp only
      rw [e_bnd, ih]
      dsimp only
      rw [List.flatMap_cons, List.map_append]
      rfl
  unfold dLc2
  rw [e_bnd, hd]
  dsimp only
  rw [if_pos (by rw [List.length_map]; exact hl), e_bnd, key xs fun _ h => h]
  dsimp only
  rw [lstU_map]
  rfl
/-! ### statements -/
theorem r_seq {a b : DS} (h : a ρ μ = .ok (.nx, ρ1) μ1) (h2 : b ρ1 μ1 = R) : dSeq a b ρ μ = R := by
  rw [e_dSeq, h]
  exact h2
theorem r_seqR {a b : DS} (h : a ρ μ = .ok (.ret u, ρ1) μ1) : dSeq a b ρ μ = .ok (.ret u, ρ1) μ1 := by rw [e_dSeq, h]
theorem r_seqE {a b : DS} {e : Er} (h : a ρ μ = .err e μ1) : dSeq a b ρ μ = .err e μ1 := by rw [e_dSeq, h]
theorem r_asg {a : DE} (ha : a ρ μ = .ok u μ1) (hs : ρ.set k (some u) = ρ1) : dAsg k a ρ μ = .ok (.nx, ρ1) μ1 := by rw [e_dAsg, ha, ← hs]
theorem r_ret {a : DE} (ha : a ρ μ = .ok u μ1) : dRet a ρ μ = .ok (.ret u, ρ) μ1 := by rw [e_dRet, ha]
theorem r_drop {a : DE} (ha : a ρ μ = .ok u μ1) : dDrop a ρ μ = .ok (.nx, ρ) μ1 := by rw [e_dDrop, ha]
theorem r_dropE {a : DE} {e : Er} (ha : a ρ μ = .err e μ1) : dDrop a ρ μ = .err e μ1 := by rw [e_dDrop, ha]
theorem r_skip : dSkip ρ μ = .ok (.nx, ρ) μ := rfl
theorem r_ite {t : DT} {a b : DS} (ht : t ρ μ = .ok c μ1) (h : (if c = true then a ρ μ1 else b ρ μ1) = R) : dIte t a b ρ μ = R := by
  rw [e_dIte, ht]
  exact h
theorem r_unp {dg : DG} {a : DE} (ha : a ρ μ = .ok u μ1) (hg : dg.f u ρ = some ρ1) : dUnp dg a ρ μ = .ok (.nx, ρ1) μ1 := by
  rw [e_dUnp, ha]
  dsimp only
  rw [hg]
theorem r_par {is : List Nat} {a : DA} (ha : a ρ μ = .ok us μ1) (hl : us.length = is.length) (hs : (is.zip us).foldl (fun r p => r.set p.1 (some p.2)) ρ = ρ1) : dPar is a ρ μ = .ok (.nx, ρ1) μ1 := by
  rw [e_dPar, ha]
  dsimp only
  rw [if_pos hl, hs]
theorem r_raise {j : Nat} : dRaise j ρ μ = .err (.own j) μ := rfl
theorem r_for {di : DI} {dg : DG} {b : DS} (hd : di ρ μ = .ok us μ1) (h : forD dg.f b us ρ μ1 = R) : dFor di dg b ρ μ = R := by
  rw [e_dFor, hd]
  exact h
/-- a loop that goes through; what holds of the rest -/
theorem for_inv {gd : U → Env' → Option Env'} {body : DS} {g : α → U} {I : List α → Env' → List MO → Prop}
    (step : ∀ x rest ρ μ, I (x :: rest) ρ μ → ∃ ρ1 ρ2 μ2, gd (g x) ρ = some ρ1 ∧ body ρ1 μ = .ok (.nx, ρ2) μ2 ∧ I rest ρ2 μ2) : ∀ (xs : List α) (ρ : Env') (μ : List MO), I xs ρ μ → ∃ ρ' μ', forD gd body (xs.map g) ρ μ = .ok (.nx, ρ') μ' ∧ I [] ρ' μ'
  | [], ρ, μ, h => ⟨ρ, μ, rfl, h⟩
  | x :: xs, ρ, μ, h => by
    obtain ⟨ρ1, ρ2, μ2, h1, h2, h3⟩ := step x xs ρ μ h
    obtain ⟨ρ', μ', h4, h5⟩ := for_inv step xs ρ2 μ2 h3
    exact ⟨ρ', μ', by rw [List.map_cons, forD_cons _ _ _ h1, h2]; exact h4, h5⟩
/-- .. folded -/
theorem for_fold {gd : U → Env' → Option Env'} {body : DS} {g : α → U} {S : σ → Env' → Prop} {f : σ → α → σ} {xs0 : List α}
    (step : ∀ x ∈ xs0, ∀ s ρ, S s ρ → ∃ ρ1 ρ2, gd (g x) ρ = some ρ1 ∧ body ρ1 μ = .ok (.nx, ρ2) μ ∧ S (f s x) ρ2) : ∀ (xs : List α) (s : σ) (ρ : Env'), (∀ x ∈ xs, x ∈ xs0) → S s ρ → ∃ ρ', forD gd body (xs.map g) ρ μ = .ok (.nx, ρ') μ ∧ S (xs.foldl f s) ρ'
  | [], s, ρ, _, h => ⟨ρ, rfl, h⟩
  | x :: xs, s, ρ, hx, h => by
    obtain ⟨ρ1, ρ2, h1, h2, h3⟩ := step x (hx x List.mem_cons_self) s ρ h
    obtain ⟨ρ', h4, h5⟩ := for_fold step xs (f s x) ρ2 (fun y hy => hx y (List.mem_cons_of_mem _ hy)) h3
    exact ⟨ρ', by rw [List.map_cons, forD_cons _ _ _ h1, h2]; exact h4, h5⟩
/-- a loop in which one turn may give back: the first such -/
theorem for_find {gd : U → Env' → Option Env'} {body : DS} {g : α → U} {S : Env' → Prop} {w : α → Option U} {xs0 : List α}
    (step : ∀ x ∈ xs0, ∀ ρ, S ρ → ∃ ρ1 ρ2, gd (g x) ρ = some ρ1 ∧ (match w x with
      | some u => body ρ1 μ = .ok (.ret u, ρ2) μ
      | none => body ρ1 μ = .ok (.nx, ρ2) μ ∧ S ρ2)) : ∀ (xs : List α) (ρ : Env'), (∀ x ∈ xs, x ∈ xs0) → S ρ → ∃ ρ', (match xs.findSome? w with
      | some u => forD gd body (xs.map g) ρ μ = .ok (.ret u, ρ') μ
      | none => forD gd body (xs.map g) ρ μ = .ok (.nx, ρ') μ ∧ S ρ')
  | [], ρ, _, h => ⟨ρ, rfl, h⟩
  | x :: xs, ρ, hx, h => by
    obtain ⟨ρ1, ρ2, h1, h2⟩ := step x (hx x List.mem_cons_self) ρ h
    cases e : w x with
    | some u =>
      rw [e] at h2
      refine ⟨ρ2, ?_⟩
      rw [List.findSome?_cons, e]
      show forD gd body ((x :: xs).map g) ρ μ = _
      rw [List.map_cons, forD_cons _ _ _ h1, h2]
    | none =>
      rw [e] at h2
      obtain ⟨ρ', h4⟩ := for_find step xs ρ2 (fun y hy => hx y (List.mem_cons_of_mem _ hy)) h2.2
      refine ⟨ρ', ?_⟩
      rw [List.findSome?_cons, e]
      have e2 : forD gd body ((x :: xs).map g) ρ μ = forD gd body (xs.map g) ρ2 μ := by
        rw [List.map_cons, forD_cons _ _ _ h1, h2.1]
      dsimp only
      rw [e2]
      exact h4
theorem r_body {ds : DS} {N n : Nat} {ρ0 : Env'} (h : us.length = n) (e : startE N us = ρ0) (hs : ds ρ0 μ = .ok (.ret u, ρ') μ') : bodyD N n ds us μ = .ok u μ' := by
  rw [e_bodyD _ _ h, e, hs]
theorem r_bodyN {ds : DS} {N n : Nat} {ρ0 : Env'} (h : us.length = n) (e : startE N us = ρ0) (hs : ds ρ0 μ = .ok (.nx, ρ') μ') : bodyD N n ds us μ = .ok (.d .none) μ' := by
  rw [e_bodyD _ _ h, e, hs]
theorem r_bodyE {ds : DS} {N n : Nat} {ρ0 : Env'} {er : Er} (h : us.length = n) (e : startE N us = ρ0) (hs : ds ρ0 μ = .err er μ') : bodyD N n ds us μ = .err er μ' := by
  rw [e_bodyD _ _ h, e, hs]
/-- what a try made of a lambda -/
theorem r_refE {tx : Nat → Option Str} {s0 t : Str} {db : DE} {j : Nat} (h : db ρ μ = .err (.own j) μ1) (ht : tx j = some t) : dRef tx s0 db ρ μ = .ok (.d (.str t)) μ1 := by
  unfold dRef
  rw [h]
  dsimp only
  rw [ht]
theorem r_refO {tx : Nat → Option Str} {s0 : Str} {db : DE} (h : db ρ μ = .ok u μ1) : dRef tx s0 db ρ μ = .ok (.d (.str s0)) μ1 := by
  unfold dRef
  rw [h]
/-! ### mutable lists -/
theorem peek_l {l : List PyData} (h : μ[k]? = some (.lst l)) : peek μ (.m k) = some (.list l) := by
  show (match μ[k]? with
    | some (MO.lst ds) => some (PyData.list ds)
    | _ => none) = _
  rw [h]
theorem r_app {eo e : DE} {l : List PyData} {l2 : List PyData} (ho : eo ρ μ = .ok (.m k) μ1) (h1 : μ1[k]? = some (.lst l)) (he : e ρ μ1 = .ok (.d x) μ2) (h2 : μ2[k]? = some (.lst l2)) (hl : l2.length < 1000) (hm : μ2.set k (.lst (l2 ++ [x])) = μ3) : dApp eo e ρ μ = .ok (.d .none) μ3 := by
  unfold dApp
  rw [e_bnd, ho]
  show (match μ1[k]? with
    | some (.lst _) => bnd (e ρ) (fun u => bnd (ofO (dData u)) fun x => dApp1 k x) μ1
    | _ => .stuck) = _
  rw [h1]
  dsimp only
  rw [e_bnd, he]
  show dApp1 k x μ2 = _
  unfold dApp1
  rw [h2]
  dsimp only
  rw [if_pos (Nat.lt_of_lt_of_le hl (by decide)), hm]
theorem r_lstM {a : DA} {xs : List PyData} (ha : a ρ μ = .ok us μ1) (hx : allD us = some xs) (hl : us.length ≤ 1000) : dLstM a ρ μ = .ok (.m μ1.length) (μ1 ++ [.lst xs]) := by
  unfold dLstM
  rw [e_bnd, ha]
  dsimp only
  rw [hx]
  dsimp only
  rw [if_pos (big5 hl)]
theorem r_setIx {eo ei e : DE} {l : List PyData} {j : Int} {q : Nat} (he : e ρ μ = .ok (.d x) μ1) (ho : eo ρ μ1 = .ok (.m k) μ2) (hi : ei ρ μ2 = .ok (.d (.int j)) μ3) (hk : μ3[k]? = some (.lst l)) (hq : L2.ixN l.length j = some q) : dSetIx eo ei e ρ μ = .ok (.nx, ρ) (μ3.set k (.lst (l.set q x))) := by
  unfold dSetIx
  rw [e_bnd, he]
  dsimp only
  rw [e_bnd, ho]
  dsimp only
  rw [e_bnd, hi]
  dsimp only
  rw [e_bnd]
  unfold dSet1
  rw [hk]
  dsimp only
  rw [hq]
  rfl
theorem get_set {s : Nat} {o o' : MO} (h : μ[s]? = some o) : (μ.set s o')[s]? = some o' := by
  rw [List.getElem?_set_self (List.getElem?_eq_some_iff.mp h).1]
/-! ### the same by other names -/
theorem body_ret {N n : Nat} {ds : DS} {us : List U} {u : U} {ρ' : Env'} {μ' : List MO} (h : us.length = n) (hs : ds (startE N us) μ = .ok (.ret u, ρ') μ') : bodyD N n ds us μ = .ok u μ' := by
  rw [e_bodyD _ _ h, hs]
theorem body_nx {N n : Nat} {ds : DS} {us : List U} {ρ' : Env'} {μ' : List MO} (h : us.length = n) (hs : ds (startE N us) μ = .ok (.nx, ρ') μ') : bodyD N n ds us μ = .ok (.d .none) μ' := by
  rw [e_bodyD _ _ h, hs]
theorem body_err {N n : Nat} {ds : DS} {us : List U} {e : Er} {μ' : List MO} (h : us.length = n) (hs : ds (startE N us) μ = .err e μ') : bodyD N n ds us μ = .err e μ' := by
  rw [e_bodyD _ _ h, hs]
theorem seq_nx {a b : DS} {ρ ρ' : Env'} {μ' : List MO} (h : a ρ μ = .ok (.nx, ρ') μ') : dSeq a b ρ μ = b ρ' μ' := by
  rw [e_dSeq, h]
theorem un_ok {f : PyData → Option PyData} {a : DE} {ρ : Env'} {μ' : List MO} {x z : PyData} (ha : a ρ μ = .ok (.d x) μ') (hf : f x = some z) : dUn f a ρ μ = .ok (.d z) μ' := by
  rw [e_dUn, ha]
  show (match f x with
    | some z => Res.ok (U.d z) μ'
    | none => .stuck) = _
  rw [hf]
theorem op_ok {f : PyData → PyData → Option PyData} {a b : DE} {ρ : Env'} {μ1 μ2 : List MO} {x y z : PyData} (ha : a ρ μ = .ok (.d x) μ1) (hb : b ρ μ1 = .ok (.d y) μ2) (hf : f x y = some z) : dOp f a b ρ μ = .ok (.d z) μ2 := by
  rw [e_dOp, ha]
  dsimp only
  rw [hb]
  show (match f x y with
    | some z => Res.ok (U.d z) μ2
    | none => .stuck) = _
  rw [hf]
theorem cons_ok {a : DE} {r : DA} {ρ : Env'} {μ1 μ2 : List MO} {u : U} {us : List U} (ha : a ρ μ = .ok u μ1) (hr : r ρ μ1 = .ok us μ2) : dCons a r ρ μ = .ok (u :: us) μ2 := by
  rw [e_dCons, ha]
  dsimp only
  rw [hr]
theorem call_ok {n : Nat} {fn : List U → M U} {a : DA} {ρ : Env'} {μ1 : List MO} {us : List U} (ha : a ρ μ = .ok us μ1) (hl : us.length = n) : dCall n fn a ρ μ = fn us μ1 := by
  rw [e_dCall, ha]
  dsimp only
  rw [if_pos hl]
theorem ret_ok {a : DE} {ρ : Env'} {μ' : List MO} {u : U} (ha : a ρ μ = .ok u μ') : dRet a ρ μ = .ok (.ret u, ρ) μ' := by
  rw [e_dRet, ha]
theorem asg_ok {a : DE} {ρ : Env'} {μ' : List MO} {u : U} {k : Nat} (ha : a ρ μ = .ok u μ') : dAsg k a ρ μ = .ok (.nx, ρ.set k (some u)) μ' := by
  rw [e_dAsg, ha]
end
end DL

/-! The data layer, part 16: order and equality of ints, pairs, lists of them. -/
namespace DL
open PySem
/-- a pair of ints; a tuple of such -/
def stp (p : Int × Int) : PyData := .tuple [.int p.1, .int p.2]
def lad (L : List (Int × Int)) : PyData := .tuple (L.map stp)
@[simp] theorem isNP_bool (a b : Bool) : isNP (.bool a) (.bool b) = some (.bool (decide (a = b))) := rfl
@[simp] theorem notNP_bool (a b : Bool) : notNP (.bool a) (.bool b) = some (.bool (!decide (a = b))) := rfl
theorem dataLt_cons {x y : PyData} {xs ys : List PyData} (h : PySem.W.alike x y = true) : PySem.W.dataLt (.tuple (x :: xs)) (.tuple (y :: ys)) = if PyData.eqv x y = true then PySem.W.dataLt (.tuple xs) (.tuple ys) else PySem.W.dataLt x y := by
  rw [PySem.W.dataLt_tuple, PySem.W.dataLt_tuple]
  by_cases e : PyData.eqv x y = true
  · rw [if_pos e, PySem.W.dataLt_all_yes h e]
  · rw [if_neg e, PySem.W.dataLt_all_no h (by simpa using e)]
theorem dataLt_nil (xs : List PyData) : PySem.W.dataLt (.tuple xs) (.tuple []) = false := by
  cases xs with
  | nil => rw [PySem.W.dataLt_tuple]; rfl
  | cons x xs => rw [PySem.W.dataLt_tuple]; rfl
/-- the order of pairs -/
def ltPr (a b : Int × Int) : Bool := decide (a.1 < b.1) || (decide (a.1 = b.1) && decide (a.2 < b.2))
theorem eqv_int (i j : Int) : PyData.eqv (.int i) (.int j) = decide (i = j) := by
  unfold PyData.eqv
  by_cases h : i = j <;> simp [h]
theorem dataLt_stp (a b : Int × Int) : PySem.W.dataLt (stp a) (stp b) = ltPr a b := by
  unfold stp ltPr
  rw [dataLt_cons rfl, eqv_int, dataLt_cons rfl, eqv_int, dataLt_nil, PySem.W.dataLt_int, PySem.W.dataLt_int]
  by_cases h1 : a.1 = b.1
  · by_cases h2 : a.2 = b.2 <;> simp [h1, h2]
  · simp [h1]
theorem depth_stps : ∀ l : List (Int × Int), PyData.depthAll (l.map stp) ≤ 2
  | [] => Nat.zero_le _
  | n :: ns => by
    have := depth_stps ns
    simp only [List.map_cons, PyData.depthAll, PyData.depth, stp]
    omega
theorem depth_stp (p : Int × Int) : (stp p).depth ≤ 2 := by
  simp only [stp, PyData.depthAll, PyData.depth]
  omega
theorem plain_stp (p : Int × Int) : (stp p).plain = true := by
  simp [stp, PyData.plain, PyData.plainAll]
theorem plain_stps : ∀ l : List (Int × Int), PyData.plainAll (l.map stp) = true
  | [] => rfl
  | n :: ns => by
    have := plain_stps ns
    simp only [List.map_cons, PyData.plainAll, plain_stp, this, Bool.and_self]
theorem alikeB_of {xs : List PyData} (h1 : ∀ x ∈ xs, ∀ y ∈ xs, PySem.W.alike x y = true) (h2 : ∀ x ∈ xs, notN x = true) (h3 : PyData.depthAll xs ≤ 100) : alikeB xs = true := by
  unfold alikeB
  rw [Bool.and_eq_true, Bool.and_eq_true]
  exact ⟨⟨List.all_eq_true.mpr fun x hx => List.all_eq_true.mpr fun y hy => h1 x hx y hy, List.all_eq_true.mpr h2⟩, decide_eq_true h3⟩
theorem alike_ints (ns : List Int) : alikeB (ns.map .int) = true := by
  refine alikeB_of (fun x hx y hy => ?_) (fun x hx => ?_) (Nat.le_trans (depth_ints _) (by decide))
  · obtain ⟨a, _, rfl⟩ := List.mem_map.mp hx
    obtain ⟨b, _, rfl⟩ := List.mem_map.mp hy
    rfl
  · obtain ⟨a, _, rfl⟩ := List.mem_map.mp hx
    rfl
theorem alike_stps (l : List (Int × Int)) : alikeB (l.map stp) = true := by
  refine alikeB_of (fun x hx y hy => ?_) (fun x hx => ?_) (Nat.le_trans (depth_stps _) (by decide))
  · obtain ⟨a, _, rfl⟩ := List.mem_map.mp hx
    obtain ⟨b, _, rfl⟩ := List.mem_map.mp hy
    rfl
  · obtain ⟨a, _, rfl⟩ := List.mem_map.mp hx
    rfl
def minPr (x : Int × Int) (l : List (Int × Int)) : Int × Int := l.foldl (fun a y => if ltPr y a = true then y else a) x
def maxPr (x : Int × Int) (l : List (Int × Int)) : Int × Int := l.foldl (fun a y => if ltPr a y = true then y else a) x
theorem fold_stp (f : Int × Int → Int × Int → Bool) (g : PyData → PyData → Bool) (h : ∀ a y, g (stp a) (stp y) = f a y) : ∀ (l : List (Int × Int)) (x : Int × Int), (l.map stp).foldl (fun a y => if g a y = true then y else a) (stp x) = stp (l.foldl (fun a y => if f a y = true then y else a) x)
  | [], x => rfl
  | y :: l, x => by
    rw [List.map_cons, List.foldl_cons, List.foldl_cons, h]
    by_cases e : f x y = true
    · rw [if_pos e, if_pos e]
      exact fold_stp f g h l y
    · rw [if_neg e, if_neg e]
      exact fold_stp f g h l x
theorem minP_stp (x : Int × Int) (l : List (Int × Int)) : minP (.list (stp x :: l.map stp)) = some (stp (minPr x l)) := by
  show (if alikeB ((x :: l).map stp) = true then some (PySem.W.minD (stp x) (l.map stp)) else none) = _
  rw [if_pos (alike_stps _)]
  exact congrArg some (fold_stp (fun a y => ltPr y a) (fun a y => PySem.W.dataLt y a) (fun a y => dataLt_stp y a) l x)
theorem maxP_stp (x : Int × Int) (l : List (Int × Int)) : maxP (.list (stp x :: l.map stp)) = some (stp (maxPr x l)) := by
  show (if alikeB ((x :: l).map stp) = true then some (PySem.W.maxD (stp x) (l.map stp)) else none) = _
  rw [if_pos (alike_stps _)]
  exact congrArg some (fold_stp (fun a y => ltPr a y) (fun a y => PySem.W.dataLt a y) (fun a y => dataLt_stp a y) l x)
theorem minP_int (x : Int) (l : List Int) : minP (.list (.int x :: l.map .int)) = some (.int (l.foldl min x)) := by
  show (if alikeB ((x :: l).map .int) = true then some (PySem.W.minD (.int x) (l.map .int)) else none) = _
  rw [if_pos (alike_ints _), PySem.W.minD_ints]
theorem maxP_int (x : Int) (l : List Int) : maxP (.list (.int x :: l.map .int)) = some (.int (l.foldl max x)) := by
  show (if alikeB ((x :: l).map .int) = true then some (PySem.W.maxD (.int x) (l.map .int)) else none) = _
  rw [if_pos (alike_ints _), PySem.W.maxD_ints]
/-- the least pair -/
theorem ltPr_iff {a b : Int × Int} : ltPr a b = true ↔ a.1 < b.1 ∨ (a.1 = b.1 ∧ a.2 < b.2) := by simp [ltPr]
theorem minPr_spec : ∀ (l : List (Int × Int)) (x : Int × Int), minPr x l ∈ x :: l ∧ ∀ y ∈ x :: l, ltPr y (minPr x l) = false
  | [], x => ⟨List.mem_cons_self, fun y hy => by
    have hy := List.mem_singleton.mp hy
    subst hy
    show ltPr y y = false
    unfold ltPr
    simp⟩
  | z :: l, x => by
    have e : minPr x (z :: l) = minPr (if ltPr z x = true then z else x) l := rfl
    rw [e]
    by_cases h : ltPr z x = true
    · rw [if_pos h]
      obtain ⟨h1, h2⟩ := minPr_spec l z
      refine ⟨List.mem_cons_of_mem _ h1, fun y hy => ?_⟩
      rcases List.mem_cons.mp hy with rfl | hy
      · have h3 := h2 z List.mem_cons_self
        rw [Bool.eq_false_iff] at h3 ⊢
        rw [ne_eq, ltPr_iff] at h3 ⊢
        rw [ltPr_iff] at h
        omega
      · exact h2 y hy
    · rw [if_neg h]
      obtain ⟨h1, h2⟩ := minPr_spec l x
      refine ⟨?_, fun y hy => ?_⟩
      · rcases List.mem_cons.mp h1 with h1 | h1
        · rw [h1]
          exact List.mem_cons_self
        · exact List.mem_cons_of_mem _ (List.mem_cons_of_mem _ h1)
      · rcases List.mem_cons.mp hy with rfl | hy
        · exact h2 y List.mem_cons_self
        · rcases List.mem_cons.mp hy with rfl | hy
          · have h3 := h2 x List.mem_cons_self
            rw [Bool.eq_false_iff] at h3 ⊢
            rw [ne_eq, ltPr_iff] at h3 ⊢
            rw [ltPr_iff] at h
            omega
          · exact h2 y (List.mem_cons_of_mem _ hy)
theorem maxPr_spec : ∀ (l : List (Int × Int)) (x : Int × Int), maxPr x l ∈ x :: l ∧ ∀ y ∈ x :: l, ltPr (maxPr x l) y = false
  | [], x => ⟨List.mem_cons_self, fun y hy => by
    have hy := List.mem_singleton.mp hy
    subst hy
    show ltPr y y = false
    unfold ltPr
    simp⟩
  | z :: l, x => by
    have e : maxPr x (z :: l) = maxPr (if ltPr x z = true then z else x) l := rfl
    rw [e]
    by_cases h : ltPr x z = true
    · rw [if_pos h]
      obtain ⟨h1, h2⟩ := maxPr_spec l z
      refine ⟨List.mem_cons_of_mem _ h1, fun y hy => ?_⟩
      rcases List.mem_cons.mp hy with rfl | hy
      · have h3 := h2 z List.mem_cons_self
        rw [Bool.eq_false_iff] at h3 ⊢
        rw [ne_eq, ltPr_iff] at h3 ⊢
        rw [ltPr_iff] at h
        omega
      · exact h2 y hy
    · rw [if_neg h]
      obtain ⟨h1, h2⟩ := maxPr_spec l x
      refine ⟨?_, fun y hy => ?_⟩
      · rcases List.mem_cons.mp h1 with h1 | h1
        · rw [h1]
          exact List.mem_cons_self
        · exact List.mem_cons_of_mem _ (List.mem_cons_of_mem _ h1)
      · rcases List.mem_cons.mp hy with rfl | hy
        · exact h2 y List.mem_cons_self
        · rcases List.mem_cons.mp hy with rfl | hy
          · have h3 := h2 x List.mem_cons_self
            rw [Bool.eq_false_iff] at h3 ⊢
            rw [ne_eq, ltPr_iff] at h3 ⊢
            rw [ltPr_iff] at h
            omega
          · exact h2 y (List.mem_cons_of_mem _ hy)
/-! ### equality -/
theorem eqv_stp (a b : Int × Int) : PyData.eqv (stp a) (stp b) = decide (a = b) := by
  obtain ⟨a1, a2⟩ := a
  obtain ⟨b1, b2⟩ := b
  show PyData.eqvAll [.int a1, .int a2] [.int b1, .int b2] = _
  simp only [PyData.eqvAll, eqv_int, Bool.and_true]
  by_cases h1 : a1 = b1 <;> by_cases h2 : a2 = b2 <;> simp [h1, h2]
theorem eqvAll_map {α : Type} [DecidableEq α] {f : α → PyData} (h : ∀ a b, PyData.eqv (f a) (f b) = decide (a = b)) : ∀ l l' : List α, PyData.eqvAll (l.map f) (l'.map f) = decide (l = l')
  | [], [] => by simp [PyData.eqvAll]
  | [], _ :: _ => by simp [PyData.eqvAll]
  | _ :: _, [] => by simp [PyData.eqvAll]
  | a :: l, b :: l' => by
    rw [List.map_cons, List.map_cons, PyData.eqvAll, h, eqvAll_map h l l']
    by_cases h1 : a = b <;> by_cases h2 : l = l' <;> simp [h1, h2]
theorem cl_of {x y : PyData} (h : x.depth ≤ 100) : cl x y = true := decide_eq_true (by omega)
theorem eqP_of {x y : PyData} {b : Bool} (h : x.depth ≤ 100) (e : PyData.eqv x y = b) : eqP x y = some (.bool b) := by
  unfold eqP
  rw [if_pos (cl_of h), e]
theorem neP_of {x y : PyData} {b : Bool} (h : x.depth ≤ 100) (e : PyData.eqv x y = b) : neP x y = some (.bool (!b)) := by
  unfold neP
  rw [if_pos (cl_of h), e]
theorem depth_lad (l : List (Int × Int)) : (lad l).depth ≤ 100 := by
  show PyData.depthAll (l.map stp) + 1 ≤ 100
  have := depth_stps l
  omega
theorem depth_prs (l : List (Int × Int)) : (PyData.list (l.map stp)).depth ≤ 100 := by
  show PyData.depthAll (l.map stp) + 1 ≤ 100
  have := depth_stps l
  omega
theorem depth_nums (l : List Int) : (PyData.list (l.map .int)).depth ≤ 100 := by
  show PyData.depthAll (l.map .int) + 1 ≤ 100
  have := depth_ints l
  omega
theorem depth_numsT (l : List Int) : (PyData.tuple (l.map .int)).depth ≤ 100 := by
  show PyData.depthAll (l.map .int) + 1 ≤ 100
  have := depth_ints l
  omega
theorem eqP_lad (l l' : List (Int × Int)) : eqP (lad l) (lad l') = some (.bool (decide (l = l'))) := eqP_of (depth_lad l) (eqvAll_map eqv_stp l l')
theorem neP_lad (l l' : List (Int × Int)) : neP (lad l) (lad l') = some (.bool (!decide (l = l'))) := neP_of (depth_lad l) (eqvAll_map eqv_stp l l')
theorem eqP_prs (l l' : List (Int × Int)) : eqP (.list (l.map stp)) (.list (l'.map stp)) = some (.bool (decide (l = l'))) := eqP_of (depth_prs l) (eqvAll_map eqv_stp l l')
theorem neP_prs (l l' : List (Int × Int)) : neP (.list (l.map stp)) (.list (l'.map stp)) = some (.bool (!decide (l = l'))) := neP_of (depth_prs l) (eqvAll_map eqv_stp l l')
theorem eqP_stp (a b : Int × Int) : eqP (stp a) (stp b) = some (.bool (decide (a = b))) := eqP_of (Nat.le_trans (depth_stp a) (by decide)) (eqv_stp a b)
theorem neP_stp (a b : Int × Int) : neP (stp a) (stp b) = some (.bool (!decide (a = b))) := neP_of (Nat.le_trans (depth_stp a) (by decide)) (eqv_stp a b)
theorem eqP_nums (l l' : List Int) : eqP (.list (l.map .int)) (.list (l'.map .int)) = some (.bool (decide (l = l'))) := eqP_of (depth_nums l) (eqvAll_map eqv_int l l')
theorem neP_nums (l l' : List Int) : neP (.list (l.map .int)) (.list (l'.map .int)) = some (.bool (!decide (l = l'))) := neP_of (depth_nums l) (eqvAll_map eqv_int l l')
theorem eqP_numsT (l l' : List Int) : eqP (.tuple (l.map .int)) (.tuple (l'.map .int)) = some (.bool (decide (l = l'))) := eqP_of (depth_numsT l) (eqvAll_map eqv_int l l')
theorem neP_numsT (l l' : List Int) : neP (.tuple (l.map .int)) (.tuple (l'.map .int)) = some (.bool (!decide (l = l'))) := neP_of (depth_numsT l) (eqvAll_map eqv_int l l')
theorem eqP_bool (a b : Bool) : eqP (.bool a) (.bool b) = some (.bool (a == b)) := eqP_of (by simp [PyData.depth]) rfl
theorem neP_bool (a b : Bool) : neP (.bool a) (.bool b) = some (.bool (!(a == b))) := neP_of (by simp [PyData.depth]) rfl
theorem eqvAll_nil (xs : List PyData) : PyData.eqvAll xs [] = xs.isEmpty := by cases xs <;> rfl
theorem cl_nil {x y : PyData} (h : y.depth ≤ 100) : cl x y = true := decide_eq_true (by omega)
/-- xs == [], xs != [] -/
theorem eqP_nilL (xs : List PyData) : eqP (.list xs) (.list []) = some (.bool xs.isEmpty) := by
  unfold eqP
  rw [if_pos (cl_nil (by decide))]
  show some (PyData.bool (PyData.eqvAll xs [])) = _
  rw [eqvAll_nil]
theorem neP_nilL (xs : List PyData) : neP (.list xs) (.list []) = some (.bool (!xs.isEmpty)) := by
  unfold neP
  rw [if_pos (cl_nil (by decide))]
  show some (PyData.bool (!PyData.eqvAll xs [])) = _
  rw [eqvAll_nil]
theorem eqP_nilT (xs : List PyData) : eqP (.tuple xs) (.tuple []) = some (.bool xs.isEmpty) := by
  unfold eqP
  rw [if_pos (cl_nil (by decide))]
  show some (PyData.bool (PyData.eqvAll xs [])) = _
  rw [eqvAll_nil]
theorem neP_nilT (xs : List PyData) : neP (.tuple xs) (.tuple []) = some (.bool (!xs.isEmpty)) := by
  unfold neP
  rw [if_pos (cl_nil (by decide))]
  show some (PyData.bool (!PyData.eqvAll xs [])) = _
  rw [eqvAll_nil]
theorem tup_stp (a b : Int) : tupU [.d (.int a), .d (.int b)] = .d (stp (a, b)) := rfl
theorem addP_l {xs ys : List PyData} (h : xs.length + ys.length ≤ 1000) : addP (.list xs) (.list ys) = some (.list (xs ++ ys)) := by
  show (if xs.length + ys.length ≤ big then some (PyData.list (xs ++ ys)) else none) = _
  rw [if_pos (big5 h)]
theorem addP_t {xs ys : List PyData} (h : xs.length + ys.length ≤ 1000) : addP (.tuple xs) (.tuple ys) = some (.tuple (xs ++ ys)) := by
  show (if xs.length + ys.length ≤ big then some (PyData.tuple (xs ++ ys)) else none) = _
  rw [if_pos (big5 h)]
/-! ### slices, items -/
theorem seq_lad (L : List (Int × Int)) : seqU (.d (lad L)) = some (L.map fun p => .d (stp p)) := seq_mapT
theorem cut_tail {α : Type} (xs : List α) : cutL xs (some 1) none = xs.drop 1 := by
  unfold cutL HT.sIx
  cases xs with
  | nil => rfl
  | cons x xs => simp
theorem cut_map {α β : Type} (f : α → β) (xs : List α) (lo hi : Option Int) : cutL (xs.map f) lo hi = (cutL xs lo hi).map f := by
  unfold cutL
  rw [List.length_map, List.map_take, List.map_drop]
theorem slP_lad (L : List (Int × Int)) (lo hi : Option Int) : slP (lad L) lo hi = some (lad (cutL L lo hi)) := by
  show some (PyData.tuple (cutL (L.map stp) lo hi)) = _
  rw [cut_map]
  rfl
theorem slP_prs (L : List (Int × Int)) (lo hi : Option Int) : slP (.list (L.map stp)) lo hi = some (.list ((cutL L lo hi).map stp)) := by
  show some (PyData.list (cutL (L.map stp) lo hi)) = _
  rw [cut_map]
theorem slP_nums (L : List Int) (lo hi : Option Int) : slP (.list (L.map .int)) lo hi = some (.list ((cutL L lo hi).map .int)) := by
  show some (PyData.list (cutL (L.map .int) lo hi)) = _
  rw [cut_map]
theorem slP_numsT (L : List Int) (lo hi : Option Int) : slP (.tuple (L.map .int)) lo hi = some (.tuple ((cutL L lo hi).map .int)) := by
  show some (PyData.tuple (cutL (L.map .int) lo hi)) = _
  rw [cut_map]
/-- xs[i:], xs[:i], for 0 ≤ i -/
theorem cut_from {α : Type} (xs : List α) (i : Nat) : cutL xs (some (i : Int)) none = xs.drop i := by
  unfold cutL HT.sIx
  simp only
  have h1 : ¬ ((i : Int) < 0) := by omega
  by_cases h : i ≤ xs.length
  · simp [h1, Nat.min_eq_left h]
    exact List.take_of_length_le (by simp)
  · have h2 : xs.length ≤ i := by omega
    simp [h1, Nat.min_eq_right h2, List.drop_eq_nil_of_le h2]
theorem cut_upto {α : Type} (xs : List α) (i : Nat) : cutL xs none (some (i : Int)) = xs.take i := by
  unfold cutL HT.sIx
  simp only
  have h1 : ¬ ((i : Int) < 0) := by omega
  by_cases h : i ≤ xs.length
  · simp [h1, Nat.min_eq_left h]
  · have h2 : xs.length ≤ i := by omega
    simp [h1, Nat.min_eq_right h2, List.take_of_length_le h2]
/-- xs[:-1], xs[-1:] -/
theorem cut_init {α : Type} (xs : List α) : cutL xs none (some (-1)) = xs.dropLast := by
  unfold cutL HT.sIx
  rw [List.dropLast_eq_take]
  simp only
  simp
  congr 1
  omega
theorem cut_last {α : Type} (xs : List α) : cutL xs (some (-1)) none = xs.drop (xs.length - 1) := by
  unfold cutL HT.sIx
  simp only
  simp
  rw [List.take_of_length_le (by simp)]
  congr 1
  omega
theorem ixP_map {α : Type} {f : α → PyData} {xs : List α} {i : Int} {x : α} (h0 : 0 ≤ i) (h : xs[i.toNat]? = some x) : ixP (.tuple (xs.map f)) (.int i) = some (f x) := by
  have hl : i.toNat < xs.length := (List.getElem?_eq_some_iff.mp h).1
  show L2.atI (xs.map f) i = _
  rw [atI_nat h0 (by rw [List.length_map]; omega), List.getElem?_map, h]
  rfl
theorem ixP_mapL {α : Type} {f : α → PyData} {xs : List α} {i : Int} {x : α} (h0 : 0 ≤ i) (h : xs[i.toNat]? = some x) : ixP (.list (xs.map f)) (.int i) = some (f x) := by
  have hl : i.toNat < xs.length := (List.getElem?_eq_some_iff.mp h).1
  show L2.atI (xs.map f) i = _
  rw [atI_nat h0 (by rw [List.length_map]; omega), List.getElem?_map, h]
  rfl
theorem ixP_stp0 (p : Int × Int) : ixP (stp p) (.int 0) = some (.int p.1) := rfl
theorem ixP_stp1 (p : Int × Int) : ixP (stp p) (.int 1) = some (.int p.2) := rfl
theorem atI_last {α : Type} {xs : List α} {x : α} (h : xs.getLast? = some x) : L2.atI xs (-1) = some x := by
  have hn : xs ≠ [] := fun z => by rw [z] at h; cases h
  have hl : 1 ≤ xs.length := by
    cases xs with
    | nil => exact absurd rfl hn
    | cons _ _ => simp
  rw [atI_back (by omega) (by omega), List.getLast?_eq_getElem?] at *
  have : ((-1 : Int) + xs.length).toNat = xs.length - 1 := by omega
  rw [this]
  exact h
end DL

/-! The data layer, part 17: what a run comes to, statement by statement. -/
namespace DL
open PySem
@[irreducible] def wp {α : Type} (r : Res α) (K : α → List MO → Prop) : Prop := match r with
  | .ok a μ => K a μ
  | .err _ _ => False
  | .stuck => False
section
variable {α β : Type} {ρ ρ0 ρ1 : Env'} {μ μ1 : List MO} {i k n N : Nat} {x y z : PyData} {u v : U} {us vs : List U} {K : Fl × Env' → List MO → Prop} {J : U → List MO → Prop} {c : Bool} {a b rest : DS} {P Q : Prop}
theorem wp_in {K : α → List MO → Prop} {v : α} (k : K v μ) : wp (.ok v μ) K := by
  unfold wp
  exact k
theorem wp_ok {r : Res α} {K : α → List MO → Prop} {v : α} (h : r = .ok v μ) (k : K v μ) : wp r K := by
  rw [h]
  exact wp_in k
theorem wp_eq {r : Res α} {v : α} (h : wp r fun u μ' => u = v ∧ μ' = μ) : r = .ok v μ := by
  unfold wp at h
  cases r with
  | ok a m => rw [h.1, h.2]
  | err _ _ => exact h.elim
  | stuck => exact h.elim
theorem wp_ex {r : Res α} {K : α → List MO → Prop} (h : wp r K) : ∃ v μ', r = .ok v μ' ∧ K v μ' := by
  unfold wp at h
  cases r with
  | ok a m => exact ⟨a, m, rfl, h⟩
  | err _ _ => exact h.elim
  | stuck => exact h.elim
theorem wp_mono {r : Res α} {K K' : α → List MO → Prop} (h : wp r K) (k : ∀ v μ', K v μ' → K' v μ') : wp r K' := by
  obtain ⟨v, μ', e, hk⟩ := wp_ex h
  exact wp_ok e (k v μ' hk)
theorem ifT (h : c = true) (p : P) : if c = true then P else Q := by rw [if_pos h]; exact p
theorem ifF (h : ¬ c = true) (p : Q) : if c = true then P else Q := by rw [if_neg h]; exact p
/-- an end of a def -/
def ends1 (J : U → List MO → Prop) : Fl × Env' → List MO → Prop
  | (.nx, _), μ => J (.d .none) μ
  | (.ret u, _), μ => J u μ
  | _, _ => False
theorem w_body {ds : DS} (h : us.length = n) (e : startE N us = ρ0) (hs : wp (ds ρ0 μ) (ends1 J)) : wp (bodyD N n ds us μ) J := by
  rw [e_bodyD _ _ h, e]
  obtain ⟨⟨fl, ρ'⟩, μ', e1, hk⟩ := wp_ex hs
  rw [e1]
  cases fl with
  | nx => exact wp_in hk
  | ret u => exact wp_in hk
  | brk => exact hk.elim
  | cnt => exact hk.elim
theorem w_fn {ds : DS} (h : us.length = n) (hn : ∀ u μ', J u μ' → μ'.take μ.length = μ1 ∧ ∃ x, u = .d x) (hm : μ1.all noObj = true) (hs : wp (bodyD N n ds us μ) J) : wp (fnD N n ds us μ) fun u μ' => μ' = μ1 ∧ ∃ μ2, J u μ2 := by
  obtain ⟨u, μ', e, hk⟩ := wp_ex hs
  obtain ⟨h1, x, rfl⟩ := hn u μ' hk
  unfold fnD fr
  rw [e]
  dsimp only
  rw [h1, if_pos hm]
  show wp (Res.ok (U.d x) (μ'.take μ.length)) _
  rw [h1]
  exact wp_in ⟨rfl, μ', hk⟩
theorem s_seq (h : a ρ μ = .ok (.nx, ρ1) μ1) (h2 : wp (b ρ1 μ1) K) : wp (dSeq a b ρ μ) K := by
  rw [r_seq h rfl]
  exact h2
theorem s_one (h : a ρ μ = .ok (.nx, ρ1) μ1) (k : K (.nx, ρ1) μ1) : wp (a ρ μ) K := wp_ok h k
theorem s_skip (k : K (.nx, ρ) μ) : wp (dSkip ρ μ) K := wp_ok rfl k
theorem s_ret {e : DE} (h : e ρ μ = .ok u μ1) (k : K (.ret u, ρ) μ1) : wp (dRet e ρ μ) K := wp_ok (r_ret h) k
theorem s_seqRet {e : DE} (h : e ρ μ = .ok u μ1) (k : K (.ret u, ρ) μ1) : wp (dSeq (dRet e) rest ρ μ) K := wp_ok (r_seqR (r_ret h)) k
theorem s_seqSkip (h : wp (rest ρ μ) K) : wp (dSeq dSkip rest ρ μ) K := s_seq rfl h
theorem s_seqSeq (h : wp (dSeq a (dSeq b rest) ρ μ) K) : wp (dSeq (dSeq a b) rest ρ μ) K := by
  have e : dSeq (dSeq a b) rest ρ μ = dSeq a (dSeq b rest) ρ μ := by
    rw [e_dSeq, e_dSeq, e_dSeq]
    cases a ρ μ with
    | ok r m =>
      obtain ⟨fl, ρ'⟩ := r
      cases fl <;> dsimp only
      rw [e_dSeq]
    | err _ _ => rfl
    | stuck => rfl
  rw [e]
  exact h
theorem s_ite {t : DT} (ht : t ρ μ = .ok c μ1) (h : if c = true then wp (a ρ μ1) K else wp (b ρ μ1) K) : wp (dIte t a b ρ μ) K := by
  rw [r_ite ht rfl]
  by_cases e : c = true
  · rw [if_pos e] at h ⊢
    exact h
  · rw [if_neg e] at h ⊢
    exact h
theorem s_seqIte {t : DT} (ht : t ρ μ = .ok c μ1) (h : if c = true then wp (dSeq a rest ρ μ1) K else wp (dSeq b rest ρ μ1) K) : wp (dSeq (dIte t a b) rest ρ μ) K := by
  rw [e_dSeq, r_ite ht rfl]
  by_cases e : c = true
  · rw [if_pos e] at h ⊢
    rw [e_dSeq] at h
    exact h
  · rw [if_neg e] at h ⊢
    rw [e_dSeq] at h
    exact h
/-- how a turn ends -/
def turn (I : Env' → List MO → Prop) (B : Env' → List MO → Prop) (K : Fl × Env' → List MO → Prop) : Fl × Env' → List MO → Prop
  | (.nx, ρ), μ => I ρ μ
  | (.cnt, ρ), μ => I ρ μ
  | (.brk, ρ), μ => B ρ μ
  | (.ret u, ρ), μ => K (.ret u, ρ) μ
theorem forD_wp {gd : U → Env' → Option Env'} {body : DS} {g : α → U} {I : List α → Env' → List MO → Prop} {B : Env' → List MO → Prop}
    (step : ∀ x rest ρ μ, I (x :: rest) ρ μ → ∃ ρ1, gd (g x) ρ = some ρ1 ∧ wp (body ρ1 μ) (turn (I rest) B K)) (k : ∀ ρ μ, I [] ρ μ → K (.nx, ρ) μ) (kb : ∀ ρ μ, B ρ μ → K (.nx, ρ) μ) : ∀ (xs : List α) (ρ : Env') (μ : List MO), I xs ρ μ → wp (forD gd body (xs.map g) ρ μ) K
  | [], ρ, μ, h => wp_ok rfl (k ρ μ h)
  | x :: xs, ρ, μ, h => by
    obtain ⟨ρ1, h1, h2⟩ := step x xs ρ μ h
    obtain ⟨⟨fl, ρ2⟩, μ2, e, hk⟩ := wp_ex h2
    rw [List.map_cons, forD_cons _ _ _ h1, e]
    cases fl with
    | nx => exact forD_wp step k kb xs ρ2 μ2 hk
    | cnt => exact forD_wp step k kb xs ρ2 μ2 hk
    | brk => exact wp_in (kb ρ2 μ2 hk)
    | ret u => exact wp_in hk
theorem s_for {di : DI} {dg : DG} {body : DS} {g : α → U} {xs : List α} (I : List α → Env' → List MO → Prop) (hd : di ρ μ = .ok (xs.map g) μ1) (hI : I xs ρ μ1)
    (step : ∀ x rest ρ μ, I (x :: rest) ρ μ → ∃ ρ1, dg.f (g x) ρ = some ρ1 ∧ wp (body ρ1 μ) (turn (I rest) (fun _ _ => False) K)) (k : ∀ ρ μ, I [] ρ μ → K (.nx, ρ) μ) : wp (dFor di dg body ρ μ) K := by
  rw [r_for hd rfl]
  exact forD_wp step k (fun _ _ h => h.elim) xs ρ μ1 hI
theorem s_seqFor {di : DI} {dg : DG} {body : DS} {g : α → U} {xs : List α} (I : List α → Env' → List MO → Prop) (hd : di ρ μ = .ok (xs.map g) μ1) (hI : I xs ρ μ1)
    (step : ∀ x rest ρ μ, I (x :: rest) ρ μ → ∃ ρ1, dg.f (g x) ρ = some ρ1 ∧ wp (body ρ1 μ) (turn (I rest) (fun _ _ => False) K)) (k : ∀ ρ μ, I [] ρ μ → wp (rest ρ μ) K) : wp (dSeq (dFor di dg body) rest ρ μ) K := by
  have := s_for (K := fun r μ' => match r with
    | (.nx, ρ') => wp (rest ρ' μ') K
    | r => K r μ') I hd hI (fun x rest ρ μ h => by
      obtain ⟨ρ1, h1, h2⟩ := step x rest ρ μ h
      refine ⟨ρ1, h1, wp_mono h2 fun v μ' hv => ?_⟩
      obtain ⟨fl, ρ'⟩ := v
      cases fl <;> exact hv) k
  obtain ⟨⟨fl, ρ'⟩, μ', e, hk⟩ := wp_ex this
  rw [e_dSeq, e]
  cases fl with
  | nx => exact hk
  | brk => exact wp_in hk
  | cnt => exact wp_in hk
  | ret u => exact wp_in hk
/-! expressions that draw -/
theorem w_call {n : Nat} {fn : List U → M U} {e : DA} (ha : e ρ μ = .ok us μ1) (hl : us.length = n) (h : wp (fn us μ1) J) : wp (dCall n fn e ρ μ) J := by
  rw [r_call ha hl rfl]
  exact h
theorem w_asg {e : DE} (h : wp (e ρ μ) fun u μ1 => K (.nx, ρ.set k (some u)) μ1) : wp (dAsg k e ρ μ) K := by
  obtain ⟨u, μ', e1, hk⟩ := wp_ex h
  exact wp_ok (r_asg e1 rfl) hk
theorem s_seqAsg {e : DE} (h : wp (e ρ μ) fun u μ1 => wp (rest (ρ.set k (some u)) μ1) K) : wp (dSeq (dAsg k e) rest ρ μ) K := by
  obtain ⟨u, μ', e1, hk⟩ := wp_ex h
  exact s_seq (r_asg e1 rfl) hk
end
end DL

/-! The data layer, part 18: list(x) that will be changed; a def that calls itself. -/
namespace DL
open PySem PySem.Spec PyProof.Rows L2 Evl LamX
/-- list(e), that will be changed -/
def dLstC (de : DE) : DE := fun ρ => bnd (de ρ) fun u μ => match peek μ u with
  | some (.list xs) => .ok (.m μ.length) (μ ++ [.lst xs])
  | some (.tuple xs) => .ok (.m μ.length) (μ ++ [.lst xs])
  | _ => .stuck
section
variable {X : Cx} {fa : Nat → V} {T : TZ} {W : WX} {g : Gp}
theorem dp_lstC {x : Str} {e : Expr} {de : DE} {p pos : Pos} (he : CE' X fa T W e de) (hg : Gl X x) (hm : X.mg x = none) (hv : bootBuiltins x = some (.type "list")) (hn : x ≠ "__name__" := by decide) (hdb : (x == ("__debug__" : Str)) = false := by decide)
    (hs : starEach [e] X.env = (false, eval e X.env) :: starEach [] X.env := by rfl) (hpl : (backTo pos (starEach [] X.env)).any (·.1) = false := by rfl) : CE' X fa T W (.Call (.Name x p) [e] [] pos) (dLstC de) :=
  mkE (pe_callTy call_list_of hg hm hv (pa_cons he pa_nil hs) hn hdb hs hpl) fun ρ μ m F σ H Q o r h => useE o r h fun u μ1 v F1 H1 m1 e1 o1 r1 q1 p1 => by
    cases ea : peek μ1 u with
    | none =>
      simp only [ea] at p1
      exact p1.elim
    | some y =>
      simp only [ea] at p1
      have vw := vw_of o1 q1 ea
      cases y with
      | list xs =>
        obtain ⟨a, ws, eq, ha, ra⟩ := vw.lst o1.ex
        refine ⟨a, ws, by rw [eq], .inl ha, fun p hp => ?_⟩
        obtain ⟨o2, e2⟩ := o1.alloc (u := .lst ws) (mo := .lst xs) hp (fun _ z => by cases z) ⟨ws, upd_same, ra⟩
        exact p1 _ _ _ _ e2 o2 (rp_new o1)
      | tuple xs =>
        obtain ⟨a, ws, eq, ha, ra⟩ := vw.tup
        refine ⟨a, ws, by rw [eq], .inr (ex_t o1.ex ha), fun p hp => ?_⟩
        obtain ⟨o2, e2⟩ := o1.alloc (u := .lst ws) (mo := .lst xs) hp (fun _ z => by cases z) ⟨ws, upd_same, ra⟩
        exact p1 _ _ _ _ e2 o2 (rp_new o1)
      | _ => exact p1.elim
/-! ### no way -/
def dStk : DS := fun _ => stk
theorem css_stk {b : List Stmt} : CSs X fa T W b dStk := ⟨fun pins s σ H D I ⟨ρ, μ, m, F, o, r, p⟩ => p.elim⟩
theorem r_lstC {de : DE} {ρ : Env'} {μ μ1 : List MO} {u : U} {xs : List PyData} (h : de ρ μ = .ok u μ1) (hp : peek μ1 u = some (.list xs) ∨ peek μ1 u = some (.tuple xs)) : dLstC de ρ μ = .ok (.m μ1.length) (μ1 ++ [.lst xs]) := by
  unfold dLstC
  rw [e_bnd, h]
  dsimp only
  rcases hp with hp | hp <;> rw [hp]
end
end DL

/-! The data layer, part 19: defs that drop what they made. -/
namespace DL
open PySem
section
variable {μ μ' μ1 : List MO} {us : List U} {N n k : Nat} {ds : DS} {x : PyData} {l : List PyData}
theorem fn_data (h : bodyD N n ds us μ = .ok (.d x) μ') (ht : μ'.take μ.length = μ1) (hno : μ1.all noObj = true) : fnD N n ds us μ = .ok (.d x) μ1 := by
  unfold fnD fr
  rw [h]
  dsimp only
  rw [ht, if_pos hno]
  show Res.ok (U.d x) (μ'.take μ.length) = _
  rw [ht]
theorem fn_list (h : bodyD N n ds us μ = .ok (.m k) μ') (hk : μ.length ≤ k) (hg : μ'[k]? = some (.lst l)) (ht : μ'.take μ.length = μ1) (hno : μ1.all noObj = true) : fnD N n ds us μ = .ok (.d (.list l)) μ1 := by
  unfold fnD fr
  rw [h]
  dsimp only
  rw [ht, if_pos hno]
  show (if k < μ.length then Res.ok (U.m k) (μ'.take μ.length) else (match μ'[k]? with
    | some (.lst ds) => .ok (.d (.list ds)) (μ'.take μ.length)
    | _ => .stuck)) = _
  rw [if_neg (by omega), hg, ht]
theorem take_app {μ2 : List MO} : (μ ++ μ2).take μ.length = μ := List.take_left
theorem last_get {o : MO} : (μ ++ [o])[μ.length]? = some o := by
  rw [List.getElem?_append_right (Nat.le_refl _), Nat.sub_self]
  rfl
theorem last_set {o o' : MO} : (μ ++ [o]).set μ.length o' = μ ++ [o'] := by
  rw [List.set_append_right _ _ (Nat.le_refl _), Nat.sub_self]
  rfl
end
/-! ### comprehensions that draw -/
section
variable {α : Type} {ρ : Env'} {μ μ1 : List MO} {gd : U → Env' → Option Env'} {te : DE}
theorem lcD_st {P : PyData → Prop} {I : List MO → Prop} : ∀ (us : List U) (μ : List MO), (∀ u ∈ us, ∀ μ, I μ → ∃ ρ1 x μ', gd u ρ = some ρ1 ∧ te ρ1 μ = .ok (.d x) μ' ∧ P x ∧ I μ') → I μ → ∃ (xs : List PyData) (μ' : List MO), lcD gd dYes te ρ us μ = .ok (xs.map .d) μ' ∧ (∀ x ∈ xs, P x) ∧ xs.length = us.length ∧ I μ'
  | [], μ, _, h => ⟨[], μ, rfl, fun _ h => by (cases h), rfl, h⟩
  | u :: us, μ, step, h => by
    obtain ⟨ρ1, x, μ2, h1, h2, h3, h4⟩ := step u List.mem_cons_self μ h
    obtain ⟨xs, μ3, h5, h6, h7, h8⟩ := lcD_st (P := P) (I := I) us μ2 (fun v hv => step v (List.mem_cons_of_mem _ hv)) h4
    refine ⟨x :: xs, μ3, ?_, fun y hy => ?_, by rw [List.length_cons, List.length_cons, h7], h8⟩
    · rw [lcD, h1]
      show bnd (noErr (dYes ρ1)) _ μ = _
      rw [e_bnd]
      show (if true = true then bnd (noErr (te ρ1)) fun y => bnd (lcD gd dYes te ρ us) fun ys => pur (y :: ys) else lcD gd dYes te ρ us) μ = _
      rw [if_pos rfl, e_bnd]
      unfold noErr
      rw [h2]
      dsimp only
      rw [e_bnd, h5]
      rfl
    · rcases List.mem_cons.mp hy with rfl | hy
      · exact h3
      · exact h6 y hy
theorem lc_st {di : DI} {dg : DG} {vs : List Nat} {us : List U} {P : PyData → Prop} {I : List MO → Prop} (hd : di ρ μ = .ok us μ1) (hl : us.length ≤ 1000) (hI : I μ1)
    (step : ∀ u ∈ us, ∀ μ, I μ → ∃ ρ1 x μ', dg.f u (wipeE ρ vs) = some ρ1 ∧ te ρ1 μ = .ok (.d x) μ' ∧ P x ∧ I μ') : ∃ (xs : List PyData) (μ' : List MO), dLc di dg dYes te vs ρ μ = .ok (.d (.list xs)) μ' ∧ (∀ x ∈ xs, P x) ∧ xs.length = us.length ∧ I μ' := by
  obtain ⟨xs, μ', h1, h2, h3, h4⟩ := lcD_st (P := P) (I := I) us μ1 step hI
  refine ⟨xs, μ', ?_, h2, h3, h4⟩
  unfold dLc
  rw [e_bnd, hd]
  dsimp only
  rw [if_pos (big5 hl), e_bnd, h1]
  dsimp only
  rw [lstU_map]
  rfl
/-- two lists of draws in a row: an argument list whose parts change the store -/
theorem ixN_in {n : Nat} {i : Int} (h0 : 0 ≤ i) (h1 : i < n) : L2.ixN n i = some i.toNat := by
  unfold L2.ixN
  rw [if_pos h0, if_pos h1]
end
end DL

/-! The data layer, part 20: sorted(set(e)) of ints. -/
namespace DL
open PySem PySem.Spec PyProof.Rows L2 Evl LamX
/-! ### ascending, each one once -/
def insU (k : Int) : List Int → List Int
  | [] => [k]
  | x :: l => if k < x then k :: x :: l else if k = x then x :: l else x :: insU k l
def asc : List Int → List Int
  | [] => []
  | k :: l => insU k (asc l)
theorem mem_insU {k j : Int} : ∀ {l : List Int}, j ∈ insU k l ↔ j = k ∨ j ∈ l
  | [] => by simp [insU]
  | x :: l => by
    unfold insU
    split
    · rw [List.mem_cons]
    · split
      · rename_i h1 h2
        rw [h2, List.mem_cons]
        constructor
        · exact fun h => .inr h
        · rintro (h | h)
          · exact .inl h
          · exact h
      · rw [List.mem_cons, mem_insU, List.mem_cons]
        constructor
        · rintro (h | h | h)
          · exact .inr (.inl h)
          · exact .inl h
          · exact .inr (.inr h)
        · rintro (h | h | h)
          · exact .inr (.inl h)
          · exact .inl h
          · exact .inr (.inr h)
theorem mem_asc {j : Int} : ∀ {l : List Int}, j ∈ asc l ↔ j ∈ l
  | [] => Iff.rfl
  | x :: l => by
    unfold asc
    rw [mem_insU, mem_asc, List.mem_cons]
theorem insU_pw {k : Int} : ∀ {l : List Int}, l.Pairwise (· < ·) → (insU k l).Pairwise (· < ·)
  | [], _ => List.pairwise_singleton _ _
  | x :: l, h => by
    obtain ⟨h1, h2⟩ := List.pairwise_cons.mp h
    unfold insU
    split
    · rename_i hk
      refine List.pairwise_cons.mpr ⟨fun y hy => ?_, h⟩
      rcases List.mem_cons.mp hy with rfl | hy
      · exact hk
      · have := h1 y hy
        omega
    · split
      · exact h
      · refine List.pairwise_cons.mpr ⟨fun y hy => ?_, insU_pw h2⟩
        rcases mem_insU.mp hy with rfl | hy
        · omega
        · exact h1 y hy
theorem asc_pw : ∀ {l : List Int}, (asc l).Pairwise (· < ·)
  | [] => .nil
  | x :: l => insU_pw asc_pw
theorem asc_one : ∀ {l m : List Int}, l.Pairwise (· < ·) → m.Pairwise (· < ·) → (∀ k, k ∈ l ↔ k ∈ m) → l = m
  | [], [], _, _, _ => rfl
  | [], y :: m, _, _, h => nomatch (h y).mpr List.mem_cons_self
  | x :: l, [], _, _, h => nomatch (h x).mp List.mem_cons_self
  | x :: l, y :: m, h1, h2, h => by
    obtain ⟨a1, a2⟩ := List.pairwise_cons.mp h1
    obtain ⟨b1, b2⟩ := List.pairwise_cons.mp h2
    have e : x = y := by
      rcases List.mem_cons.mp ((h x).mp List.mem_cons_self) with e | e
      · exact e
      · rcases List.mem_cons.mp ((h y).mpr List.mem_cons_self) with e' | e'
        · exact e'.symm
        · have := b1 x e
          have := a1 y e'
          omega
    subst e
    rw [asc_one a2 b2 fun k => ?_]
    have hk := h k
    rw [List.mem_cons, List.mem_cons] at hk
    constructor
    · intro q
      have := a1 k q
      rcases hk.mp (.inr q) with e | e
      · omega
      · exact e
    · intro q
      have := b1 k q
      rcases hk.mpr (.inr q) with e | e
      · omega
      · exact e
theorem asc_len : ∀ (l : List Int), (asc l).length ≤ l.length
  | [] => Nat.le_refl _
  | x :: l => by
    have h : ∀ m : List Int, (insU x m).length ≤ m.length + 1 := fun m => by
      induction m with
      | nil => exact Nat.le_refl _
      | cons y m ih =>
        unfold insU
        split
        · exact Nat.le_refl _
        · split
          · exact Nat.le_succ _
          · rw [List.length_cons, List.length_cons]
            omega
    have h1 := h (asc l)
    have h2 := asc_len l
    rw [List.length_cons]
    show (insU x (asc l)).length ≤ _
    omega
/-! ### set(xs), sorted(set) -/
section
variable {P : Program} {w : World} {A : Around} {E : Value → Shared → Prop} {s : Shared}
theorem call_set_lstI {l : Addr} {items : Array Value} (ns : List Int) {Q : Value → Shared → Prop} (hh : A.handled = none) (hl : s.heap.IsList l items) (hit : IntsAre items.toList ns) (hb : ns.length + 1 < scanBound)
    (h : ∀ (h' : Heap) (tk c : Nat), SetR w h' s.heap.objs.size (fun j => decide (j ∈ ns)) c → c ≤ ns.length → (∀ b o, s.heap.get? b = some o → h'.get? b = some o) → Q (.ref s.heap.objs.size) { s with heap := h', toks := tk }) :
    wpAny (model P w) A (call (.type "set") [.ref l]) Q E s := by
  have hisz : items.size = ns.length := by
    have q := IntsAre.length hit
    rw [Array.length_toList] at q
    exact q
  obtain ⟨c, tl, hmro⟩ := F.called_set.mro
  have hmade := F.called_set.made
  have hsub := F.called_set.sub
  refine wpAny_call (codeAny_of_tree ?_)
  show wpAny _ _ (callAny (.type "set") _) _ _ _
  refine wpAny_pure ⟨Code.quiet_builtin _ (by decide +kernel), codeAny_builtin F.entry_type_call ?_⟩
  rw [Around.under_plain (weight_type_call_type "set" [.ref l] []) rfl]
  have h1 := F.called_set.notType
  have h2 := F.called_set.canCreate
  have hct := F.typeCall_set_1 (.ref l)
  repeat (any_goals (first | assumption | wp_step))
  refine codeAny_mono (code_set_led1 (.ref l) (E := E) (Q₁ := fun obj s₁ => obj = .ref s.heap.objs.size ∧ s₁ = { s with heap := s.heap.push { cls := .type "set", dict := none, data := .set #[] 0 (.fresh 0 0 (!w.params.followText "set-order")) } }) ⟨rfl, rfl⟩) fun r s₁ hr => ?_
  cases r with
  | error e => exact hr
  | ok fl =>
    cases fl with
    | ret obj =>
      obtain ⟨rfl, rfl⟩ := hr
      have hS : (s.heap.push { cls := .type "set", dict := none, data := .set #[] 0 (.fresh 0 0 (!w.params.followText "set-order")) }).get? s.heap.objs.size = some { cls := .type "set", dict := none, data := .set #[] 0 (.fresh 0 0 (!w.params.followText "set-order")) } := Heap.get?_push_size _ rfl
      have hT : Shared.TypeIs { s with heap := s.heap.push { cls := .type "set", dict := none, data := .set #[] 0 (.fresh 0 0 (!w.params.followText "set-order")) } } (.ref s.heap.objs.size) "set" := ⟨_, hS, rfl⟩
      have hli := F.called_set.init.lookup
      have hbi := F.called_set.init.bind (.ref s.heap.objs.size)
      repeat (any_goals (first | assumption | wp_step))
      refine codeAny_mono (codeAny_call_builtin (R := wants (fun r s₂ => r = .none ∧ ∃ h' tk c, s₂ = { s with heap := h', toks := tk } ∧ SetR w h' s.heap.objs.size (fun j => decide (j ∈ ns)) c ∧ c ≤ ns.length ∧
          (∀ b o, s.heap.get? b = some o → h'.get? b = some o)) E) F.called_set.init.plain F.entry_set_init (check_set_init_1 hT ?_)) fun r₂ s₂ hr₂ => ?_
      · obtain ⟨ol, hol, hcl, nl, hdl⟩ := hl
        obtain ⟨ocls, odict, odata, oslots⟩ := ol
        simp only at hcl hdl
        subst hcl; subst hdl
        have hol' : (s.heap.push { cls := .type "set", dict := none, data := .set #[] 0 (.fresh 0 0 (!w.params.followText "set-order")) }).get? l = some { cls := .type "list", dict := odict, data := .seq items nl, slots := oslots } := Heap.get?_push_of_some _ hol
        have hsls := F.sub_list_set
        have hslf := F.sub_list_frozenset
        have hne : (Value.type "list" == Value.type "dict") = false := by decide
        have hl1 : (s.heap.push { cls := .type "set", dict := none, data := .set #[] 0 (.fresh 0 0 (!w.params.followText "set-order")) }).IsList l items := ⟨_, hol', rfl, nl, rfl⟩
        unfold Builtin.«set.__init__» noKeywords Builtin.Frozenset.updateFrom
        generalize hPI : pyIter = PI
        wp_walk
        subst hPI
        refine wpAny_pyIter_list hl1 ?_
        refine wpAny_bind (wpAny_runValue ?_)
        have hlS : l < s.heap.objs.size := Heap.lt_size hol
        have hh3 : A.in1.in1.in1.handled = none := by simp [hh]
        have hneI : l ≠ (s.heap.push { cls := .type "set", dict := none, data := .set #[] 0 (.fresh 0 0 (!w.params.followText "set-order")) }).objs.size := by
          rw [Heap.size_push]; exact Nat.ne_of_lt (Nat.lt_succ_of_lt hlS)
        have hSf : s.heap.objs.size ∉ [(s.heap.push { cls := .type "set", dict := none, data := .set #[] 0 (.fresh 0 0 (!w.params.followText "set-order")) }).objs.size, l] := by
          rw [Heap.size_push]; simp only [List.mem_cons, List.mem_singleton, List.not_mem_nil, or_false, not_or]
          exact ⟨Nat.ne_of_lt (Nat.lt_succ_self _), Nat.ne_of_gt hlS⟩
        have hval : ∀ (i : Nat) (v : Value), items[i]? = some v → ∃ k t, ns[i]? = some k ∧ v = .int k t := fun i v hv => by
          have hi : i < ns.length := by rw [← hisz]; exact (Array.getElem?_eq_some_iff.mp hv).1
          obtain ⟨t, e⟩ := PyProof.Rows.IntsAre.int_at hit i v (by rw [Array.getElem?_toList]; exact hv)
          refine ⟨ns[i], t, List.getElem?_eq_getElem hi, ?_⟩
          rw [e, List.getD_eq_getElem?_getD, List.getElem?_eq_getElem hi] <;> rfl
        refine set_update_ints ((Walks.list hh3 _ l hneI items).toS) s.heap.objs.size
          hSf ns hisz hb hval (items.size - 0) 0 _ (by omega) (Nat.zero_le _)
          ⟨⟨_, Heap.get?_push_size _ rfl, rfl, rfl⟩, (hl1.push _)⟩ ?hS0 ?hR
        case hS0 =>
          have hget : ((s.heap.push { cls := .type "set", dict := none, data := .set #[] 0 (.fresh 0 0 (!w.params.followText "set-order")) }).push { cls := .type "list_iterator", data := .fields #[.ref l, .int 0 0] }).get? s.heap.objs.size
              = some { cls := .type "set", dict := none, data := .set #[] 0 (.fresh 0 0 (!w.params.followText "set-order")) } := Heap.get?_push_of_some _ hS
          exact ⟨0, Nat.le_refl 0, setR_new_at hget⟩
        case hR =>
          intro s' c' hm hc' hS'
          obtain ⟨h', g2, d', tk', os'⟩ := s'
          have eg : g2 = s.gens := hm.gens
          have ed : d' = s.drawn := hm.drawn
          have eo : os' = s.os := hm.os
          subst eg; subst ed; subst eo
          show wpAny _ _ _ _ _ _
          refine wpAny_pure ?_
          show wpAny _ _ (ret Value.none) _ _ _
          rw [hisz] at hc'
          refine wpAny_pure ⟨rfl, h', tk', c', rfl, hS', hc', fun b o e => ?_⟩
          have hb0 : b < s.heap.objs.size := Heap.lt_size e
          have hb1 : b ≠ s.heap.objs.size := Nat.ne_of_lt hb0
          have hb2 : b ≠ (s.heap.push { cls := .type "set", dict := none, data := .set #[] 0 (.fresh 0 0 (!w.params.followText "set-order")) }).objs.size := by
            rw [Heap.size_push]; exact Nat.ne_of_lt (Nat.lt_succ_of_lt hb0)
          exact hm.heap b o (by simp only [List.mem_cons, List.mem_singleton, List.not_mem_nil, or_false, not_or]; exact ⟨hb1, hb2⟩) (Heap.get?_push_of_some _ (Heap.get?_push_of_some _ e))
      · cases r₂ with
        | error e => exact hr₂
        | ok fl₂ =>
          cases fl₂ with
          | ret r =>
            obtain ⟨rfl, h', tk, c', rfl, hS', hc', hk'⟩ := hr₂
            repeat (any_goals (first | assumption | wp_step))
            exact h _ _ _ hS' hc' hk'
          | _ => exact hr₂.elim
    | _ => exact hr.elim
/-- sorted of a set, any number of members -/
theorem sorted_setN {a : Addr} {S : Int → Bool} {n : Nat} {Q : Value → Shared → Prop} (R : SetR w s.heap a S n) (hh : A.handled = none)
    (hQ : ∀ s' p (out : List Value) (c : Nat) (ns : List Int), (∀ b o, s.heap.get? b = some o → s'.heap.get? b = some o) → s'.gens = s.gens → s'.os = s.os → s.heap.objs.size ≤ p →
      s'.heap.get? p = some (seqObj "list" out.toArray c) → IntsAre out ns → ns.Pairwise (· < ·) → (∀ k, k ∈ ns ↔ S k = true) → ns.length = n → ns.length ≤ sizeLine → Q (.ref p) s') :
    wpAny (model P w) A (call (.builtin "sorted") [.ref a]) Q E s := by
  obtain ⟨o, es, ep, t, ho, hex, hd, g, nd, hm, hb, hf, hn, hr, hl⟩ := R
  refine Calls.call_function_entry kind_sorted plain_sorted entry_sorted (args_sorted1 _) ?_
  unfold Builtin.«sorted»
  refine wpAny_bind (m := checkCount "sorted" 1 1 _) (wpAny_pure ?_)
  refine wpAny_bind (collect_set (A := A.in1) hh ⟨o, ho, hex.1, hd⟩ hf hb hr hl fun s1 vs k1 hz g1 o1 pm => ?_)
  have hvl : vs.length = n := by rw [pm.length_eq, List.length_map, Array.length_toList]; exact hn
  have hz2 : vs.length ≤ sizeLine := by
    rw [pm.length_eq, List.length_map, Array.length_toList]
    exact fits_of_scanBound hb
  have hI : IntsAre vs (vs.map Builtin.Re.reRawOf) := ints_of vs fun v hv => by
    obtain ⟨e, he, q⟩ := List.mem_map.mp (pm.mem_iff.mp hv)
    obtain ⟨k, tk, h1, _⟩ := g e he
    exact ⟨k, tk, by rw [← q]; exact h1⟩
  have pk : (vs.map Builtin.Re.reRawOf).Perm (es.toList.map keyOf) := by
    have q := pm.map Builtin.Re.reRawOf
    rw [List.map_map] at q
    exact q
  refine wpAny_bind (wpAny_newList ?_ hz2)
  have hoL : (s1.heap.push (seqObj "list" vs.toArray 0)).get? s1.heap.objs.size = some (seqObj "list" vs.toArray 0) := Heap.get?_push_size _ rfl
  refine wpAny_bind (wpAny_holding (wpAny_call_entry slot_list_sort ⟨_, hoL, rfl⟩ entry_list_sort (SrtO.list_sort_ord SrtO.swo_int hoL hz2 (fun h2 => SrtO.ints_sortable hI h2) fun out a1 a2 => ⟨_, rfl, ?_⟩) (args_list_sort _)))
  obtain ⟨k2, k3, k4⟩ := SrtO.ints_out hI a1 a2
  obtain ⟨c, hc⟩ := sortedHeap_at (vs := vs) (out := out.toArray) hoL
  have pn : (out.map SrtO.iv).Perm (es.toList.map keyOf) := k3.trans pk
  refine wpAny_pure ⟨_, rfl, hQ _ s1.heap.objs.size out c (out.map SrtO.iv) (fun b u e => ?_) g1 o1 hz hc k2 (lt_of_le_nodup _ k4 (pn.nodup_iff.mpr nd)) (fun k => by rw [pn.mem_iff, ← hm k]) ?_ ?_⟩
  · have q := k1 b u e
    have hlt := Heap.lt_size q
    show (sortedHeap (s1.heap.push (seqObj "list" vs.toArray 0)) s1.heap.objs.size vs out.toArray).get? b = some u
    rw [sortedHeap_old (Nat.ne_of_lt hlt) (by rw [size_push']; exact Nat.lt_succ_of_lt hlt)]
    exact Heap.get?_push_of_some _ q
  · rw [pn.length_eq, List.length_map, Array.length_toList]; exact hn
  · rw [pn.length_eq, List.length_map, Array.length_toList]
    exact fits_of_scanBound hb
end
section
variable {X : Cx} {fa : Nat → V} {T : TZ} {W : WX} {g : Gp}
/-- set(xs) of ints -/
def rSetI (K : PySem.W.Frag) (w : World) : List V → Hp → VK → Prop := fun vs H Q => ∃ (l : Addr) (ns : List Int), vs = [V.ref l] ∧ (SqL K H l (ns.map V.int) ∨ SqT K H l (ns.map V.int)) ∧ ns.length ≤ 4000 ∧
  ∀ (S : Addr) (n : Nat), H S = none → Q (.ref S) (upd H S (SetO w S (fun j => decide (j ∈ ns)) n))
theorem cr_setI (hc : X.calm = true) : CallR X (.type "set") (rSetI X.K X.w) := by
  intro pins s σ H vs us Q I r h
  obtain ⟨l, ns, rfl, hs, hl, q⟩ := h
  rw [Vals.ref1 r]
  have hb : ns.length + 1 < scanBound := by unfold scanBound; omega
  have fin : ∀ (h' : Heap) (tk c : Nat), SetR X.w h' s.heap.objs.size (fun j => decide (j ∈ ns)) c → c ≤ ns.length → (∀ b o, s.heap.get? b = some o → h'.get? b = some o) → EP X pins σ Q (.ref s.heap.objs.size) { s with heap := h', toks := tk } := fun h' tk c R _ k =>
    ⟨.ref s.heap.objs.size, upd H s.heap.objs.size (SetO X.w s.heap.objs.size (fun j => decide (j ∈ ns)) c), I.laid (t' := tk) k (Nat.le_refl _) (setO_new R), rfl, q _ _ (I.hok.fresh (Nat.le_refl _))⟩
  rcases hs with hs | hs
  · obtain ⟨its, rv, pl, hz⟩ := I.list hs
    exact call_set_lstI ns (I.ok.hd hc) pl.isList (ints_of_vals rv) hb fin
  · obtain ⟨its, rv, pl, hz⟩ := I.tuple hs
    exact call_set_tupI ns (I.ok.hd hc) (show s.heap.IsTuple l its.toArray from pl) (ints_of_vals rv) hb fin
/-- sorted of a set -/
def rSetS (w : World) : List V → Hp → VK → Prop := fun vs H Q => ∃ (a : Addr) (S : Int → Bool) (n : Nat), vs = [V.ref a] ∧ H a = some (SetO w a S n) ∧
  ∀ (ns : List Int) (p : Addr), ns.Pairwise (· < ·) → (∀ k : Int, k ∈ ns ↔ S k = true) → H p = none → Q (.ref p) (upd H p (.lst (ns.map V.int)))
theorem cr_setS (hc : X.calm = true) : CallR X (.builtin "sorted") (rSetS X.w) := by
  intro pins s σ H vs us Q I r h
  obtain ⟨a, S, n, rfl, ha, q⟩ := h
  have R := setO_get I ha
  rw [Vals.ref1 r]
  refine sorted_setN R (I.ok.hd hc) fun s' p out c ns k g o hp hg hi hs hm hl hz => ?_
  have hlen : (ns.map V.int).length ≤ sizeLine := by rw [List.length_map]; exact hz
  have hn : H p = none := I.hok.fresh hp
  have J : Inv X pins σ (upd H p (.lst (ns.map V.int))) { s with heap := s'.heap, gens := s'.gens, drawn := s'.drawn, toks := s'.toks } :=
    I.call (ch := []) (Un.laid k hp hn) (I.hok.laid k hp ⟨hlen, out, c, vals_of_ints hi, hg⟩) (by rw [g]; exact I.bare) (fun _ z => nomatch z)
  have e : s' = { s with heap := s'.heap, gens := s'.gens, drawn := s'.drawn, toks := s'.toks } := by
    cases s'
    cases s
    cases o
    rfl
  rw [e]
  exact ⟨.ref p, _, J, rfl, q ns p hs hm hn⟩
/-- sorted(set(xs)) -/
def ssetP : PyData → Option PyData
  | .list xs => (match intsOf xs with
    | some ns => if ns.length ≤ 4000 then some (.list ((asc ns).map .int)) else none
    | none => none)
  | .tuple xs => (match intsOf xs with
    | some ns => if ns.length ≤ 4000 then some (.list ((asc ns).map .int)) else none
    | none => none)
  | _ => none
theorem dq_ints {K : PySem.W.Frag} {F : Hp} : ∀ {ns : List Int} {vs : List V}, DqAll K F vs (ns.map .int) → vs = ns.map V.int
  | [], _, h => by cases h; rfl
  | n :: ns, _, h => by
    cases h with
    | cons h1 h2 =>
      cases h1
      rw [dq_ints h2]
      rfl
theorem ints_dq {K : PySem.W.Frag} {F : Hp} : ∀ (ns : List Int), DqAll K F (ns.map V.int) (ns.map .int)
  | [] => .nil
  | n :: ns => .cons (.int n) (ints_dq ns)
theorem dp_sset {x y : Str} {e : Expr} {de : DE} {p p2 q pos : Pos} (hc : X.calm = true) (he : CE' X fa T W e de) (hg : Gl X x) (hm : X.mg x = none) (hv : bootBuiltins x = some (.builtin "sorted"))
    (hg2 : Gl X y) (hm2 : X.mg y = none) (hv2 : bootBuiltins y = some (.type "set")) (hn : x ≠ "__name__" := by decide) (hdb : (x == ("__debug__" : Str)) = false := by decide) (hn2 : y ≠ "__name__" := by decide) (hdb2 : (y == ("__debug__" : Str)) = false := by decide)
    (hs2 : starEach [e] X.env = (false, eval e X.env) :: starEach [] X.env := by rfl) (hpl2 : (backTo q (starEach [] X.env)).any (·.1) = false := by rfl)
    (hs : starEach [.Call (.Name y p2) [e] [] q] X.env = (false, eval (.Call (.Name y p2) [e] [] q) X.env) :: starEach [] X.env := by rfl) (hpl : (backTo pos (starEach [] X.env)).any (·.1) = false := by rfl) :
    CE' X fa T W (.Call (.Name x p) [.Call (.Name y p2) [e] [] q] [] pos) (dUn ssetP de) :=
  mkE (pe_callB (cr_setS hc) hg hm hv (pa_cons (pe_callTy (cr_setI hc) hg2 hm2 hv2 (pa_cons he pa_nil hs2) hn2 hdb2 hs2 hpl2) pa_nil hs) hn hdb hs hpl) fun ρ μ m F σ H Q o r h => useE o r h fun u μ1 v F1 H1 m1 e1 o1 r1 q1 p1 => by
    cases ea : peek μ1 u with
    | none =>
      simp only [ea] at p1
      exact p1.elim
    | some y =>
      simp only [ea] at p1
      cases es : ssetP y with
      | none =>
        simp only [es] at p1
        exact p1.elim
      | some z =>
        simp only [es] at p1
        have vw := vw_of o1 q1 ea
        have fin : ∀ (ns : List Int) (a : Addr), z = .list ((asc ns).map .int) → (SqL X.K H1 a (ns.map V.int) ∨ SqT X.K H1 a (ns.map V.int)) → ns.length ≤ 4000 → rSetI X.K X.w [V.ref a] H1 (fun v2 H2 => rSetS X.w [v2] H2 Q) := fun ns a ez ha hl => by
          refine ⟨a, ns, rfl, ha, hl, fun S n hS => ⟨S, _, n, rfl, upd_same, fun out p pw hm' hp => ?_⟩⟩
          have eo : out = asc ns := asc_one pw asc_pw fun k => by rw [hm' k, mem_asc, decide_eq_true_eq]
          subst eo
          obtain ⟨o2, e2⟩ := o1.froz (p := S) (u := SetO X.w S (fun j => decide (j ∈ ns)) n) hS (fun _ z => by cases z)
          obtain ⟨o3, e3⟩ := o2.froz (p := p) (u := .lst ((asc ns).map V.int)) hp (fun _ z => by cases z)
          exact p1 _ _ _ _ (e2.trans e3) o3 (.d (by rw [ez]; exact .lst (sq_of upd_same) (ints_dq _)))
        cases y with
        | list xs =>
          have es : (match intsOf xs with
            | some ns => if ns.length ≤ 4000 then some (PyData.list ((asc ns).map .int)) else none
            | none => none) = some z := es
          cases ei : intsOf xs with
          | none => rw [ei] at es; cases es
          | some ns =>
            rw [ei] at es
            by_cases hl : ns.length ≤ 4000
            · dsimp only at es
              rw [if_pos hl] at es
              cases es
              obtain ⟨a, ws, eq, ha, ra⟩ := vw.lst o1.ex
              subst eq
              rw [intsOf_eq ei] at ra
              rw [dq_ints ra] at ha
              exact fin ns a rfl (.inl ha) hl
            · dsimp only at es
              rw [if_neg hl] at es
              cases es
        | tuple xs =>
          have es : (match intsOf xs with
            | some ns => if ns.length ≤ 4000 then some (PyData.list ((asc ns).map .int)) else none
            | none => none) = some z := es
          cases ei : intsOf xs with
          | none => rw [ei] at es; cases es
          | some ns =>
            rw [ei] at es
            by_cases hl : ns.length ≤ 4000
            · dsimp only at es
              rw [if_pos hl] at es
              cases es
              obtain ⟨a, ws, eq, ha, ra⟩ := vw.tup
              subst eq
              rw [intsOf_eq ei] at ra
              rw [dq_ints ra] at ha
              exact fin ns a rfl (.inr (ex_t o1.ex ha)) hl
            · dsimp only at es
              rw [if_neg hl] at es
              cases es
        | _ => cases es
end
end DL

/-! The data layer, part 21: list(range(n)), a module's tuple. -/
namespace DL
open PySem PySem.Spec PyProof.Rows L2 Evl LamX
section
variable {X : Cx} {fa : Nat → V} {T : TZ} {W : WX} {g : Gp}
/-! ### list(range(n)) -/
def rgD (a b : Int) : List PyData := (List.range (b - a).toNat).map fun (i : Nat) => .int (a + (i : Int))
def rgOk (a b : Int) : Prop := -16777216 ≤ a ∧ a ≤ 16777216 ∧ -16777216 ≤ b ∧ b ≤ 16777216 ∧ (b - a).toNat ≤ 16777216
instance (a b : Int) : Decidable (rgOk a b) := inferInstanceAs (Decidable (_ ∧ _))
theorem rgOk.ok {a b : Int} (h : rgOk a b) : RgOk a b := by
  obtain ⟨h1, h2, h3, h4, h5⟩ := h
  exact ⟨by omega, by omega, by omega, by omega, by omega⟩
theorem dq_mapI {K : PySem.W.Frag} {F : Hp} {α : Type} (f : α → Int) : ∀ (l : List α), DqAll K F (l.map fun i => V.int (f i)) (l.map fun i => .int (f i))
  | [] => .nil
  | n :: ns => .cons (.int _) (dq_mapI f ns)
def lrgP : PyData → Option PyData
  | .int n => if rgOk 0 n then some (.list (rgD 0 n)) else none
  | _ => none
theorem dp_lstRg {x y : Str} {e : Expr} {de : DE} {p p2 q pos : Pos} (hc : X.calm = true) (ex : x = "list") (ey : y = "range") (he : CE' X fa T W e de) (hg : Gl X x) (hm : X.mg x = none) (hg2 : Gl X y) (hm2 : X.mg y = none)
    (hs2 : starEach [e] X.env = (false, eval e X.env) :: starEach [] X.env := by rfl)
    (hs : starEach [.Call (.Name y p2) [e] [] q] X.env = (false, eval (.Call (.Name y p2) [e] [] q) X.env) :: starEach [] X.env := by rfl) :
    CE' X fa T W (.Call (.Name x p) [.Call (.Name y p2) [e] [] q] [] pos) (dUn lrgP de) := by
  subst ex ey
  exact mkE (pe_listRg hc hg hm (prg_1 hg2 hm2 he hs2) hs) fun ρ μ m F σ H Q o r h => useE o r h fun u μ1 v F1 H1 m1 e1 o1 r1 q1 p1 => by
    cases ea : peek μ1 u with
    | none =>
      simp only [ea] at p1
      exact p1.elim
    | some y =>
      simp only [ea] at p1
      cases es : lrgP y with
      | none =>
        simp only [es] at p1
        exact p1.elim
      | some z =>
        simp only [es] at p1
        have vw := vw_of o1 q1 ea
        cases y with
        | int n =>
          have es : (if rgOk 0 n then some (PyData.list (rgD 0 n)) else none) = some z := es
          by_cases hl : rgOk 0 n
          · rw [if_pos hl] at es
            cases es
            obtain rfl := vw.int
            refine ⟨n, rfl, hl.ok, fun p hp => ?_⟩
            obtain ⟨o3, e3⟩ := o1.froz (p := p) (u := .lst (rgV 0 n)) hp (fun _ z => by cases z)
            exact p1 _ _ _ _ e3 o3 (.d (.lst (sq_of upd_same) (dq_mapI _ _)))
          · rw [if_neg hl] at es
            cases es
        | _ => cases es
/-! ### a module's tuple of texts -/
theorem dq_strs {K : PySem.W.Frag} {F : Hp} : ∀ (zs : List Str), DqAll K F (zs.map V.str) (zs.map .str)
  | [] => .nil
  | z :: zs => .cons (.str z) (dq_strs zs)
theorem dp_gstrs {x : Str} {zs : List Str} {a : Addr} {pos : Pos} (hg : Gl X x) (hm : X.mg x = some (.ref a)) (hs : ∀ H, SqT X.K H a (zs.map V.str)) (hd : (x == ("__debug__" : Str)) = false := by decide) : CE' X fa T W (.Name x pos) (dC (.tuple (zs.map .str))) :=
  mkE (pe_glob (v := .ref a) hg hm rfl hd) (sim_c fun F => .tup (hs F) (dq_strs zs))
end
end DL

/-! The data layer, part 22: tests with their answers. -/
namespace DL
open PySem
section
variable {ρ : Env'} {μ μ1 : List MO} {a b : DT} {r : Res Bool} {ea eb : DE} {ru : Res U}
theorem or_F (ha : a ρ μ = .ok false μ1) (hb : b ρ μ1 = r) : dOr a b ρ μ = r := r_or ha hb
theorem or_T (ha : a ρ μ = .ok true μ1) : dOr a b ρ μ = .ok true μ1 := r_or ha rfl
theorem and_T (ha : a ρ μ = .ok true μ1) (hb : b ρ μ1 = r) : dAnd a b ρ μ = r := r_and ha hb
theorem and_F (ha : a ρ μ = .ok false μ1) : dAnd a b ρ μ = .ok false μ1 := r_and ha rfl
theorem orV_F (ha : ea ρ μ = .ok (.d (.bool false)) μ1) (hb : eb ρ μ1 = ru) : dOrV ea eb ρ μ = ru := r_orV ha hb
theorem orV_T (ha : ea ρ μ = .ok (.d (.bool true)) μ1) : dOrV ea eb ρ μ = .ok (.d (.bool true)) μ1 := r_orV ha rfl
theorem andV_T (ha : ea ρ μ = .ok (.d (.bool true)) μ1) (hb : eb ρ μ1 = ru) : dAndV ea eb ρ μ = ru := r_andV ha hb
theorem andV_F (ha : ea ρ μ = .ok (.d (.bool false)) μ1) : dAndV ea eb ρ μ = .ok (.d (.bool false)) μ1 := r_andV ha rfl
theorem if_T {t : DT} (ha : t ρ μ = .ok true μ1) (h : ea ρ μ1 = ru) : dIf t ea eb ρ μ = ru := r_if ha h
theorem if_F {t : DT} (ha : t ρ μ = .ok false μ1) (h : eb ρ μ1 = ru) : dIf t ea eb ρ μ = ru := r_if ha h
variable {K : Fl × Env' → List MO → Prop} {sa sb rest : DS} {t : DT}
theorem s_iteT (ht : t ρ μ = .ok true μ1) (h : wp (sa ρ μ1) K) : wp (dIte t sa sb ρ μ) K := s_ite ht (ifT rfl h)
theorem s_iteF (ht : t ρ μ = .ok false μ1) (h : wp (sb ρ μ1) K) : wp (dIte t sa sb ρ μ) K := s_ite ht (ifF (by simp) h)
theorem s_seqIteT (ht : t ρ μ = .ok true μ1) (h : wp (dSeq sa rest ρ μ1) K) : wp (dSeq (dIte t sa sb) rest ρ μ) K := s_seqIte ht (ifT rfl h)
/-- an if that does nothing -/
theorem s_pass (ht : t ρ μ = .ok false μ1) (h : wp (rest ρ μ1) K) : wp (dSeq (dIte t sa dSkip) rest ρ μ) K := s_seqIte ht (ifF (by simp) (s_seqSkip h))
theorem s_pass1 (ht : t ρ μ = .ok false μ1) (k : K (.nx, ρ) μ1) : wp (dIte t sa dSkip ρ μ) K := s_iteF ht (s_skip k)
theorem s_asg {i : Nat} {e : DE} {u : U} (h : e ρ μ = .ok u μ1) (k : wp (rest (ρ.set i (some u)) μ1) K) : wp (dSeq (dAsg i e) rest ρ μ) K := s_seq (r_asg h rfl) k
end
end DL

/-! The data layer, part 23: a def within a def, handed on to another. Register fn 0 is the made function. -/
namespace DL
open PySem PySem.Spec PyProof.Rows L2 Evl LamX NdefX
/-! ### from one reading to another -/
def plainO : Option U → Bool
  | none => true
  | some (.d _) => true
  | some (.m _) => true
  | _ => false
section
variable {K : PySem.W.Frag} {fa fa2 : Nat → V} {T T2 : TZ} {F H H1 : Hp} {μ : List MO} {m : List Addr}
theorem MoR.conv {a : Addr} {o : MO} (h : MoR ⟨K, fa, T⟩ F m H a o) (hn : noObj o = true) : MoR ⟨K, fa2, T2⟩ F m H a o := by
  cases o with
  | lst ds => exact h
  | dct kvs => exact h
  | obj c fs => cases hn
  | gone => exact h
theorem Ok.conv (o : Ok ⟨K, fa, T⟩ F μ m H) (hn : μ.all noObj = true) (ht : T2.tabs = T.tabs) (hk : ∀ p ∈ T2.z.kn, H p.1 = some p.2 ∧ p.1 ∉ m ∧ ∃ z, p.2 = .ext z) (hp : T2.z.kp F) : Ok ⟨K, fa2, T2⟩ F μ m H where
  ex := o.ex
  len := o.len
  nd := o.nd
  nf := o.nf
  nt := o.nt
  at_ := fun i a w h1 h2 => (o.at_ i a w h1 h2).conv (List.all_eq_true.mp hn w (List.mem_of_getElem? h2))
  tab := by
    show Tabs T2.tabs H
    rw [ht]
    exact o.tab
  kn := hk
  kp := hp
theorem Rp.conv {v : V} {u : U} (r : Rp ⟨K, fa, T⟩ F m v u) (h : plainO (some u) = true) : Rp ⟨K, fa2, T2⟩ F m v u := by
  cases r with
  | d h1 => exact .d h1
  | m h1 => exact .m h1
  | fn => cases h
  | tu _ _ => cases h
  | li _ _ => cases h
theorem EnvR.conv {σ : L2.St} {ρ : Env'} (r : EnvR ⟨K, fa, T⟩ F m σ ρ) (h : ρ.all plainO = true) : EnvR ⟨K, fa2, T2⟩ F m σ ρ :=
  ⟨r.1, fun i u e => by
    obtain ⟨v, h1, h2⟩ := r.2 i u e
    exact ⟨v, h1, h2.conv (List.all_eq_true.mp h _ (List.mem_of_getElem? e))⟩⟩
/-- new objects aside, all is as it was -/
theorem Ok.grown (o : Ok ⟨K, fa, T⟩ F μ m H) (eN : ExtN H H1) (T1 : Tabs T.tabs H1) : Ok ⟨K, fa, T⟩ F μ m H1 ∧ Gr F H m F H1 m := by
  have key : ∀ b u, H b = some u → (∀ ps, u ≠ .tbl ps) → H1 b = some u := eN
  refine ⟨⟨fun b u e => key b u (o.ex b u e) (fun ps z => o.nt b ps (by rw [z] at e; exact e)), o.len, o.nd, o.nf, o.nt, fun i b w h1 h2 => (o.at_ i b w h1 h2).mo (Ex.refl F) List.prefix_rfl fun u hu => ?_, T1, fun q hq => ?_, o.kp⟩, Ex.refl F, List.prefix_rfl, fun b u h1 h2 h3 h4 => ⟨key b u h3 h4, h1, h2⟩⟩
  · obtain ⟨u2, hu2, hn⟩ := (o.at_ i b w h1 h2).there
    rw [hu] at hu2
    cases hu2
    exact key b u hu hn
  · obtain ⟨k1, k2, z, k3⟩ := o.kn q hq
    exact ⟨key _ _ k1 (fun ps w => by rw [k3] at w; cases w), k2, z, k3⟩
theorem Ok.notin (o : Ok ⟨K, fa, T⟩ F μ m H) {a : Addr} (h : H a = none ∨ ∃ z, H a = some (.ext z)) : a ∉ m := fun z => by
  obtain ⟨i, hi⟩ := List.getElem?_of_mem z
  have hl : i < μ.length := by
    rw [← o.len]
    exact (List.getElem?_eq_some_iff.mp hi).1
  have q := o.at_ i a _ hi (List.getElem?_eq_getElem hl)
  rcases h with h | ⟨z, h⟩
  · obtain ⟨u, hu, _⟩ := q.there
    rw [h] at hu
    cases hu
  · exact q.nx h
end
/-! ### the statement, with all behind it -/
def dNdef (i : Nat) (d : DS) : DS := fun ρ μ => if ρ.all plainO = true ∧ μ.all noObj = true then (match d (ρ.set i (some (.fn 0))) μ with
    | .ok (.ret (.d x), ρ') μ' => if μ'.all noObj = true then .ok (.ret (.d x), ρ') μ' else .stuck
    | _ => .stuck) else .stuck
theorem dNdef_ok {i : Nat} {d : DS} {ρ ρ' : Env'} {μ μ' : List MO} {x : PyData} (h1 : ρ.all plainO = true) (h2 : μ.all noObj = true) (h : d (ρ.set i (some (.fn 0))) μ = .ok (.ret (.d x), ρ') μ') (h3 : μ'.all noObj = true) : dNdef i d ρ μ = .ok (.ret (.d x), ρ') μ' := by
  unfold dNdef
  rw [if_pos ⟨h1, h2⟩, h]
  dsimp only
  rw [if_pos h3]
theorem set_plain {ρ : Env'} {i : Nat} {σ : L2.St} {g : Gp} {F : Hp} {m : List Addr} {v : V} {u : U} (r : EnvR g F m σ ρ) (h : Rp g F m v u) : EnvR g F m (σ.set i (some v)) (ρ.set i (some u)) := r.set h i
abbrev TZ.add (T : TZ) (p q : Addr × HO) : TZ := ⟨T.tabs, ⟨p :: q :: T.z.kn, T.z.kp, T.z.mono⟩⟩
section
variable {X : Cx} {fa : Nat → V} {T : TZ} {W : WX}
theorem ds_ndef {st : Stmt} {c P : Addr} {name : Str} {pos : Pos} {i : Nat} {rest : List Stmt} {drest : DS} {fa2 : Addr → Nat → V} {qq : Str} (hqq : X.env.qual = qq) (hst : st = .FunctionDef name (C8.fnArgs st) (C8.fnBody st) [] none [] (C8.fnScope st) none name pos) (TB : TabB X.base X.mg c P) (hcode : X.env.code = .ref c)
    (hm : (P, qq ++ name) ∈ T.tabs) (hu : ∀ p ∈ T.tabs, p.1 = P → p.2 = qq ++ name) (hfree : ∀ y ∈ (C8.fnScope st).names, y.2 = .free → X.env.scope.names.lookup y.1 = some .cell ∨ X.env.scope.names.lookup y.1 = some .free) (hd0 : (C8.fnArgs st).defaults = []) (hk0 : (C8.fnArgs st).kw_defaults = []) (ha : annTrees (C8.fnArgs st) none X.env = [])
    (hN : X.N.Nodup) (hi : X.N[i]? = some name) (hx : Loc X.env.scope name) (hf : X.fn name = true ∨ X.env.scope.names.lookup name = some .local) (hfa : ∀ f, fa2 f 0 = .ref f)
    (hrest : ∀ f c', CSs X (fa2 f) (T.add (f, FnO f (NF.of st name (X.env.qual ++ name) (cloFrom X.env.cells (C8.fnScope st).names []) c')) (c', CodeO c' (X.env.qual ++ name))) W rest drest) :
    CSs X fa T W (st :: rest) (dNdef i drest) := by
  subst hqq
  have hT : ∀ p ∈ T.tabs.map (fun p => ((p.1, fun _ _ => p.2) : NTab)), ∃ q ∈ T.tabs, p = (q.1, fun _ _ => q.2) := fun p hp => by
    obtain ⟨q, hq, e⟩ := List.mem_map.mp hp
    exact ⟨q, hq, e.symm⟩
  have h1 := ps_ndefS (X := X) (st := st) (T := T.tabs.map fun p => (p.1, fun _ _ => p.2)) (nm := fun _ _ => X.env.qual ++ name) (P := P) hst TB hcode (List.mem_map.mpr ⟨_, hm, rfl⟩) rfl (fun p hp e => by
    obtain ⟨q, hq, rfl⟩ := hT p hp
    rw [hu q hq e]) hfree hd0 hk0 ha hN hi hx hf
  have h2 : PSs X rest (fun D σ H => ∃ f c', canS (gp X (fa2 f) (T.add (f, FnO f (NF.of st name (X.env.qual ++ name) (cloFrom X.env.cells (C8.fnScope st).names []) c')) (c', CodeO c' (X.env.qual ++ name)))) W drest D σ H) :=
    ⟨fun pins s σ H D I ⟨f, c', h⟩ => (hrest f c').run pins s σ H D I h⟩
  refine mkSs (pss_cons h1 h2) fun ρ μ m F σ H D o r h => ?_
  refine ⟨fun p hp => ?_, fun f c' H1 eN T1 f0 f1 c1 => ?_⟩
  · obtain ⟨q, hq, rfl⟩ := hT p hp
    exact TabN.of (o.tab q hq)
  · have T1' : Tabs T.tabs H1 := fun q hq => TabN.to (T1 _ (List.mem_map.mpr ⟨q, hq, rfl⟩))
    unfold dNdef at h
    by_cases hc : ρ.all plainO = true ∧ μ.all noObj = true
    · rw [if_pos hc] at h
      obtain ⟨o1, g1⟩ := Ok.grown o eN T1'
      refine ⟨f, c', ρ.set i (some (.fn 0)), μ, m, F, o1.conv hc.2 rfl ?_ o.kp, ?_, ?_⟩
      · intro p hp
        rcases List.mem_cons.mp hp with rfl | hp
        · exact ⟨f1, o.notin (.inl f0), _, rfl⟩
        · rcases List.mem_cons.mp hp with rfl | hp
          · exact ⟨c1, o1.notin (.inr ⟨_, c1⟩), _, rfl⟩
          · exact o1.kn p hp
      · have e0 := Rp.fn (g := gp X (fa2 f) (T.add (f, FnO f (NF.of st name (X.env.qual ++ name) (cloFrom X.env.cells (C8.fnScope st).names []) c')) (c', CodeO c' (X.env.qual ++ name)))) (F := F) (m := m) (n := 0)
        have e1 : (gp X (fa2 f) (T.add (f, FnO f (NF.of st name (X.env.qual ++ name) (cloFrom X.env.cells (C8.fnScope st).names []) c')) (c', CodeO c' (X.env.qual ++ name)))).fa 0 = .ref f := hfa f
        rw [e1] at e0
        exact set_plain (r.conv hc.1) e0
      · cases e : drest (ρ.set i (some (.fn 0))) μ with
        | stuck => rw [e] at h; exact h.elim
        | err er μ1 => rw [e] at h; exact h.elim
        | ok a μ1 =>
          rw [e] at h
          obtain ⟨fl, ρ1⟩ := a
          cases fl with
          | nx => exact h.elim
          | brk => exact h.elim
          | cnt => exact h.elim
          | ret u =>
            cases u with
            | d x =>
              dsimp only at h
              by_cases hn : μ1.all noObj = true
              · rw [if_pos hn] at h
                intro v F' H' m' gr o' rv
                exact h v F' H' m' (g1.trans gr) (o'.conv hn rfl (fun p hp => o'.kn p (List.mem_cons_of_mem _ (List.mem_cons_of_mem _ hp))) o'.kp) (rv.conv rfl)
              · rw [if_neg hn] at h
                exact h.elim
            | m _ => exact h.elim
            | fn _ => exact h.elim
            | tu _ => exact h.elim
            | li _ => exact h.elim
    · rw [if_neg hc] at h
      exact h.elim
end
end DL

/-! The data layer, part 24: a made function called by a def that got it. -/
namespace DL
open PySem PySem.Spec PyProof.Rows L2 Evl LamX NdefX
/-! ### what the made function promises -/
def spN (g : Gp) (np : Nat) (fn : List U → M U) (ws : List (Option V)) : Sp := fun vs H Q E => vs.length = np ∧ ∃ F μ m us cs cvs, ws = cvs.map some ∧ Ok g F μ m H ∧ RpAll g F m vs us ∧ RpAll g F m cvs cs ∧ Post g (RU g) (fn (us ++ cs) μ) F H m Q (fun c d H' => E c d H')
mutual
theorem Rp.tz {K : PySem.W.Frag} {fa : Nat → V} {T T2 : TZ} {F : Hp} {m : List Addr} : ∀ (u : U) (v : V), Rp ⟨K, fa, T⟩ F m v u → Rp ⟨K, fa, T2⟩ F m v u
  | .d x, _, h => by cases h with | d h => exact .d h
  | .m n, _, h => by cases h with | m h => exact .m h
  | .fn n, _, h => by
    cases h
    exact Rp.fn (g := ⟨K, fa, T2⟩) (n := n)
  | .tu us, _, h => by cases h with | tu h1 h2 => exact .tu h1 (RpAll.tz us _ h2)
  | .li us, _, h => by cases h with | li h1 h2 => exact .li h1 (RpAll.tz us _ h2)
theorem RpAll.tz {K : PySem.W.Frag} {fa : Nat → V} {T T2 : TZ} {F : Hp} {m : List Addr} : ∀ (us : List U) (vs : List V), RpAll ⟨K, fa, T⟩ F m vs us → RpAll ⟨K, fa, T2⟩ F m vs us
  | [], _, h => by cases h; exact .nil
  | u :: us, _, h => by cases h with | cons h1 h2 => exact .cons (Rp.tz u _ h1) (RpAll.tz us _ h2)
end
theorem MoR.tz {K : PySem.W.Frag} {fa : Nat → V} {T T2 : TZ} {F : Hp} {m : List Addr} {H : Hp} {a : Addr} {o : MO} (h : MoR ⟨K, fa, T⟩ F m H a o) : MoR ⟨K, fa, T2⟩ F m H a o := by
  cases o with
  | lst ds => exact h
  | dct kvs => exact h
  | obj c fs =>
    obtain ⟨C, dx, vs, h0, h1, h2⟩ := h
    exact ⟨C, dx, vs, h0, h1, Paired.mapP h2 fun a b z => ⟨z.1, Rp.tz _ _ z.2⟩⟩
  | gone => exact h
theorem EnvR.tz {K : PySem.W.Frag} {fa : Nat → V} {T T2 : TZ} {F : Hp} {m : List Addr} {σ : L2.St} {ρ : Env'} (r : EnvR ⟨K, fa, T⟩ F m σ ρ) : EnvR ⟨K, fa, T2⟩ F m σ ρ :=
  ⟨r.1, fun i u e => by
    obtain ⟨v, h1, h2⟩ := r.2 i u e
    exact ⟨v, h1, Rp.tz _ _ h2⟩⟩
theorem startF_eq (N : List Str) (vs cvs : List V) : startF N vs (cvs.map some) = L2.start N (vs ++ cvs) := by
  unfold startF L2.start
  rw [List.map_append, List.append_assoc, List.length_map, List.length_append, Nat.sub_sub]
section
variable {P : Program} {w : World} {K : PySem.W.Frag} {mg : Str → Option Value} {base : Heap} {fa : Nat → V} {T : TZ}
theorem takesC {N : List Str} {F : NF} {f : Addr} {A : Around} {outer : List Env} {s : Shared} {H : Hp} {E : XK} : L2N.Takes (ncx (L2N.CX P w) P w K mg base N F f A outer s H E) (fun cls d _ H => E cls d H) :=
  L2N.takes_of rfl rfl rfl rfl
theorem nok_of_body {F : NF} {f : Addr} {N ps fr : List Str} {k nn np nf : Nat} {ds : DS} (S : NScope N ps fr F.scope) (hN : N.length = nn) (hp : ps.length = np) (hf : fr.length = nf) (hb : ∀ (doc pm ctv : Value) (us : List Value), us.length = ps.length → bindArgs (F.fd doc pm ctv) ⟨us, []⟩ = pure (ps.zip us))
    (hbody : ∀ (A : Around) (outer : List Env) (s : Shared) (H : Hp) (E : XK), Room k (A.deeper (envF F f s.heap.objs.size)) → CSs (ncx (L2N.CX P w) P w K mg base N F f A outer s H E) fa T (fun cls d _ H => E cls d H) F.body ds) :
    NOk P w K mg base (L2N.CX P w) (k + 1) f F ps fr (spN ⟨K, fa, T⟩ np (bodyD nn (np + nf) ds)) := by
  subst hN hp hf
  refine nok_of S hb (fun ws vs H Q E h => h.1) fun A outer s H vs ws Q E hr hf hc hl hsp => ?_
  obtain ⟨hl2, F0, μ, m, us, cs, cvs, rfl, o, r, rc, p⟩ := hsp
  refine ⟨_, hbody A outer s H E hr, startE N.length (us ++ cs), μ, m, F0, o, ?_, body_post p⟩
  rw [startF_eq]
  exact start_env (r.app rc)
end
/-! ### calls -/
theorem cells_later {X : Cx} {pins : List (Addr × Obj)} {σ : L2.St} {H : Hp} {s : Shared} {cl : List (Str × Addr)} {fr : List Str} {ws : List (Option V)} (C : CellsAt cl fr ws X.s_0.heap X.H_0) (hx : ∀ y c, cl.lookup y = some c → c ∉ X.ex) (I : Inv X pins σ H s) : CellsAt cl fr ws s.heap H := by
  have kp : ∀ y c, cl.lookup y = some c → ∀ v, X.s_0.heap.IsCell c v → s.heap.IsCell c v := fun y c e v ⟨o, ho, hd⟩ => by
    obtain ⟨sl, q⟩ := I.base.any ho (C.all y c e).1 (hx y c e)
    exact ⟨_, q, hd⟩
  refine ⟨C.len, fun y c e => ?_, C.inj, fun i y e => ?_⟩
  · obtain ⟨n, v, z⟩ := C.all y c e
    refine ⟨?_, v, kp y c e v z⟩
    obtain ⟨o, ho, _⟩ := z
    exact I.base.free c o ho n (hx y c e)
  · obtain ⟨c, hc, hv⟩ := C.has i y e
    refine ⟨c, hc, fun v ev => ?_⟩
    obtain ⟨u, r, z⟩ := hv v ev
    exact ⟨u, r, kp y c hc _ z⟩
section
variable {X : Cx} {fa : Nat → V} {T : TZ} {W : WX}
theorem run_w {CX : CXT} {pins : List (Addr × Obj)} {σ : L2.St} {H : Hp} {s : Shared} {Q : VK} {k : Nat} {f : Addr} {F : NF} {ps fr : List Str} {sp : List (Option V) → Sp} {us : List Value} {vs : List V} {ws : List (Option V)} {E : XK} (Fn : NOk X.prog X.w X.K X.mg X.base CX k f F ps fr sp) (hr : Room k X.A) (hx : Passes CX X E) (I : Inv X pins σ H s)
    (hf : H f = some (FnO f F)) (hc : H F.c = some (CodeO F.c F.qual)) (C : CellsAt F.cl fr ws s.heap H) (r : Vals vs us) (q : sp ws vs H Q E) : wpAny (model X.prog X.w) X.A (call (.ref f) us) (EP X pins σ Q) X.xe s := by
  refine wpAny_call (codeAny_mono (Fn.run X.A X.stack s H us vs ws Q E hr I.env0 hf hc C r q) fun r s' hq => ?_)
  cases r with
  | error e => exact hx pins σ H s e s' I hq
  | ok fl =>
    cases fl with
    | ret u => exact I.after hq
    | next => exact False.elim hq
    | brk => exact False.elim hq
    | cont => exact False.elim hq
/-- register fn 0 is a made function that computes good -/
structure CloAt (X : Cx) (fa : Nat → V) (T : TZ) (k n : Nat) (good : List U → M U) : Prop where
  ex : ∃ (f : Addr) (F : NF) (ps fr : List Str) (cvs : List V) (cs : List U) (fn : List U → M U), fa 0 = .ref f ∧ (f, FnO f F) ∈ T.z.kn ∧ (F.c, CodeO F.c F.qual) ∈ T.z.kn ∧ CellsAt F.cl fr (cvs.map some) X.s_0.heap X.H_0 ∧ (∀ y c, F.cl.lookup y = some c → c ∉ X.ex) ∧
    NOk X.prog X.w X.K X.mg X.base (L2N.CX X.prog X.w) k f F ps fr (spN ⟨X.K, fa, T⟩ n fn) ∧ (∀ F' m', T.z.kp F' → RpAll ⟨X.K, fa, T⟩ F' m' cvs cs) ∧ ∀ us, good us = fn (us ++ cs)
def dGood (i n : Nat) (good : List U → M U) (da : DA) : DE := fun ρ => match ρ[i]? with
  | some (some (.fn 0)) => bnd (da ρ) fun us => if us.length = n then noErr (good us) else stk
  | _ => stk
theorem dp_good {i k n : Nat} {x : Str} {good : List U → M U} {e : Expr} {es : List Expr} {da : DA} {p pos : Pos} (G : CloAt X fa T k n good) (hr : Room k X.A) (hN : X.N[i]? = some x) (hv : Vis X.env.scope x)
    (ha : CA' X fa T W (e :: es) da) (hdb : (x == ("__debug__" : Str)) = false := by decide) (hcd : (x == ("__classdict__" : Str)) = false := by decide)
    (he : starEach (e :: es) X.env = (false, eval e X.env) :: starEach es X.env := by rfl) (hpl : (backTo pos (starEach es X.env)).any (·.1) = false := by rfl) : CE' X fa T W (.Call (.Name x p) (e :: es) [] pos) (dGood i n good da) := ⟨fun pins s σ H Q I ⟨ρ, μ, m, F0, o, r, h⟩ => by
  obtain ⟨f, F, ps, fr, cvs, cs, fn, hf0, kf, kc, C, hx, Fn, hcs, hg⟩ := G.ex
  unfold dGood at h
  cases e1 : ρ[i]? with
  | none =>
    simp only [e1] at h
    exact h.elim
  | some w1 =>
    cases w1 with
    | none =>
      simp only [e1] at h
      exact h.elim
    | some u1 =>
      cases u1 with
      | fn j =>
        cases j with
        | succ j =>
          simp only [e1] at h
          exact h.elim
        | zero =>
          simp only [e1] at h
          obtain ⟨v, h1, h2⟩ := r.2 i _ e1
          cases h2
          rw [show (gp X fa T).fa 0 = .ref f from hf0] at h1
          have h3 : canA (gp X fa T) W da σ H (fun vs H2 => ∃ F2 μ2 m2 us, Ok (gp X fa T) F2 μ2 m2 H2 ∧ RpAll (gp X fa T) F2 m2 vs us ∧ us.length = n ∧ Post (gp X fa T) (RU (gp X fa T)) (noErr (good us) μ2) F2 H2 m2 Q (fun c d H' => W c d σ H')) :=
            useA o r h fun us μ1 vs F1 H1 m1 e1 o1 r1 q1 p1 => by
              by_cases hl : us.length = n
              · rw [if_pos hl] at p1
                exact ⟨F1, μ1, m1, us, o1, q1, hl, p1⟩
              · rw [if_neg hl] at p1
                exact p1.elim
          refine wpAny_Call_Name_kw (thn ((pe_var (pos := p) hN hv hdb hcd).run pins s σ H (fun v H1 => v = .ref f ∧ H1 = H) I ⟨.ref f, h1, rfl, rfl⟩) fun u s1 ⟨v, H1, I1, r1, q1⟩ => ?_)
          obtain ⟨rfl, rfl⟩ := q1
          cases r1
          refine PySem.W.callWith_F (first := []) (fnAt_of I1 (o.kn _ kf).1) (thn (ha.run pos pins s1 σ _ _ I1 h3) fun us s2 ⟨vs, H2, I2, r, q⟩ => ?_) he hpl
          obtain ⟨F2, μ2, m2, us', o2, q2, hl, p2⟩ := q
          refine ⟨fnAt_of I2 (o2.kn _ kf).1, ?_⟩
          refine run_w (E := E0) Fn hr passN0 I2 (o2.kn _ kf).1 (o2.kn _ kc).1 (cells_later C hx I2) r ⟨by rw [q2.len]; exact hl, F2, μ2, m2, us', cs, cvs, rfl, o2, q2, hcs F2 m2 o2.kp, ?_⟩
          rw [← hg]
          unfold noErr at p2
          cases e : good us' μ2 with
          | ok u μ3 =>
            rw [e] at p2
            exact p2
          | err er μ3 =>
            rw [e] at p2
            exact p2.elim
          | stuck =>
            rw [e] at p2
            exact p2.elim
      | d _ =>
        simp only [e1] at h
        exact h.elim
      | m _ =>
        simp only [e1] at h
        exact h.elim
      | tu _ =>
        simp only [e1] at h
        exact h.elim
      | li _ =>
        simp only [e1] at h
        exact h.elim⟩
/-! ### handed on -/
def capsOf : List Nat → Env' → Option (List PyData)
  | [], _ => some []
  | j :: js, ρ => match ρ[j]? with
    | some (some (.d x)) => (match capsOf js ρ with
      | some xs => some (x :: xs)
      | none => none)
    | _ => none
theorem capsOf_rp {g : Gp} {F : Hp} {m : List Addr} {σ : L2.St} {ρ : Env'} (r : EnvR g F m σ ρ) : ∀ {js : List Nat} {xs : List PyData}, capsOf js ρ = some xs → ∃ cvs : List V, js.map (slotAt σ) = cvs.map some ∧ DqAll g.K F cvs xs
  | [], xs, h => by cases h; exact ⟨[], rfl, .nil⟩
  | j :: js, xs, h => by
    unfold capsOf at h
    split at h
    · rename_i x e
      split at h
      · rename_i ys e2
        cases h
        obtain ⟨cvs, h1, h2⟩ := capsOf_rp r e2
        obtain ⟨v, k1, k2⟩ := r.2 j _ e
        cases k2 with
        | d k2 => exact ⟨v :: cvs, by rw [List.map_cons, List.map_cons, h1, slotAt_of k1], .cons k2 h2⟩
      · cases h
    · cases h
def dCallHO (js : List Nat) (n : Nat) (fn : List U → List U → M U) (da : DA) : DE := fun ρ => match capsOf js ρ with
  | some xs => bnd (da ρ) fun us => if us.length = n then noErr (fn (xs.map .d) us) else stk
  | none => stk
/-- .. the captured ones known -/
abbrev TZ.cap (T : TZ) (K : PySem.W.Frag) (cvs : List V) (xs : List PyData) : TZ := ⟨T.tabs, ⟨T.z.kn, fun F => T.z.kp F ∧ DqAll K F cvs xs, fun _ _ e h => ⟨T.z.mono _ _ e h.1, DqAll.mo e _ _ h.2⟩⟩⟩
theorem Ok.cap {K : PySem.W.Frag} {F H : Hp} {μ : List MO} {m : List Addr} {cvs : List V} {xs : List PyData} (o : Ok ⟨K, fa, T⟩ F μ m H) (h : DqAll K F cvs xs) : Ok ⟨K, fa, T.cap K cvs xs⟩ F μ m H :=
  ⟨o.ex, o.len, o.nd, o.nf, o.nt, fun i a w h1 h2 => (o.at_ i a w h1 h2).tz, o.tab, o.kn, o.kp, h⟩
theorem Ok.uncap {K : PySem.W.Frag} {F H : Hp} {μ : List MO} {m : List Addr} {cvs : List V} {xs : List PyData} (o : Ok ⟨K, fa, T.cap K cvs xs⟩ F μ m H) : Ok ⟨K, fa, T⟩ F μ m H :=
  ⟨o.ex, o.len, o.nd, o.nf, o.nt, fun i a w h1 h2 => (o.at_ i a w h1 h2).tz, o.tab, o.kn, o.kp.1⟩
end
end DL

/-! The data layer, part 25: a made function handed to a def of the module. -/
namespace DL
open PySem PySem.Spec PyProof.Rows L2 Evl LamX NdefX
section
variable {X : Cx} {fa : Nat → V} {T : TZ} {W : WX}
theorem post_cap {K : PySem.W.Frag} {x : M U} {μ : List MO} {F H : Hp} {m : List Addr} {cvs : List V} {xs : List PyData} {Q : VK} {W' : Value → Option Addr → Hp → Prop} {E : XK} (h : Post ⟨K, fa, T⟩ (RU ⟨K, fa, T⟩) (noErr x μ) F H m Q W') : Post ⟨K, fa, T.cap K cvs xs⟩ (RU ⟨K, fa, T.cap K cvs xs⟩) (x μ) F H m Q (fun c d H' => E c d H') := by
  unfold noErr at h
  cases e : x μ with
  | ok u μ3 =>
    rw [e] at h
    exact fun b F' H' m' gr o' rv => h b F' H' m' gr o'.uncap (Rp.tz _ _ rv)
  | err er μ3 =>
    rw [e] at h
    exact h.elim
  | stuck =>
    rw [e] at h
    exact h.elim
theorem dp_callHO {x : Str} {g : Addr} {pg : Arguments} {bg : List Stmt} {sg : Scope} {fdg : FuncData} {Ng ps : List Str} {n nn kb k : Nat} {js : List Nat} {f : Addr} {F : NF} {psC fr : List Str} {nC : Nat} {clo : List U → M U} {dg : (List U → M U) → DS} {e : Expr} {es : List Expr} {da : DA} {p pos : Pos}
    (hg : Gl X x) (hm : X.mg x = some (.ref g)) (Fg : FunD X.K x x pg bg sg [] [] g fdg) (hb : Binds X.K fdg ps []) (Sg : FnScope Ng ps sg) (hNg : Ng.length = nn) (hps : ps.length = n) (hr : Room (kb + 1) X.A)
    (hf0 : fa 0 = .ref f) (kf : (f, FnO f F) ∈ T.z.kn) (kc : (F.c, CodeO F.c F.qual) ∈ T.z.kn) (cp : X.Ok → Caps X F.cl fr js)
    (Fn : ∀ cvs xs, NOk X.prog X.w X.K X.mg X.base (L2N.CX X.prog X.w) k f F psC fr (spN ⟨X.K, fa, T.cap X.K cvs xs⟩ nC clo))
    (body : ∀ (cvs : List V) (xs : List PyData) (cdv : Value) (A : Around) (outer : List Env) (s : Shared) (H : Hp) (E : XK) (good : List U → M U), CloAt (cxOf (L2N.CX X.prog X.w) X.prog X.w X.K X.mg X.base Ng x sg g cdv A outer s H E) fa (T.cap X.K cvs xs) k nC good → Room kb (A.deeper (envOfC x sg s.heap.objs.size g cdv)) →
      CSs (cxOf (L2N.CX X.prog X.w) X.prog X.w X.K X.mg X.base Ng x sg g cdv A outer s H E) fa (T.cap X.K cvs xs) (fun cls d _ H => E cls d H) bg (dg good))
    (ha : CA' X fa T W (e :: es) da) (hdb : (x == ("__debug__" : Str)) = false := by decide)
    (he : starEach (e :: es) X.env = (false, eval e X.env) :: starEach es X.env := by rfl) (hpl : (backTo pos (starEach es X.env)).any (·.1) = false := by rfl) :
    CE' X fa T W (.Call (.Name x p) (e :: es) [] pos) (dCallHO js n (fun cs us => bodyD nn n (dg fun vs => clo (vs ++ cs)) us) da) := ⟨fun pins s σ H Q I ⟨ρ, μ, m, F0, o, r, h⟩ => by
  subst hNg hps
  unfold dCallHO at h
  cases ec : capsOf js ρ with
  | none =>
    simp only [ec] at h
    exact h.elim
  | some xs =>
    simp only [ec] at h
    have h3 : canA (gp X fa T) W da σ H (fun vs H2 => ∃ F2 μ2 m2 us, Ok (gp X fa T) F2 μ2 m2 H2 ∧ EnvR (gp X fa T) F2 m2 σ ρ ∧ RpAll (gp X fa T) F2 m2 vs us ∧ us.length = ps.length ∧ Post (gp X fa T) (RU (gp X fa T)) (noErr (bodyD Ng.length ps.length (dg fun vs => clo (vs ++ xs.map U.d)) us) μ2) F2 H2 m2 Q (fun c d H' => W c d σ H')) :=
      useA o r h fun us μ1 vs F1 H1 m1 e1 o1 r1 q1 p1 => by
        by_cases hl : us.length = ps.length
        · rw [if_pos hl] at p1
          exact ⟨F1, μ1, m1, us, o1, r1, q1, hl, p1⟩
        · rw [if_neg hl] at p1
          exact p1.elim
    refine wpAny_Call_Name_kw (ld_glob I hg hm ?_ hdb)
    refine PySem.W.callWith_K (h₀ := X.base) I.ok.mod.kin Fg.kp (thn (ha.run pos pins s σ _ _ I h3) fun us s2 ⟨vs, H2, I2, rv, q⟩ => ⟨I2.kIn, ?_⟩) he hpl
    obtain ⟨F2, μ2, m2, us', o2, r2, q2, hl, p2⟩ := q
    obtain ⟨cvs, hc1, hc2⟩ := capsOf_rp r2 ec
    obtain ⟨oc, od, dV, kV, doc, pm, an, cdv, ct, osl, rfl, lk, hcg, _, _⟩ := Fg.ex
    have hvl : vs.length = ps.length := by rw [q2.len]; exact hl
    have hul : us.length = ps.length := by rw [← rv.length]; exact hvl
    have rc : codeAny (model X.prog X.w) X.A (.call (.ref g) ⟨us, []⟩) (CR (L2N.CX X.prog X.w) X.stack X.prog X.w H2 s2 Q E0) s2 := by
      have hbb := hb s2 us I2.kIn (by rw [List.append_nil]; exact hul)
      rw [List.append_nil] at hbb
      refine run_ofS (N := Ng) (ps := ps) (us := us) (vs := vs) lk hcg Sg hr I2.env0 hbb rv hvl fun hr' => ?_
      have pc := post_cap (cvs := cvs) (xs := xs) (E := E0) p2
      refine ⟨_, body cvs xs cdv X.A X.stack s2 H2 E0 (fun vs => clo (vs ++ xs.map U.d)) ⟨f, F, psC, fr, cvs, xs.map U.d, clo, hf0, kf, kc, ?_, fun y c e z => absurd z List.not_mem_nil, Fn cvs xs, fun F' m' hk => rp_ds hk.2, fun us => rfl⟩ hr', startE Ng.length us', μ2, m2, F2, o2.cap hc2, start_env (RpAll.tz _ _ q2), body_post (n := ps.length) pc⟩
      have := cells_of I2 (cp I2.ok)
      rw [hc1] at this
      exact this
    refine wpAny_call (codeAny_mono rc fun r s' hq => ?_)
    cases r with
    | error e => exact passN0 pins σ H2 s2 e s' I2 hq
    | ok fl =>
      cases fl with
      | ret u => exact I2.after hq
      | next => exact False.elim hq
      | brk => exact False.elim hq
      | cont => exact False.elim hq⟩
end
end DL

/-! The data layer, part 26: xs.index(n). -/
namespace DL
open PySem PySem.Spec PyProof.Rows L2 Evl LamX
def dIdx (a b : DE) : DE := fun ρ => bnd (a ρ) fun u => match u with
  | .d (.list xs) => bnd (b ρ) fun v => (match v with
    | .d (.int i) => (match intsOf xs with
      | some ns => if i ∈ ns then pur (.d (.int (ns.idxOf i : Nat))) else stk
      | none => stk)
    | _ => stk)
  | _ => stk
theorem r_idx {a b : DE} {ρ : Env'} {μ μ1 μ2 : List MO} {ns : List Int} {i : Int} (ha : a ρ μ = .ok (.d (.list (ns.map .int))) μ1) (hb : b ρ μ1 = .ok (.d (.int i)) μ2) (hi : i ∈ ns) : dIdx a b ρ μ = .ok (.d (.int (ns.idxOf i : Nat))) μ2 := by
  unfold dIdx
  rw [e_bnd, ha]
  dsimp only
  rw [e_bnd, hb]
  dsimp only
  rw [intsOf_map]
  dsimp only
  rw [if_pos hi]
  rfl
theorem flat_ints (ns : List Int) : (ns.map V.int).all flatV = true := by
  rw [List.all_map]
  exact List.all_eq_true.mpr fun _ _ => rfl
section
variable {X : Cx} {fa : Nat → V} {T : TZ} {W : WX}
theorem dp_idx {o e : Expr} {eo de : DE} {apos cpos : Pos} (ho : CE' X fa T W o eo) (he : CE' X fa T W e de) (hbase : attributeBase o "index" X.env (eval o X.env) = eval o X.env := by rfl)
    (hfew : ((backTo cpos (starEach [e] X.env)).all (fun x => !x.1) && (backToKw cpos (keywordEach [] X.env)).all (fun x => x.1.isSome)
      && decide ([e].length + ([] : List Keyword).length + (if ([] : List Keyword).isEmpty then 0 else 1) < 30)) = true := by rfl)
    (hline : (apos.endLine == cpos.line) = true := by rfl) (hs : starEach [e] X.env = (false, eval e X.env) :: starEach [] X.env := by rfl) (hplain : (backTo cpos (starEach [] X.env)).any (·.1) = false := by rfl) :
    CE' X fa T W (.Call (.Attribute o "index" apos) [e] [] cpos) (dIdx eo de) :=
  mkE (pe_bm F.plainAttrs_list F.slot_list_index F.type_list_index mt_index ho (pa_cons he pa_nil hs) hbase hfew hline hs hplain) fun ρ μ m F σ H Q o r h =>
    useE o r h fun uo μ1 v1 F1 H1 m1 e1 o1 r1 q1 p1 => by
      cases uo with
      | d x =>
        cases x with
        | list xs =>
          obtain ⟨a, vs, rfl, b1, b2⟩ := rp_dl q1
          refine ⟨.inl ⟨rfl, vs, ex_l o1.ex b1⟩, useE o1 r1 p1 fun u μ2 v2 F2 H2 m2 e2 o2 r2 q2 p2 => ?_⟩
          cases u with
          | d y =>
            cases y with
            | int i =>
              cases ei : intsOf xs with
              | none =>
                simp only [ei] at p2
                exact p2.elim
              | some ns =>
                simp only [ei] at p2
                by_cases hi : i ∈ ns
                · rw [if_pos hi] at p2
                  rw [intsOf_eq ei] at b2
                  have hv := dq_ints b2
                  subst hv
                  cases q2 with
                  | d q2 =>
                    cases q2
                    have hj : ns.idxOf i < ns.length := List.idxOf_lt_length_iff.mpr hi
                    refine ⟨a, ns.map V.int, .int i, ns.idxOf i, .int i, rfl, rfl, ex_l o2.ex (ex_l e2.ef b1), rfl, flat_ints ns, ?_, by simp [eqV], fun k z hk hz => ?_, post_here p2 o2 (.d (.int _))⟩
                    · rw [List.getElem?_map, List.getElem?_eq_getElem hj, List.getElem_idxOf hj]
                      rfl
                    · rw [List.getElem?_map] at hz
                      cases hg : ns[k]? with
                      | none => rw [hg] at hz; cases hz
                      | some w =>
                        rw [hg] at hz
                        cases hz
                        have hkl := (List.getElem?_eq_some_iff.mp hg).1
                        have hw := (List.getElem?_eq_some_iff.mp hg).2
                        have := List.not_of_lt_findIdx (p := (· == i)) hk
                        show (w == i) = false
                        rw [← hw]
                        simpa using this
                · rw [if_neg hi] at p2
                  exact p2.elim
            | _ => exact p2.elim
          | _ => exact p2.elim
        | _ => exact p1.elim
      | _ => exact p1.elim
/-- a sum of lists that will be changed -/
def dAddM (a b : DE) : DE := fun ρ => bnd (a ρ) fun u => bnd (b ρ) fun v μ => match u, v with
  | .d (.list xs), .d (.list ys) => if xs.length + ys.length ≤ big then .ok (.m μ.length) (μ ++ [.lst (xs ++ ys)]) else .stuck
  | _, _ => .stuck
theorem r_addM {a b : DE} {ρ : Env'} {μ μ1 μ2 : List MO} {xs ys : List PyData} (ha : a ρ μ = .ok (.d (.list xs)) μ1) (hb : b ρ μ1 = .ok (.d (.list ys)) μ2) (hl : xs.length + ys.length ≤ 1000) : dAddM a b ρ μ = .ok (.m μ2.length) (μ2 ++ [.lst (xs ++ ys)]) := by
  unfold dAddM
  rw [e_bnd, ha]
  dsimp only
  rw [e_bnd, hb]
  dsimp only
  rw [if_pos (Nat.le_trans hl (by decide))]
theorem dp_addM {a b : Expr} {da db : DE} {pos : Pos} (ha : CE' X fa T W a da) (hb : CE' X fa T W b db) : CE' X fa T W (.BinOp a .Add b pos) (dAddM da db) :=
  mkE (pe_op op_catR ha hb) fun ρ μ m F σ H Q o r h => useE o r h fun u μ1 v1 F1 H1 m1 e1 o1 r1 q1 p1 => useE o1 r1 p1 fun u2 μ2 v2 F2 H2 m2 e2 o2 r2 q2 p2 => by
    cases u with
    | d x =>
      cases x with
      | list xs =>
        cases u2 with
        | d y =>
          cases y with
          | list ys =>
            obtain ⟨a, vs, rfl, b1, b2⟩ := rp_dl q1
            obtain ⟨b, ws, rfl, c1, c2⟩ := rp_dl q2
            have p2 : Post (gp X fa T) (RU (gp X fa T)) (if xs.length + ys.length ≤ big then .ok (.m μ2.length) (μ2 ++ [.lst (xs ++ ys)]) else .stuck) F2 H2 m2 Q (fun c d H' => W c d σ H') := p2
            by_cases hl : xs.length + ys.length ≤ big
            · rw [if_pos hl] at p2
              refine ⟨a, b, vs, ws, rfl, rfl, ex_l o2.ex (ex_l e2.ef b1), ex_l o2.ex c1, by rw [b2.len, c2.len]; exact big_line hl, fun p hp => ?_⟩
              obtain ⟨o3, e3⟩ := o2.alloc (u := .lst (vs ++ ws)) (mo := .lst (xs ++ ys)) hp (fun _ z => by cases z) ⟨vs ++ ws, upd_same, (DqAll.mo e2.ef _ _ b2).app c2⟩
              exact p2 _ _ _ _ e3 o3 (rp_new o2)
            · rw [if_neg hl] at p2
              exact p2.elim
          | _ => exact p2.elim
        | _ => exact p2.elim
      | _ => cases u2 <;> exact p2.elim
    | _ => exact p2.elim
end
end DL

/-! The data layer, part 27: rules for lists frozen, made functions. -/
namespace DL
open PySem
section
variable {ρ : Env'} {μ μ1 μ2 : List MO} {da : DA} {us : List U} {u : U} {n i k : Nat} {K : Fl × Env' → List MO → Prop}
theorem s_fz {s : DS} {ds : List PyData} (h1 : ρ[i]? = some (some (.m k))) (h2 : μ[k]? = some (.lst ds)) (h : wp (s (ρ.set i (some (.d (.list ds)))) (μ.set k .gone)) K) : wp (dFz i s ρ μ) K := by
  unfold dFz
  rw [h1]
  dsimp only
  rw [h2]
  exact h
theorem r_good {good : List U → M U} (h : ρ[i]? = some (some (.fn 0))) (ha : da ρ μ = .ok us μ1) (hl : us.length = n) (hf : good us μ1 = .ok u μ2) : dGood i n good da ρ μ = .ok u μ2 := by
  unfold dGood
  rw [h]
  show bnd (da ρ) (fun us => if us.length = n then noErr (good us) else stk) μ = _
  rw [e_bnd, ha]
  dsimp only
  rw [if_pos hl]
  unfold noErr
  rw [hf]
theorem r_callHO {js : List Nat} {fn : List U → List U → M U} {xs : List PyData} (h : capsOf js ρ = some xs) (ha : da ρ μ = .ok us μ1) (hl : us.length = n) (hf : fn (xs.map .d) us μ1 = .ok u μ2) : dCallHO js n fn da ρ μ = .ok u μ2 := by
  unfold dCallHO
  rw [h]
  dsimp only
  rw [e_bnd, ha]
  dsimp only
  rw [if_pos hl]
  unfold noErr
  rw [hf]
theorem s_drop {e : DE} {rest : DS} (h : e ρ μ = .ok u μ1) (k : wp (rest ρ μ1) K) : wp (dSeq (dDrop e) rest ρ μ) K := s_seq (r_drop h) k
end
end DL

/-! The data layer, part 28: a made function called within a comprehension. -/
namespace DL
open PySem PySem.Spec PyProof.Rows L2 Evl LamX NdefX
section
variable {X : Cx} {fa : Nat → V} {T : TZ} {W : WX}
theorem post_capE {K : PySem.W.Frag} {r : Res U} {F H : Hp} {m : List Addr} {cvs : List V} {xs : List PyData} {Q : VK} {W' : Value → Option Addr → Hp → Prop} (h : Post ⟨K, fa, T⟩ (RU ⟨K, fa, T⟩) r F H m Q W') : Post ⟨K, fa, T.cap K cvs xs⟩ (RU ⟨K, fa, T.cap K cvs xs⟩) r F H m Q W' := by
  cases r with
  | ok u μ3 => exact fun b F' H' m' gr o' rv => h b F' H' m' gr o'.uncap (Rp.tz _ _ rv)
  | err er μ3 =>
    refine fun cls d F' H' m' gr o' q => h cls d F' H' m' gr o'.uncap ?_
    cases er with
    | own c => exact q
    | fld c f x => exact q
  | stuck => exact h
def dLcC (js : List Nat) (mk : List U → DT) (di : DI) (dg : DG) (te : DE) (vs : List Nat) : DE := fun ρ => match capsOf js ρ with
  | some xs => dLc di dg (mk (xs.map .d)) te vs ρ
  | none => stk
/-- [elt for tg in iter if ..], the test calls a made function -/
theorem dp_lcC {elt tg iter : Expr} {ifs : List Expr} {scope : Scope} {own : List (Str × Nat)} {vs js : List Nat} {pos : Pos} {di : DI} {dg : DG} {mk : (List U → M U) → DT} {te : DE} {f : Addr} {F : NF} {psC fr : List Str} {k nC : Nat} {clo : List U → M U}
    (hf0 : fa 0 = .ref f) (kf : (f, FnO f F) ∈ T.z.kn) (kc : (F.c, CodeO F.c F.qual) ∈ T.z.kn) (cp : X.Ok → Caps X F.cl fr js)
    (Fn : ∀ cvs xs, NOk X.prog X.w X.K X.mg X.base (L2N.CX X.prog X.w) k f F psC fr (spN ⟨X.K, fa, T.cap X.K cvs xs⟩ nC clo))
    (hc : X.calm = true) (hN : X.N.Nodup) (hi : ∀ (cvs : List V) (xs : List PyData), PIP X tg iter (canI (gp X fa (T.cap X.K cvs xs)) W di)) (ok : BlkOk X.N X.env.scope scope own)
    (hg : ∀ (cvs : List V) (xs : List PyData) (s : Shared) (H : Hp) (C : Addr) (cl : List (Str × Addr)) (fp : List Addr), CG' (blkP X s H scope (compEnvC scope cl C X.env) fp) fa (T.cap X.K cvs xs) tg dg)
    (ht : ∀ (cvs : List V) (xs : List PyData) (s : Shared) (H : Hp) (C : Addr) (cl : List (Str × Addr)) (fp : List Addr) (good : List U → M U), CloAt (blkP X s H scope (compEnvC scope cl C X.env) fp) fa (T.cap X.K cvs xs) k nC good → CTs (blkP X s H scope (compEnvC scope cl C X.env) fp) fa (T.cap X.K cvs xs) Wno ifs (mk good))
    (he : ∀ (cvs : List V) (xs : List PyData) (s : Shared) (H : Hp) (C : Addr) (cl : List (Str × Addr)) (fp : List Addr), CE' (blkP X s H scope (compEnvC scope cl C X.env) fp) fa (T.cap X.K cvs xs) Wno elt te)
    (hv : ∀ j ∈ dg.ix, j ∈ own.map (·.2) := by decide) (hvs : own.map (·.2) = vs := by rfl) (hs : ∀ x, foldedSetIterable iter X.env x = pure x := by intro _; rfl) :
    CE' X fa T W (.ListComp elt [⟨tg, iter, ifs, 0⟩] scope pos) (dLcC js (fun cs => mk fun vs => clo (vs ++ cs)) di dg te vs) := ⟨fun pins s σ H Q I ⟨ρ, μ, m, F0, o, r, h⟩ => by
  subst hvs
  unfold dLcC at h
  cases ec : capsOf js ρ with
  | none =>
    simp only [ec] at h
    exact h.elim
  | some xs =>
    simp only [ec] at h
    obtain ⟨cvs, hc1, hc2⟩ := capsOf_rp r ec
    have ol := lc_sim hv ρ μ m F0 σ H Q (o.cap hc2) r.tz (post_capE h)
    rw [eval_ListComp]
    refine lc_hot (Φ := fun s H fp => CellsAt F.cl fr (cvs.map some) s.heap H ∧ ∀ y c, F.cl.lookup y = some c → c ∉ fp) (.inl hc) (fun s H fp I' hx => ?_) hN I (hi cvs xs) ok (hg cvs xs) (fun s H C cl fp φ => ?_) (fun s H C cl fp _ => he cvs xs s H C cl fp) hs ol fun D C s' m H' I' q hn f => ⟨m, hn, fun h'' sb => ?_⟩
    · have := cells_of I' (cp I'.ok)
      rw [hc1] at this
      exact ⟨this, fun y c e z => hx c z y c ((cp I'.ok).sub y c e) rfl⟩
    · exact ht cvs xs s H C cl fp _ ⟨f, F, psC, fr, cvs, xs.map U.d, clo, hf0, kf, kc, φ.1, φ.2, Fn cvs xs, fun F' m' hk => rp_ds hk.2, fun us => rfl⟩
    · obtain ⟨f0, f1, f2, f3, f4, f5⟩ := f
      exact ⟨.ref D, H', I'.turned (t' := s'.toks) (fun b o hb e => (sb.2 b hb).trans e) f0 f1 f3 f4 f5, rfl, q⟩⟩
end
end DL

/-! ## printed from the cut program -/
namespace G31
open PySem PySem.Spec PyProof.Rows L2 Evl LamX HotX L2H NdefX DL
def top (i : Nat) : Stmt := PySem.Challenge.pw_wholerebates_k31_whole_prices_that_are_h.main.body.getD i (.Pass ⟨0, 0, 0, 0⟩)
/-- classes and defs by number -/
def nms0 : List Str := ["?", "RebateError", "InvalidLadder", "InvalidNumber", "InvalidHold", "InvalidRow", "InvalidGroup", "InvalidPrices", "InvalidBills", "InvalidIndex", "InvalidDeal", "NoLadder", "Unlike", "NothingToUndo", "TooMany", "InvalidText", "is_int", "is_step", "is_right_ladder", "is_deal", "can_be_done", "is_right_row", "step_at", "price_at", "cost_of", "pieces_in", "owed_for", "payments_of", "need_ladder", "need_number"]
def nms1 : List Str := ["need_hold", "payments", "bought_for", "paid_for", "ends_of", "merged", "trip_for", "held_in", "round_trip", "held_gains", "_law_source", "_law_pick", "_law_chosen", "_law_by_two", "_law_refused", "_law_error", "_law_steps", "_law_price", "_law_cost", "_law_paid", "_law_stretches", "_law_stretches_right", "_law_numbers", "_law_trip", "_law_right", "_law_refusals", "_law_written", "law"]
def nm (n : Nat) : Str := (nms0 ++ nms1).getD n "?"
def fa (K : PySem.W.Frag) (v : V) : Nat → V := fun n => if n = 0 then v else .ref (He.ga K (nm n))
theorem fa_ne {K : PySem.W.Frag} {v : V} {n : Nat} (h : n ≠ 0) : fa K v n = .ref (He.ga K (nm n)) := if_neg h
def tf : List He.Defn := [("_law_by_two", none), ("_law_right", none), ("_law_refusals", none)]
def Tt (K : PySem.W.Frag) : List (Addr × Str) := [((He.cT K ("_law_by_two", none)).2, ((("_law_by_two" : Str) ++ (".<locals>." : Str)) ++ ("<lambda>" : Str))), ((He.cT K ("_law_right", none)).2, ((("_law_right" : Str) ++ (".<locals>." : Str)) ++ ("_law_gains" : Str))), ((He.cT K ("_law_refusals", none)).2, ((("_law_refusals" : Str) ++ (".<locals>." : Str)) ++ ("<lambda>" : Str)))]
def T (K : PySem.W.Frag) (Z : ZZ) : TZ := ⟨Tt K, Z⟩
def errIds : List Nat := [2, 3, 4, 5]
def clsIds : List Nat := [2, 3, 4, 5, 6, 7, 8, 9, 10, 11, 12, 13, 14, 15]
def errtx (c : Nat) : Option Str := if c = 2 then some "ladder" else if c = 3 then some "number" else if c = 4 then some "hold" else if c = 5 then some "row" else none

/-! ### is_int -/
def N_is_int : List Str := ["value", "low", "high"]
def P_is_int : List Str := ["value", "low", "high"]
def dd_is_int : He.DefD := ⟨("is_int", none), "is_int", "is_int", defArgs (top 22), defBody (top 22), defScope (top 22), [], []⟩
theorem S_is_int : FnScope N_is_int P_is_int (defScope (top 22)) := ⟨rfl, rfl, rfl, by decide +kernel, rfl, by decide +kernel, by decide +kernel⟩
def d_is_int : DS := (dRet (dAndV (dIsa PyData.isInt (dV 0)) (dAndV (dNotV (dIsa PyData.isBool (dV 0))) (dChain leP leP (dV 1) (dV 0) (dV 2)))))
def f_is_int : List U → M U := bodyD 3 3 d_is_int
/-! ### can_be_done -/
def N_can_be_done : List Str := ["pieces", "row", "at"]
def P_can_be_done : List Str := ["pieces", "row"]
def dd_can_be_done : He.DefD := ⟨("can_be_done", none), "can_be_done", "can_be_done", defArgs (top 26), defBody (top 26), defScope (top 26), [], []⟩
theorem S_can_be_done : FnScope N_can_be_done P_can_be_done (defScope (top 26)) := ⟨rfl, rfl, rfl, by decide +kernel, rfl, by decide +kernel, by decide +kernel⟩
def d_can_be_done : DS := (dRet (dUn allP (dLc (dR1 (dCons (dUn lenP (dV 1)) dNil)) (gN 2) dYes (dOp geP (dOp addP (dV 0) (dUn sumP (dSl (dV 1) dNo (dPart (dOp addP (dV 2) (dC (.int (1)))))))) (dC (.int (0)))) [2])))
def f_can_be_done : List U → M U := bodyD 3 2 d_can_be_done
/-! ### step_at -/
def N_step_at : List Str := ["ladder", "number", "border", "price"]
def P_step_at : List Str := ["ladder", "number"]
def dd_step_at : He.DefD := ⟨("step_at", none), "step_at", "step_at", defArgs (top 28), defBody (top 28), defScope (top 28), [], []⟩
theorem S_step_at : FnScope N_step_at P_step_at (defScope (top 28)) := ⟨rfl, rfl, rfl, by decide +kernel, rfl, by decide +kernel, by decide +kernel⟩
def d_step_at : DS := (dRet (dOp subP (dUn lenP (dLc (dSq (dV 0)) (gT 2 (gsCons (gN 2) (gsCons (gN 3) gsNil))) (dTest (dOp leP (dV 2) (dV 1))) (dC (.int (1))) [2, 3])) (dC (.int (1)))))
def f_step_at : List U → M U := bodyD 4 2 d_step_at
/-! ### pieces_in -/
def N_pieces_in : List Str := ["row", "at"]
def P_pieces_in : List Str := ["row"]
def dd_pieces_in : He.DefD := ⟨("pieces_in", none), "pieces_in", "pieces_in", defArgs (top 31), defBody (top 31), defScope (top 31), [], []⟩
theorem S_pieces_in : FnScope N_pieces_in P_pieces_in (defScope (top 31)) := ⟨rfl, rfl, rfl, by decide +kernel, rfl, by decide +kernel, by decide +kernel⟩
def d_pieces_in : DS := (dRet (dTup (dCons (dUn sumP (dV 0)) (dCons (dUn maxP (dOp addP (dLst (dCons (dC (.int (0))) dNil)) (dLc (dR1 (dCons (dUn lenP (dV 0)) dNil)) (gN 1) dYes (dUn sumP (dSl (dV 0) dNo (dPart (dOp addP (dV 1) (dC (.int (1))))))) [1]))) dNil))))
def f_pieces_in : List U → M U := bodyD 2 1 d_pieces_in
/-! ### need_hold -/
def N_need_hold : List Str := ["value"]
def P_need_hold : List Str := ["value"]
def dd_need_hold : He.DefD := ⟨("need_hold", none), "need_hold", "need_hold", defArgs (top 36), defBody (top 36), defScope (top 36), [], []⟩
theorem S_need_hold : FnScope N_need_hold P_need_hold (defScope (top 36)) := ⟨rfl, rfl, rfl, by decide +kernel, rfl, by decide +kernel, by decide +kernel⟩
def d_need_hold : DS := (dIte (dNot (dTest (dIsa PyData.isBool (dV 0)))) (dRaise 4) dSkip)
def f_need_hold : List U → M U := bodyD 1 1 d_need_hold
/-! ### ends_of -/
def N_ends_of : List Str := ["ladder", "border", "price"]
def P_ends_of : List Str := ["ladder"]
def dd_ends_of : He.DefD := ⟨("ends_of", none), "ends_of", "ends_of", defArgs (top 41), defBody (top 41), defScope (top 41), [], []⟩
theorem S_ends_of : FnScope N_ends_of P_ends_of (defScope (top 41)) := ⟨rfl, rfl, rfl, by decide +kernel, rfl, by decide +kernel, by decide +kernel⟩
def d_ends_of : DS := (dRet (dOp addP (dLc (dSq (dSl (dV 0) (dPart (dC (.int (1)))) dNo)) (gT 2 (gsCons (gN 1) (gsCons (gN 2) gsNil))) dYes (dOp subP (dV 1) (dC (.int (1)))) [1, 2]) (dLst (dCons (dC .none) dNil))))
def f_ends_of : List U → M U := bodyD 3 1 d_ends_of
/-! ### merged -/
def N_merged : List Str := ["stretches", "found", "first", "last"]
def P_merged : List Str := ["stretches"]
def dd_merged : He.DefD := ⟨("merged", none), "merged", "merged", defArgs (top 42), defBody (top 42), defScope (top 42), [], []⟩
theorem S_merged : FnScope N_merged P_merged (defScope (top 42)) := ⟨rfl, rfl, rfl, by decide +kernel, rfl, by decide +kernel, by decide +kernel⟩
def d_merged : DS := (dSeq (dAsg 1 (dLst dNil)) (dSeq (dFor (dSq (dV 0)) (gT 2 (gsCons (gN 2) (gsCons (gN 3) gsNil))) (dIte (dAnd (dTest (dOp neP (dV 1) (dLst dNil))) (dTest (dOp eqP (dOp addP (dOp ixP (dOp ixP (dV 1) (dUn negP (dC (.int (1))))) (dC (.int (1)))) (dC (.int (1)))) (dV 2)))) (dAsg 1 (dOp addP (dSl (dV 1) dNo (dPart (dUn negP (dC (.int (1)))))) (dLst (dCons (dTup (dCons (dOp ixP (dOp ixP (dV 1) (dUn negP (dC (.int (1))))) (dC (.int (0)))) (dCons (dV 3) dNil))) dNil)))) (dAsg 1 (dOp addP (dV 1) (dLst (dCons (dTup (dCons (dV 2) (dCons (dV 3) dNil))) dNil)))))) (dRet (dV 1))))
def f_merged : List U → M U := bodyD 4 1 d_merged
/-! ### _law_source -/
def N__law_source : List Str := ["script", "k", "number", "start"]
def P__law_source : List Str := ["script", "k"]
def dd__law_source : He.DefD := ⟨("_law_source", none), "_law_source", "_law_source", defArgs (top 49), defBody (top 49), defScope (top 49), [], []⟩
theorem S__law_source : FnScope N__law_source P__law_source (defScope (top 49)) := ⟨rfl, rfl, rfl, by decide +kernel, rfl, by decide +kernel, by decide +kernel⟩
def d__law_source : DS := (dSeq (dAsg 2 (dC (.int (0)))) (dSeq (dIte (dTest (dOp gtP (dUn lenP (dV 0)) (dV 1))) (dAsg 2 (dUn intP (dOp ixP (dV 0) (dV 1)))) dSkip) (dSeq (dAsg 3 (dOp modP (dOp addP (dOp addP (dOp mulP (dV 2) (dC (.int (16807)))) (dOp mulP (dC (.int (60919))) (dV 1))) (dC (.int (31)))) (dC (.int (2147481173))))) (dSeq (dAsg 3 (dOp addP (dOp addP (dOp modP (dOp mulP (dV 3) (dV 3)) (dC (.int (2147481151)))) (dOp mulP (dC (.int (2))) (dV 1))) (dC (.int (5))))) (dRet (dLstM (dCons (dIf (dTest (dOp geP (dV 2) (dOp powP (dC (.int (10))) (dC (.int (18)))))) (dV 2) (dC (.int (0)))) (dCons (dV 3) dNil))))))))
def f__law_source : List U → M U := bodyD 4 2 d__law_source
/-! ### _law_pick -/
def N__law_pick : List Str := ["source", "many", "found"]
def P__law_pick : List Str := ["source", "many"]
def dd__law_pick : He.DefD := ⟨("_law_pick", none), "_law_pick", "_law_pick", defArgs (top 50), defBody (top 50), defScope (top 50), [], []⟩
theorem S__law_pick : FnScope N__law_pick P__law_pick (defScope (top 50)) := ⟨rfl, rfl, rfl, by decide +kernel, rfl, by decide +kernel, by decide +kernel⟩
def d__law_pick : DS := (dSeq (dIte (dTest (dOp gtP (dOp ixP (dV 0) (dC (.int (0)))) (dC (.int (0))))) (dSeq (dAsg 2 (dOp modP (dUn intP (dOp ixP (dV 0) (dC (.int (0))))) (dV 1))) (dSeq (dSetIx (dV 0) (dC (.int (0))) (dOp divP (dUn intP (dOp ixP (dV 0) (dC (.int (0))))) (dV 1))) (dRet (dV 2)))) dSkip) (dSeq (dSetIx (dV 0) (dC (.int (1))) (dOp modP (dUn intP (dOp addP (dOp mulP (dOp ixP (dV 0) (dC (.int (1)))) (dC (.int (44497)))) (dC (.int (9973))))) (dC (.int (2147483647))))) (dRet (dOp modP (dOp divP (dOp modP (dUn intP (dOp mulP (dOp ixP (dV 0) (dC (.int (1)))) (dOp ixP (dV 0) (dC (.int (1)))))) (dC (.int (2147483399)))) (dC (.int (11)))) (dV 1)))))
def f__law_pick : List U → M U := bodyD 3 2 d__law_pick
/-! ### _law_error -/
def N__law_error : List Str := ["e", "some", "word_so", "good"]
def P__law_error : List Str := ["e"]
def dd__law_error : He.DefD := ⟨("_law_error", none), "_law_error", "_law_error", defArgs (top 54), defBody (top 54), defScope (top 54), [], []⟩
theorem S__law_error : FnScope N__law_error P__law_error (defScope (top 54)) := ⟨rfl, rfl, rfl, by decide +kernel, rfl, by decide +kernel, by decide +kernel⟩
def d__law_error (c : Nat) : DS := (dSeq (dAsg 1 (dLst (dCons (dTup (dCons (dC (.str "ladder")) (dCons (dIsE 0 (c == 2)) dNil))) (dCons (dTup (dCons (dC (.str "number")) (dCons (dIsE 0 (c == 3)) dNil))) dNil)))) (dSeq (dAsg 1 (dOp addP (dV 1) (dLst (dCons (dTup (dCons (dC (.str "hold")) (dCons (dIsE 0 (c == 4)) dNil))) (dCons (dTup (dCons (dC (.str "row")) (dCons (dIsE 0 (c == 5)) dNil))) dNil))))) (dSeq (dAsg 1 (dOp addP (dV 1) (dLst (dCons (dTup (dCons (dC (.str "group")) (dCons (dIsE 0 (c == 6)) dNil))) (dCons (dTup (dCons (dC (.str "prices")) (dCons (dIsE 0 (c == 7)) dNil))) dNil))))) (dSeq (dAsg 1 (dOp addP (dV 1) (dLst (dCons (dTup (dCons (dC (.str "bills")) (dCons (dIsE 0 (c == 8)) dNil))) (dCons (dTup (dCons (dC (.str "index")) (dCons (dIsE 0 (c == 9)) dNil))) dNil))))) (dSeq (dAsg 1 (dOp addP (dV 1) (dLst (dCons (dTup (dCons (dC (.str "deal")) (dCons (dIsE 0 (c == 10)) dNil))) (dCons (dTup (dCons (dC (.str "none")) (dCons (dIsE 0 (c == 11)) dNil))) dNil))))) (dSeq (dAsg 1 (dOp addP (dV 1) (dLst (dCons (dTup (dCons (dC (.str "unlike")) (dCons (dIsE 0 (c == 12)) dNil))) (dCons (dTup (dCons (dC (.str "undo")) (dCons (dIsE 0 (c == 13)) dNil))) dNil))))) (dSeq (dAsg 1 (dOp addP (dV 1) (dLst (dCons (dTup (dCons (dC (.str "many")) (dCons (dIsE 0 (c == 14)) dNil))) (dCons (dTup (dCons (dC (.str "text")) (dCons (dIsE 0 (c == 15)) dNil))) dNil))))) (dRet (dJoin (dC (.str " ")) (dLc (dSqL (dV 1)) (gT 2 (gsCons (gN 2) (gsCons (gN 3) gsNil))) (dTest (dV 3)) (dV 2) [2, 3]))))))))))
/-! ### _law_price -/
def N__law_price : List Str := ["ladder_so", "number", "border_so", "price_so"]
def P__law_price : List Str := ["ladder_so", "number"]
def dd__law_price : He.DefD := ⟨("_law_price", none), "_law_price", "_law_price", defArgs (top 56), defBody (top 56), defScope (top 56), [], []⟩
theorem S__law_price : FnScope N__law_price P__law_price (defScope (top 56)) := ⟨rfl, rfl, rfl, by decide +kernel, rfl, by decide +kernel, by decide +kernel⟩
def d__law_price : DS := (dRet (dOp ixP (dLc (dSq (dV 0)) (gT 2 (gsCons (gN 2) (gsCons (gN 3) gsNil))) (dTest (dOp leP (dV 2) (dV 1))) (dV 3) [2, 3]) (dUn negP (dC (.int (1))))))
def f__law_price : List U → M U := bodyD 4 2 d__law_price
/-! ### _law_stretches -/
def N__law_stretches : List Str := ["some", "found", "number"]
def P__law_stretches : List Str := ["some"]
def dd__law_stretches : He.DefD := ⟨("_law_stretches", none), "_law_stretches", "_law_stretches", defArgs (top 59), defBody (top 59), defScope (top 59), [], []⟩
theorem S__law_stretches : FnScope N__law_stretches P__law_stretches (defScope (top 59)) := ⟨rfl, rfl, rfl, by decide +kernel, rfl, by decide +kernel, by decide +kernel⟩
def d__law_stretches : DS := (dSeq (dAsg 1 (dLstM dNil)) (dSeq (dFor (dSq (dV 0)) (gN 2) (dIte (dAnd (dTest (dOp neP (dV 1) (dLst dNil))) (dTest (dOp eqP (dOp ixP (dOp ixP (dV 1) (dUn negP (dC (.int (1))))) (dC (.int (1)))) (dOp subP (dV 2) (dC (.int (1))))))) (dSetIx (dV 1) (dUn negP (dC (.int (1)))) (dTup (dCons (dOp ixP (dOp ixP (dV 1) (dUn negP (dC (.int (1))))) (dC (.int (0)))) (dCons (dV 2) dNil)))) (dDrop (dApp (dV 1) (dTup (dCons (dV 2) (dCons (dV 2) dNil))))))) (dRet (dV 1))))
def f__law_stretches : List U → M U := fnD 3 1 d__law_stretches
/-! ### is_step -/
def N_is_step : List Str := ["value"]
def P_is_step : List Str := ["value"]
def dd_is_step : He.DefD := ⟨("is_step", none), "is_step", "is_step", defArgs (top 23), defBody (top 23), defScope (top 23), [], []⟩
theorem S_is_step : FnScope N_is_step P_is_step (defScope (top 23)) := ⟨rfl, rfl, rfl, by decide +kernel, rfl, by decide +kernel, by decide +kernel⟩
def d_is_step : DS := (dSeq (dIte (dOr (dNot (dTest (dIsa PyData.isTuple (dV 0)))) (dTest (dOp neP (dUn lenP (dV 0)) (dC (.int (2)))))) (dRet (dC (.bool false))) dSkip) (dRet (dAndV (dCall 3 f_is_int (dCons (dOp ixP (dV 0) (dC (.int (0)))) (dCons (dC (.int (0))) (dCons (dC (.int (1000000000000))) dNil)))) (dCall 3 f_is_int (dCons (dOp ixP (dV 0) (dC (.int (1)))) (dCons (dC (.int (0))) (dCons (dC (.int (1000000))) dNil)))))))
def f_is_step : List U → M U := bodyD 1 1 d_is_step
/-! ### is_deal -/
def N_is_deal : List Str := ["value"]
def P_is_deal : List Str := ["value"]
def dd_is_deal : He.DefD := ⟨("is_deal", none), "is_deal", "is_deal", defArgs (top 25), defBody (top 25), defScope (top 25), [], []⟩
theorem S_is_deal : FnScope N_is_deal P_is_deal (defScope (top 25)) := ⟨rfl, rfl, rfl, by decide +kernel, rfl, by decide +kernel, by decide +kernel⟩
def d_is_deal : DS := (dRet (dAndV (dCall 3 f_is_int (dCons (dV 0) (dCons (dUn negP (dC (.int (1000000000000000000000000000000)))) (dCons (dC (.int (1000000000000000000000000000000))) dNil)))) (dOp neP (dV 0) (dC (.int (0))))))
def f_is_deal : List U → M U := bodyD 1 1 d_is_deal
/-! ### price_at -/
def N_price_at : List Str := ["ladder", "number"]
def P_price_at : List Str := ["ladder", "number"]
def dd_price_at : He.DefD := ⟨("price_at", none), "price_at", "price_at", defArgs (top 29), defBody (top 29), defScope (top 29), [], []⟩
theorem S_price_at : FnScope N_price_at P_price_at (defScope (top 29)) := ⟨rfl, rfl, rfl, by decide +kernel, rfl, by decide +kernel, by decide +kernel⟩
def d_price_at : DS := (dRet (dOp ixP (dOp ixP (dV 0) (dCall 2 f_step_at (dCons (dV 0) (dCons (dV 1) dNil)))) (dC (.int (1)))))
def f_price_at : List U → M U := bodyD 2 2 d_price_at
/-! ### need_number -/
def N_need_number : List Str := ["value", "low", "high"]
def P_need_number : List Str := ["value", "low", "high"]
def dd_need_number : He.DefD := ⟨("need_number", none), "need_number", "need_number", defArgs (top 35), defBody (top 35), defScope (top 35), [], []⟩
theorem S_need_number : FnScope N_need_number P_need_number (defScope (top 35)) := ⟨rfl, rfl, rfl, by decide +kernel, rfl, by decide +kernel, by decide +kernel⟩
def d_need_number : DS := (dIte (dNot (dTest (dCall 3 f_is_int (dCons (dV 0) (dCons (dV 1) (dCons (dV 2) dNil)))))) (dRaise 3) dSkip)
def f_need_number : List U → M U := bodyD 3 3 d_need_number
/-! ### trip_for -/
def N_trip_for : List Str := ["ladder", "number", "later", "border", "price"]
def P_trip_for : List Str := ["ladder", "number"]
def dd_trip_for : He.DefD := ⟨("trip_for", none), "trip_for", "trip_for", defArgs (top 44), defBody (top 44), defScope (top 44), [], []⟩
theorem S_trip_for : FnScope N_trip_for P_trip_for (defScope (top 44)) := ⟨rfl, rfl, rfl, by decide +kernel, rfl, by decide +kernel, by decide +kernel⟩
def d_trip_for : DS := (dSeq (dIte (dTest (dOp eqP (dV 1) (dC (.int (0))))) (dRet (dTup (dCons (dC (.int (0))) (dCons (dC (.int (0))) dNil)))) dSkip) (dSeq (dAsg 2 (dSl (dV 0) (dPart (dCall 2 f_step_at (dCons (dV 0) (dCons (dV 1) dNil)))) dNo)) (dRet (dUn minP (dLc (dSq (dV 2)) (gT 2 (gsCons (gN 3) (gsCons (gN 4) gsNil))) dYes (dTup (dCons (dOp mulP (dV 1) (dV 4)) (dCons (dOp max2P (dV 1) (dV 3)) dNil))) [3, 4])))))
def f_trip_for : List U → M U := bodyD 5 2 d_trip_for
/-! ### _law_chosen -/
def N__law_chosen : List Str := ["source", "things"]
def P__law_chosen : List Str := ["source", "things"]
def dd__law_chosen : He.DefD := ⟨("_law_chosen", none), "_law_chosen", "_law_chosen", defArgs (top 51), defBody (top 51), defScope (top 51), [], []⟩
theorem S__law_chosen : FnScope N__law_chosen P__law_chosen (defScope (top 51)) := ⟨rfl, rfl, rfl, by decide +kernel, rfl, by decide +kernel, by decide +kernel⟩
def d__law_chosen : DS := (dRet (dOp ixP (dV 1) (dCall 2 f__law_pick (dCons (dV 0) (dCons (dUn lenP (dV 1)) dNil)))))
def f__law_chosen : List U → M U := bodyD 2 2 d__law_chosen
/-! ### _law_refused -/
def N__law_refused : List Str := ["call", "e"]
def P__law_refused : List Str := ["call"]
def dd__law_refused : He.DefD := ⟨("_law_refused", none), "_law_refused", "_law_refused", defArgs (top 53), defBody (top 53), defScope (top 53), [], []⟩
theorem S__law_refused : FnScope N__law_refused P__law_refused (defScope (top 53)) := ⟨rfl, rfl, rfl, by decide +kernel, rfl, by decide +kernel, by decide +kernel⟩
/-! ### _law_cost -/
def N__law_cost : List Str := ["ladder_so", "number"]
def P__law_cost : List Str := ["ladder_so", "number"]
def dd__law_cost : He.DefD := ⟨("_law_cost", none), "_law_cost", "_law_cost", defArgs (top 57), defBody (top 57), defScope (top 57), [], []⟩
theorem S__law_cost : FnScope N__law_cost P__law_cost (defScope (top 57)) := ⟨rfl, rfl, rfl, by decide +kernel, rfl, by decide +kernel, by decide +kernel⟩
def d__law_cost : DS := (dRet (dOp mulP (dV 1) (dCall 2 f__law_price (dCons (dV 0) (dCons (dV 1) dNil)))))
def f__law_cost : List U → M U := bodyD 2 2 d__law_cost
/-! ### _law_numbers -/
def N__law_numbers : List Str := ["source", "ladder_so", "found", "border_so", "price_so", "more"]
def P__law_numbers : List Str := ["source", "ladder_so"]
def dd__law_numbers : He.DefD := ⟨("_law_numbers", none), "_law_numbers", "_law_numbers", defArgs (top 61), defBody (top 61), defScope (top 61), [], []⟩
theorem S__law_numbers : FnScope N__law_numbers P__law_numbers (defScope (top 61)) := ⟨rfl, rfl, rfl, by decide +kernel, rfl, by decide +kernel, by decide +kernel⟩
def d__law_numbers : DS := (dSeq (dAsg 2 (dLst (dCons (dC (.int (0))) (dCons (dC (.int (1))) (dCons (dOp powP (dC (.int (10))) (dC (.int (30)))) (dCons (dCall 2 f__law_pick (dCons (dV 0) (dCons (dOp powP (dC (.int (10))) (dC (.int (9)))) dNil))) dNil)))))) (dSeq (dFor (dSq (dV 1)) (gT 2 (gsCons (gN 3) (gsCons (gN 4) gsNil))) (dAsg 2 (dOp addP (dOp addP (dV 2) (dLc (dSq (dTup (dCons (dUn negP (dC (.int (2)))) (dCons (dUn negP (dC (.int (1)))) (dCons (dC (.int (0))) (dCons (dC (.int (1))) dNil)))))) (gN 5) dYes (dOp max2P (dC (.int (0))) (dOp addP (dV 3) (dV 5))) [5])) (dLst (dCons (dCall 2 f__law_pick (dCons (dV 0) (dCons (dOp addP (dV 3) (dC (.int (2)))) dNil))) dNil))))) (dRet (dV 2))))
def f__law_numbers : List U → M U := bodyD 6 2 d__law_numbers
/-! ### is_right_ladder -/
def N_is_right_ladder : List Str := ["value", "one", "other", "step"]
def P_is_right_ladder : List Str := ["value"]
def dd_is_right_ladder : He.DefD := ⟨("is_right_ladder", none), "is_right_ladder", "is_right_ladder", defArgs (top 24), defBody (top 24), defScope (top 24), [], []⟩
theorem S_is_right_ladder : FnScope N_is_right_ladder P_is_right_ladder (defScope (top 24)) := ⟨rfl, rfl, rfl, by decide +kernel, rfl, by decide +kernel, by decide +kernel⟩
def d_is_right_ladder : DS := (dSeq (dIte (dOr (dNot (dTest (dIsa PyData.isTuple (dV 0)))) (dOr (dNot (dTest (dChain leP leP (dC (.int (1))) (dUn lenP (dV 0)) (dC (.int (5)))))) (dNot (dTest (dUn allP (dLc (dSq (dV 0)) (gN 3) dYes (dCall 1 f_is_step (dCons (dV 3) dNil)) [3])))))) (dRet (dC (.bool false))) dSkip) (dRet (dAndV (dOp eqP (dOp ixP (dOp ixP (dV 0) (dC (.int (0)))) (dC (.int (0)))) (dC (.int (0)))) (dUn allP (dLc (dZip (dCons (dV 0) (dCons (dSl (dV 0) (dPart (dC (.int (1)))) dNo) dNil))) (gT 2 (gsCons (gN 1) (gsCons (gN 2) gsNil))) dYes (dOp ltP (dOp ixP (dV 1) (dC (.int (0)))) (dOp ixP (dV 2) (dC (.int (0))))) [1, 2])))))
def f_is_right_ladder : List U → M U := bodyD 4 1 d_is_right_ladder
/-! ### is_right_row -/
def N_is_right_row : List Str := ["value", "pieces"]
def P_is_right_row : List Str := ["value"]
def dd_is_right_row : He.DefD := ⟨("is_right_row", none), "is_right_row", "is_right_row", defArgs (top 27), defBody (top 27), defScope (top 27), [], []⟩
theorem S_is_right_row : FnScope N_is_right_row P_is_right_row (defScope (top 27)) := ⟨rfl, rfl, rfl, by decide +kernel, rfl, by decide +kernel, by decide +kernel⟩
def d_is_right_row : DS := (dSeq (dIte (dOr (dNot (dTest (dIsa PyData.isTuple (dV 0)))) (dOr (dTest (dOp gtP (dUn lenP (dV 0)) (dC (.int (30))))) (dNot (dTest (dUn allP (dLc (dSq (dV 0)) (gN 1) dYes (dCall 1 f_is_deal (dCons (dV 1) dNil)) [1])))))) (dRet (dC (.bool false))) dSkip) (dRet (dCall 2 f_can_be_done (dCons (dC (.int (0))) (dCons (dV 0) dNil)))))
def f_is_right_row : List U → M U := bodyD 2 1 d_is_right_row
/-! ### cost_of -/
def N_cost_of : List Str := ["ladder", "number"]
def P_cost_of : List Str := ["ladder", "number"]
def dd_cost_of : He.DefD := ⟨("cost_of", none), "cost_of", "cost_of", defArgs (top 30), defBody (top 30), defScope (top 30), [], []⟩
theorem S_cost_of : FnScope N_cost_of P_cost_of (defScope (top 30)) := ⟨rfl, rfl, rfl, by decide +kernel, rfl, by decide +kernel, by decide +kernel⟩
def d_cost_of : DS := (dRet (dOp mulP (dV 1) (dCall 2 f_price_at (dCons (dV 0) (dCons (dV 1) dNil)))))
def f_cost_of : List U → M U := bodyD 2 2 d_cost_of
/-! ### owed_for -/
def N_owed_for : List Str := ["ladder", "hold", "row", "pieces", "reached"]
def P_owed_for : List Str := ["ladder", "hold", "row"]
def dd_owed_for : He.DefD := ⟨("owed_for", none), "owed_for", "owed_for", defArgs (top 32), defBody (top 32), defScope (top 32), [], []⟩
theorem S_owed_for : FnScope N_owed_for P_owed_for (defScope (top 32)) := ⟨rfl, rfl, rfl, by decide +kernel, rfl, by decide +kernel, by decide +kernel⟩
def d_owed_for : DS := (dSeq (dUnp (gT 2 (gsCons (gN 3) (gsCons (gN 4) gsNil))) (dCall 1 f_pieces_in (dCons (dV 2) dNil))) (dRet (dOp mulP (dV 3) (dCall 2 f_price_at (dCons (dV 0) (dCons (dIf (dTest (dV 1)) (dV 4) (dV 3)) dNil))))))
def f_owed_for : List U → M U := bodyD 5 3 d_owed_for
/-! ### _law_steps -/
def N__law_steps : List Str := ["source", "wide", "most_so", "row_so", "here", "turn"]
def P__law_steps : List Str := ["source", "wide"]
def dd__law_steps : He.DefD := ⟨("_law_steps", none), "_law_steps", "_law_steps", defArgs (top 55), defBody (top 55), defScope (top 55), [], []⟩
theorem S__law_steps : FnScope N__law_steps P__law_steps (defScope (top 55)) := ⟨rfl, rfl, rfl, by decide +kernel, rfl, by decide +kernel, by decide +kernel⟩
def d__law_steps : DS := (dSeq (dPar [2, 3, 4] (dCons (dCall 2 f__law_chosen (dCons (dV 0) (dCons (dLst (dCons (dC (.int (9))) (dCons (dC (.int (9))) (dCons (dC (.int (30))) (dCons (dOp powP (dC (.int (10))) (dC (.int (6)))) dNil))))) dNil))) (dCons (dLstM dNil) (dCons (dC (.int (0))) dNil)))) (dSeq (dFor (dR1 (dCons (dOp addP (dC (.int (1))) (dCall 2 f__law_pick (dCons (dV 0) (dCons (dC (.int (5))) dNil)))) dNil)) (gN 5) (dSeq (dDrop (dApp (dV 3) (dTup (dCons (dV 4) (dCons (dCall 2 f__law_pick (dCons (dV 0) (dCons (dOp addP (dV 2) (dC (.int (1)))) dNil))) dNil))))) (dAsg 4 (dOp addP (dOp addP (dV 4) (dC (.int (1)))) (dCall 2 f__law_pick (dCons (dV 0) (dCons (dV 1) dNil))))))) (dRet (dUn tupP (dV 3)))))
def f__law_steps : List U → M U := fnD 6 2 d__law_steps
/-! ### _law_paid -/
def N__law_paid : List Str := ["ladder_so", "number", "found", "border_so", "price_so"]
def P__law_paid : List Str := ["ladder_so", "number"]
def dd__law_paid : He.DefD := ⟨("_law_paid", none), "_law_paid", "_law_paid", defArgs (top 58), defBody (top 58), defScope (top 58), [], []⟩
theorem S__law_paid : FnScope N__law_paid P__law_paid (defScope (top 58)) := ⟨rfl, rfl, rfl, by decide +kernel, rfl, by decide +kernel, by decide +kernel⟩
def d__law_paid : DS := (dSeq (dAsg 2 (dTup (dCons (dCall 2 f__law_cost (dCons (dV 0) (dCons (dV 1) dNil))) (dCons (dV 1) dNil)))) (dSeq (dFor (dSq (dV 0)) (gT 2 (gsCons (gN 3) (gsCons (gN 4) gsNil))) (dIte (dAnd (dTest (dOp gtP (dV 3) (dV 1))) (dTest (dOp ltP (dOp mulP (dV 3) (dV 4)) (dOp ixP (dV 2) (dC (.int (0))))))) (dAsg 2 (dTup (dCons (dOp mulP (dV 3) (dV 4)) (dCons (dV 3) dNil)))) dSkip)) (dRet (dV 2))))
def f__law_paid : List U → M U := bodyD 5 2 d__law_paid
/-! ### _law_trip -/
def N__law_trip : List Str := ["ladder_so", "number", "found", "border_so", "price_so"]
def P__law_trip : List Str := ["ladder_so", "number"]
def dd__law_trip : He.DefD := ⟨("_law_trip", none), "_law_trip", "_law_trip", defArgs (top 62), defBody (top 62), defScope (top 62), [], []⟩
theorem S__law_trip : FnScope N__law_trip P__law_trip (defScope (top 62)) := ⟨rfl, rfl, rfl, by decide +kernel, rfl, by decide +kernel, by decide +kernel⟩
def d__law_trip : DS := (dSeq (dAsg 2 (dTup (dCons (dCall 2 f__law_cost (dCons (dV 0) (dCons (dV 1) dNil))) (dCons (dV 1) dNil)))) (dSeq (dFor (dSq (dV 0)) (gT 2 (gsCons (gN 3) (gsCons (gN 4) gsNil))) (dIte (dAnd (dTest (dOp gtP (dV 3) (dV 1))) (dTest (dOp ltP (dOp mulP (dV 1) (dV 4)) (dOp ixP (dV 2) (dC (.int (0))))))) (dAsg 2 (dTup (dCons (dOp mulP (dV 1) (dV 4)) (dCons (dV 3) dNil)))) dSkip)) (dRet (dV 2))))
def f__law_trip : List U → M U := bodyD 5 2 d__law_trip
/-! ### payments_of -/
def N_payments_of : List Str := ["ladder", "hold", "row", "owed", "at", "old", "new"]
def P_payments_of : List Str := ["ladder", "hold", "row"]
def dd_payments_of : He.DefD := ⟨("payments_of", none), "payments_of", "payments_of", defArgs (top 33), defBody (top 33), defScope (top 33), [], []⟩
theorem S_payments_of : FnScope N_payments_of P_payments_of (defScope (top 33)) := ⟨rfl, rfl, rfl, by decide +kernel, rfl, by decide +kernel, by decide +kernel⟩
def d_payments_of : DS := (dSeq (dAsg 3 (dLc (dR1 (dCons (dOp addP (dUn lenP (dV 2)) (dC (.int (1)))) dNil)) (gN 4) dYes (dCall 3 f_owed_for (dCons (dV 0) (dCons (dV 1) (dCons (dSl (dV 2) dNo (dPart (dV 4))) dNil)))) [4])) (dRet (dLc (dZip (dCons (dV 3) (dCons (dSl (dV 3) (dPart (dC (.int (1)))) dNo) dNil))) (gT 2 (gsCons (gN 5) (gsCons (gN 6) gsNil))) dYes (dOp subP (dV 6) (dV 5)) [5, 6])))
def f_payments_of : List U → M U := bodyD 7 3 d_payments_of
/-! ### need_ladder -/
def N_need_ladder : List Str := ["value"]
def P_need_ladder : List Str := ["value"]
def dd_need_ladder : He.DefD := ⟨("need_ladder", none), "need_ladder", "need_ladder", defArgs (top 34), defBody (top 34), defScope (top 34), [], []⟩
theorem S_need_ladder : FnScope N_need_ladder P_need_ladder (defScope (top 34)) := ⟨rfl, rfl, rfl, by decide +kernel, rfl, by decide +kernel, by decide +kernel⟩
def d_need_ladder : DS := (dIte (dNot (dTest (dCall 1 f_is_right_ladder (dCons (dV 0) dNil)))) (dRaise 2) dSkip)
def f_need_ladder : List U → M U := bodyD 1 1 d_need_ladder
/-! ### bought_for -/
def N_bought_for : List Str := ["ladder", "number", "later", "border", "price", "more"]
def P_bought_for : List Str := ["ladder", "number"]
def dd_bought_for : He.DefD := ⟨("bought_for", none), "bought_for", "bought_for", defArgs (top 39), defBody (top 39), defScope (top 39), [], []⟩
theorem S_bought_for : FnScope N_bought_for P_bought_for (defScope (top 39)) := ⟨rfl, rfl, rfl, by decide +kernel, rfl, by decide +kernel, by decide +kernel⟩
def d_bought_for : DS := (dSeq (dAsg 2 (dLc (dSq (dSl (dV 0) (dPart (dOp addP (dCall 2 f_step_at (dCons (dV 0) (dCons (dV 1) dNil))) (dC (.int (1))))) dNo)) (gT 2 (gsCons (gN 3) (gsCons (gN 4) gsNil))) dYes (dV 3) [3, 4])) (dRet (dUn minP (dLc (dSq (dOp addP (dLst (dCons (dV 1) dNil)) (dV 2))) (gN 5) dYes (dTup (dCons (dCall 2 f_cost_of (dCons (dV 0) (dCons (dV 5) dNil))) (dCons (dV 5) dNil))) [5]))))
def f_bought_for : List U → M U := bodyD 6 2 d_bought_for
/-! ### payments -/
def N_payments : List Str := ["ladder", "hold", "row"]
def P_payments : List Str := ["ladder", "hold", "row"]
def dd_payments : He.DefD := ⟨("payments", none), "payments", "payments", defArgs (top 37), defBody (top 37), defScope (top 37), [], []⟩
theorem S_payments : FnScope N_payments P_payments (defScope (top 37)) := ⟨rfl, rfl, rfl, by decide +kernel, rfl, by decide +kernel, by decide +kernel⟩
def d_payments : DS := (dSeq (dDrop (dCall 1 f_need_ladder (dCons (dV 0) dNil))) (dSeq (dDrop (dCall 1 f_need_hold (dCons (dV 1) dNil))) (dSeq (dIte (dNot (dTest (dCall 1 f_is_right_row (dCons (dV 2) dNil)))) (dRaise 5) dSkip) (dRet (dCall 3 f_payments_of (dCons (dV 0) (dCons (dV 1) (dCons (dV 2) dNil))))))))
def f_payments : List U → M U := bodyD 3 3 d_payments
/-! ### paid_for -/
def N_paid_for : List Str := ["ladder", "number"]
def P_paid_for : List Str := ["ladder", "number"]
def dd_paid_for : He.DefD := ⟨("paid_for", none), "paid_for", "paid_for", defArgs (top 40), defBody (top 40), defScope (top 40), [], []⟩
theorem S_paid_for : FnScope N_paid_for P_paid_for (defScope (top 40)) := ⟨rfl, rfl, rfl, by decide +kernel, rfl, by decide +kernel, by decide +kernel⟩
def d_paid_for : DS := (dRet (dOp ixP (dCall 2 f_bought_for (dCons (dV 0) (dCons (dV 1) dNil))) (dC (.int (0)))))
def f_paid_for : List U → M U := bodyD 2 2 d_paid_for
/-! ### round_trip -/
def N_round_trip : List Str := ["ladder", "number"]
def P_round_trip : List Str := ["ladder", "number"]
def dd_round_trip : He.DefD := ⟨("round_trip", none), "round_trip", "round_trip", defArgs (top 46), defBody (top 46), defScope (top 46), [], []⟩
theorem S_round_trip : FnScope N_round_trip P_round_trip (defScope (top 46)) := ⟨rfl, rfl, rfl, by decide +kernel, rfl, by decide +kernel, by decide +kernel⟩
def d_round_trip : DS := (dSeq (dDrop (dCall 1 f_need_ladder (dCons (dV 0) dNil))) (dSeq (dDrop (dCall 3 f_need_number (dCons (dV 1) (dCons (dC (.int (0))) (dCons (dC (.int (1000000000000000000000000000000))) dNil))))) (dRet (dCall 2 f_trip_for (dCons (dV 0) (dCons (dV 1) dNil))))))
def f_round_trip : List U → M U := bodyD 2 2 d_round_trip
/-! ### _law_stretches_right -/
def N__law_stretches_right : List Str := ["found", "good", "numbers_so", "last", "pair", "number", "first", "end"]
def P__law_stretches_right : List Str := ["found", "good", "numbers_so"]
def dd__law_stretches_right : He.DefD := ⟨("_law_stretches_right", none), "_law_stretches_right", "_law_stretches_right", defArgs (top 60), defBody (top 60), defScope (top 60), [], []⟩
theorem S__law_stretches_right : FnScope N__law_stretches_right P__law_stretches_right (defScope (top 60)) := ⟨rfl, rfl, rfl, by decide +kernel, rfl, by decide +kernel, by decide +kernel⟩
def d__law_stretches_right (good : List U → M U) : DS := (dSeq (dAsg 3 (dUn negP (dC (.int (2))))) (dSeq (dFor (dSq (dV 0)) (gN 4) (dSeq (dIte (dOr (dNot (dTest (dIsa PyData.isTuple (dV 4)))) (dOr (dTest (dOp neP (dUn lenP (dV 4)) (dC (.int (2))))) (dNot (dTest (dChain ltP leP (dOp addP (dV 3) (dC (.int (1)))) (dOp ixP (dV 4) (dC (.int (0)))) (dOp ixP (dV 4) (dC (.int (1))))))))) (dRet (dC (.bool false))) dSkip) (dSeq (dAsg 3 (dOp ixP (dV 4) (dC (.int (1))))) (dIte (dOr (dNot (dTest (dGood 1 1 good (dCons (dOp ixP (dV 4) (dC (.int (0)))) dNil)))) (dOr (dNot (dTest (dGood 1 1 good (dCons (dV 3) dNil)))) (dOr (dTest (dGood 1 1 good (dCons (dOp addP (dV 3) (dC (.int (1)))) dNil))) (dAnd (dTest (dOp gtP (dOp ixP (dV 4) (dC (.int (0)))) (dC (.int (0))))) (dTest (dGood 1 1 good (dCons (dOp subP (dOp ixP (dV 4) (dC (.int (0)))) (dC (.int (1)))) dNil))))))) (dRet (dC (.bool false))) dSkip)))) (dSeq (dFor (dSq (dV 2)) (gN 5) (dIte (dTest (dOp neP (dGood 1 1 good (dCons (dV 5) dNil)) (dOp neP (dLc (dSq (dV 0)) (gT 2 (gsCons (gN 6) (gsCons (gN 7) gsNil))) (dTest (dChain leP leP (dV 6) (dV 5) (dV 7))) (dC (.int (1))) [6, 7]) (dLst dNil)))) (dRet (dC (.bool false))) dSkip)) (dRet (dC (.bool true))))))
def f__law_stretches_right (good : List U → M U) : List U → M U := bodyD 8 3 (d__law_stretches_right good)
/-! ### held_in -/
def N_held_in : List Str := ["ladder", "at", "border", "price", "last", "held", "first", "later"]
def P_held_in : List Str := ["ladder", "at"]
def dd_held_in : He.DefD := ⟨("held_in", none), "held_in", "held_in", defArgs (top 45), defBody (top 45), defScope (top 45), [], []⟩
theorem S_held_in : FnScope N_held_in P_held_in (defScope (top 45)) := ⟨rfl, rfl, rfl, by decide +kernel, rfl, by decide +kernel, by decide +kernel⟩
def d_held_in : DS := (dSeq (dUnp (gT 2 (gsCons (gN 2) (gsCons (gN 3) gsNil))) (dOp ixP (dV 0) (dV 1))) (dSeq (dPar [4, 5] (dCons (dOp ixP (dCall 1 f_ends_of (dCons (dV 0) dNil)) (dV 1)) (dCons (dUn minP (dLc (dSq (dSl (dV 0) (dPart (dV 1)) dNo)) (gN 7) dYes (dOp ixP (dV 7) (dC (.int (1)))) [7])) dNil))) (dSeq (dIte (dOr (dTest (dOp isNP (dV 4) (dC .none))) (dOr (dTest (dOp eqP (dV 5) (dV 3))) (dTest (dOp eqP (dCall 2 f_paid_for (dCons (dV 0) (dCons (dOp addP (dV 4) (dC (.int (1)))) dNil))) (dC (.int (0))))))) (dRet (dLst dNil)) dSkip) (dSeq (dAsg 6 (dOp max2P (dV 2) (dC (.int (1))))) (dRet (dIf (dTest (dOp leP (dV 6) (dV 4))) (dLst (dCons (dTup (dCons (dV 6) (dCons (dV 4) dNil))) dNil)) (dLst dNil)))))))
def f_held_in : List U → M U := bodyD 8 2 d_held_in
/-! ### held_gains -/
def N_held_gains : List Str := ["ladder", "at", "stretch"]
def P_held_gains : List Str := ["ladder"]
def dd_held_gains : He.DefD := ⟨("held_gains", none), "held_gains", "held_gains", defArgs (top 47), defBody (top 47), defScope (top 47), [], []⟩
theorem S_held_gains : FnScope N_held_gains P_held_gains (defScope (top 47)) := ⟨rfl, rfl, rfl, by decide +kernel, rfl, by decide +kernel, by decide +kernel⟩
def d_held_gains : DS := (dSeq (dDrop (dCall 1 f_need_ladder (dCons (dV 0) dNil))) (dRet (dCall 1 f_merged (dCons (dLc2 (dR1 (dCons (dUn lenP (dV 0)) dNil)) (gN 1) dYes (dSq (dCall 2 f_held_in (dCons (dV 0) (dCons (dV 1) dNil)))) (gN 2) dYes (dV 2) [1, 2] [2]) dNil))))
def f_held_gains : List U → M U := bodyD 3 1 d_held_gains
/-! ### _law_right -/
def N__law_right : List Str := ["source", "ladder_so", "near", "_law_gains", "numbers_so", "number", "found", "row_so"]
def P__law_right : List Str := ["source", "ladder_so", "near"]
def dd__law_right : He.DefD := ⟨("_law_right", none), "_law_right", "_law_right", defArgs (top 63), defBody (top 63), defScope (top 63), [], []⟩
theorem S__law_right : FnScope N__law_right P__law_right (defScope (top 63)) := ⟨rfl, rfl, rfl, by decide +kernel, rfl, by decide +kernel, by decide +kernel⟩
def nd__law_gains : Stmt := (defBody (top 63)).getD 0 (.Pass ⟨0, 0, 0, 0⟩)
def N__law_gains : List Str := ["number", "ladder_so"]
theorem S__law_gains : NScope N__law_gains ["number"] ["ladder_so"] (C8.fnScope nd__law_gains) := nscope_by (by decide +kernel)
def d__law_gains : DS := (dRet (dOp ltP (dOp ixP (dCall 2 f__law_trip (dCons (dV 1) (dCons (dV 0) dNil))) (dC (.int (0)))) (dOp ixP (dCall 2 f__law_paid (dCons (dV 1) (dCons (dV 0) dNil))) (dC (.int (0))))))
def f__law_gains : List U → M U := bodyD 2 (1 + 1) d__law_gains
def d__law_right : DS := (dNdef 3 (dSeq (dAsg 4 (dCall 2 f__law_numbers (dCons (dV 0) (dCons (dV 1) dNil)))) (dSeq (dIte (dTest (dV 2)) (dSeq (dAsg 4 (dUn lrgP (dOp addP (dOp ixP (dOp ixP (dV 1) (dUn negP (dC (.int (1))))) (dC (.int (0)))) (dC (.int (3)))))) (dIte (dTest (dOp neP (dCall 1 f_held_gains (dCons (dV 1) dNil)) (dCall 1 f__law_stretches (dCons (dLcC [1] (fun cs => (fun good => (dTest (dGood 3 1 good (dCons (dV 5) dNil)))) (fun vs => f__law_gains (vs ++ cs))) (dSqL (dV 4)) (gN 5) (dV 5) [5]) dNil)))) (dRet (dC (.bool false))) dSkip)) dSkip) (dSeq (dIte (dNot (dTest (dCallHO [1] 3 (fun cs us => f__law_stretches_right (fun vs => f__law_gains (vs ++ cs)) us) (dCons (dCall 1 f_held_gains (dCons (dV 1) dNil)) (dCons (dV 3) (dCons (dV 4) dNil)))))) (dRet (dC (.bool false))) dSkip) (dSeq (dFor (dSq (dV 4)) (gN 5) (dSeq (dAsg 6 (dCall 2 f_round_trip (dCons (dV 1) (dCons (dV 5) dNil)))) (dSeq (dIte (dTest (dOp neP (dV 6) (dCall 2 f__law_trip (dCons (dV 1) (dCons (dV 5) dNil))))) (dRet (dC (.bool false))) dSkip) (dIte (dTest (dOp gtP (dV 5) (dC (.int (0))))) (dSeq (dAsg 7 (dOp addP (dTup (dCons (dOp ixP (dV 6) (dC (.int (1)))) dNil)) (dIf (dTest (dOp ltP (dV 5) (dOp ixP (dV 6) (dC (.int (1)))))) (dTup (dCons (dOp subP (dV 5) (dOp ixP (dV 6) (dC (.int (1))))) dNil)) (dTup dNil)))) (dIte (dTest (dOp neP (dUn sumP (dCall 3 f_payments (dCons (dV 1) (dCons (dC (.bool true)) (dCons (dV 7) dNil))))) (dOp ixP (dV 6) (dC (.int (0)))))) (dRet (dC (.bool false))) dSkip)) dSkip)))) (dRet (dC (.bool true))))))))
def f__law_right : List U → M U := bodyD 8 3 d__law_right
/-! ### _law_written -/
def N__law_written : List Str := ["one", "two", "three"]
def P__law_written : List Str := []
def dd__law_written : He.DefD := ⟨("_law_written", none), "_law_written", "_law_written", defArgs (top 65), defBody (top 65), defScope (top 65), [], []⟩
theorem S__law_written : FnScope N__law_written P__law_written (defScope (top 65)) := ⟨rfl, rfl, rfl, by decide +kernel, rfl, by decide +kernel, by decide +kernel⟩
def d__law_written : DS := (dSeq (dUnp (gT 3 (gsCons (gN 0) (gsCons (gN 1) (gsCons (gN 2) gsNil)))) (dTup (dCons (dTup (dCons (dTup (dCons (dC (.int (0))) (dCons (dC (.int (10))) dNil))) (dCons (dTup (dCons (dC (.int (10))) (dCons (dC (.int (8))) dNil))) (dCons (dTup (dCons (dC (.int (100))) (dCons (dC (.int (7))) dNil))) dNil)))) (dCons (dTup (dCons (dTup (dCons (dC (.int (0))) (dCons (dC (.int (5))) dNil))) (dCons (dTup (dCons (dC (.int (20))) (dCons (dC (.int (6))) dNil))) dNil))) (dCons (dTup (dCons (dTup (dCons (dC (.int (0))) (dCons (dC (.int (9))) dNil))) (dCons (dTup (dCons (dC (.int (5))) (dCons (dC (.int (0))) dNil))) dNil))) dNil))))) (dSeq (dIte (dTest (dOp neP (dLst (dCons (dCall 2 f_round_trip (dCons (dV 0) (dCons (dC (.int (9))) dNil))) (dCons (dCall 2 f_round_trip (dCons (dV 1) (dCons (dC (.int (5))) dNil))) (dCons (dCall 2 f_round_trip (dCons (dV 2) (dCons (dC (.int (3))) dNil))) dNil)))) (dLst (dCons (dTup (dCons (dC (.int (63))) (dCons (dC (.int (100))) dNil))) (dCons (dTup (dCons (dC (.int (25))) (dCons (dC (.int (5))) dNil))) (dCons (dTup (dCons (dC (.int (0))) (dCons (dC (.int (5))) dNil))) dNil)))))) (dRet (dC (.bool false))) dSkip) (dSeq (dIte (dOr (dTest (dOp neP (dCall 2 f_round_trip (dCons (dV 0) (dCons (dC (.int (0))) dNil))) (dTup (dCons (dC (.int (0))) (dCons (dC (.int (0))) dNil))))) (dTest (dOp neP (dCall 2 f_round_trip (dCons (dV 0) (dCons (dC (.int (200))) dNil))) (dTup (dCons (dC (.int (1400))) (dCons (dC (.int (200))) dNil)))))) (dRet (dC (.bool false))) dSkip) (dSeq (dIte (dTest (dOp neP (dLst (dCons (dCall 1 f_held_gains (dCons (dV 0) dNil)) (dCons (dCall 1 f_held_gains (dCons (dV 1) dNil)) (dCons (dCall 1 f_held_gains (dCons (dV 2) dNil)) dNil)))) (dLst (dCons (dLst (dCons (dTup (dCons (dC (.int (1))) (dCons (dC (.int (99))) dNil))) dNil)) (dCons (dLst dNil) (dCons (dLst dNil) dNil)))))) (dRet (dC (.bool false))) dSkip) (dSeq (dIte (dTest (dOp neP (dCall 1 f_held_gains (dCons (dTup (dCons (dTup (dCons (dC (.int (0))) (dCons (dC (.int (5))) dNil))) (dCons (dTup (dCons (dC (.int (10))) (dCons (dC (.int (2))) dNil))) (dCons (dTup (dCons (dC (.int (30))) (dCons (dC (.int (4))) dNil))) dNil)))) dNil)) (dLst (dCons (dTup (dCons (dC (.int (1))) (dCons (dC (.int (9))) dNil))) dNil)))) (dRet (dC (.bool false))) dSkip) (dSeq (dIte (dTest (dOp neP (dCall 1 f_held_gains (dCons (dTup (dCons (dTup (dCons (dC (.int (0))) (dCons (dC (.int (9))) dNil))) (dCons (dTup (dCons (dC (.int (3))) (dCons (dC (.int (1))) dNil))) (dCons (dTup (dCons (dC (.int (4))) (dCons (dC (.int (2))) dNil))) dNil)))) dNil)) (dLst (dCons (dTup (dCons (dC (.int (1))) (dCons (dC (.int (2))) dNil))) dNil)))) (dRet (dC (.bool false))) dSkip) (dRet (dOp eqP (dCall 1 f_held_gains (dCons (dTup (dCons (dTup (dCons (dC (.int (0))) (dCons (dC (.int (4))) dNil))) (dCons (dTup (dCons (dC (.int (2))) (dCons (dC (.int (3))) dNil))) (dCons (dTup (dCons (dOp powP (dC (.int (10))) (dC (.int (12)))) (dCons (dC (.int (1))) dNil))) dNil)))) dNil)) (dLst (dCons (dTup (dCons (dC (.int (1))) (dCons (dOp subP (dOp powP (dC (.int (10))) (dC (.int (12)))) (dC (.int (1)))) dNil))) dNil))))))))))
def f__law_written : List U → M U := bodyD 3 0 d__law_written
/-- the defs that are handed on -/
def valtab2 (j : Nat) : Option (List U → M U) := if j = 38 then some f_round_trip else none
/-! ### _law_by_two -/
def N__law_by_two : List Str := ["call", "one", "other"]
def P__law_by_two : List Str := ["call", "one", "other"]
def dd__law_by_two : He.DefD := ⟨("_law_by_two", none), "_law_by_two", "_law_by_two", defArgs (top 52), defBody (top 52), defScope (top 52), [], []⟩
theorem S__law_by_two : FnScope N__law_by_two P__law_by_two (defScope (top 52)) := ⟨rfl, rfl, rfl, by decide +kernel, rfl, by decide +kernel, by decide +kernel⟩
def d__law_by_two : DS := (dRet (dRef errtx "" (dCallV 0 2 valtab2 (dCons (dV 1) (dCons (dV 2) dNil)))))
def f__law_by_two : List U → M U := bodyD 3 3 d__law_by_two
/-! ### _law_refusals -/
def N__law_refusals : List Str := ["ladder_so", "odd"]
def P__law_refusals : List Str := ["ladder_so"]
def dd__law_refusals : He.DefD := ⟨("_law_refusals", none), "_law_refusals", "_law_refusals", defArgs (top 64), defBody (top 64), defScope (top 64), [], []⟩
theorem S__law_refusals : FnScope N__law_refusals P__law_refusals (defScope (top 64)) := ⟨rfl, rfl, rfl, by decide +kernel, rfl, by decide +kernel, by decide +kernel⟩
def d__law_refusals : DS := (dSeq (dFor (dSq (dLst (dCons (dC .none) (dCons (dUn negP (dC (.int (1)))) (dCons (dOp addP (dOp powP (dC (.int (10))) (dC (.int (30)))) (dC (.int (1)))) (dCons (dC (.bool true)) dNil)))))) (gN 1) (dIte (dTest (dOp neP (dCall 3 f__law_by_two (dCons (dF 38) (dCons (dV 0) (dCons (dV 1) dNil)))) (dC (.str "number")))) (dRet (dC (.bool false))) dSkip)) (dSeq (dIte (dTest (dOp neP (dCall 3 f__law_by_two (dCons (dF 38) (dCons (dTup dNil) (dCons (dC .none) dNil)))) (dC (.str "ladder")))) (dRet (dC (.bool false))) dSkip) (dRet (dOp eqP (dRef errtx "" (dCall 1 f_held_gains (dCons (dTup (dCons (dTup (dCons (dC (.int (1))) (dCons (dC (.int (5))) dNil))) dNil)) dNil))) (dC (.str "ladder"))))))
def f__law_refusals : List U → M U := bodyD 2 1 d__law_refusals
/-! ### law -/
def N_law : List Str := ["script", "k", "source", "turn", "ladder_so"]
def P_law : List Str := ["script"]
def dd_law : He.DefD := ⟨("law", none), "law", "law", defArgs (top 66), defBody (top 66), defScope (top 66), [], []⟩
theorem S_law : FnScope N_law P_law (defScope (top 66)) := ⟨rfl, rfl, rfl, by decide +kernel, rfl, by decide +kernel, by decide +kernel⟩
def d_law : DS := (dSeq (dFor (dR1 (dCons (dOp max2P (dC (.int (5))) (dOp min2P (dC (.int (12))) (dUn lenP (dV 0)))) dNil)) (gN 1) (dSeq (dAsg 2 (dCall 2 f__law_source (dCons (dV 0) (dCons (dV 1) dNil)))) (dFor (dR1 (dCons (dC (.int (3))) dNil)) (gN 3) (dSeq (dAsg 4 (dCall 2 f__law_steps (dCons (dV 2) (dCons (dCall 2 f__law_chosen (dCons (dV 2) (dCons (dLst (dCons (dC (.int (3))) (dCons (dC (.int (9))) (dCons (dC (.int (20))) dNil)))) dNil))) dNil)))) (dSeq (dIte (dOr (dNot (dTest (dCall 3 f__law_right (dCons (dV 2) (dCons (dV 4) (dCons (dC (.bool true)) dNil)))))) (dNot (dTest (dCall 1 f__law_refusals (dCons (dV 4) dNil))))) (dRet (dC (.bool false))) dSkip) (dIte (dNot (dTest (dCall 3 f__law_right (dCons (dV 2) (dCons (dCall 2 f__law_steps (dCons (dV 2) (dCons (dCall 2 f__law_chosen (dCons (dV 2) (dCons (dLst (dCons (dC (.int (50))) (dCons (dOp powP (dC (.int (10))) (dC (.int (6)))) (dCons (dOp powP (dC (.int (10))) (dC (.int (11)))) dNil)))) dNil))) dNil))) (dCons (dC (.bool false)) dNil)))))) (dRet (dC (.bool false))) dSkip)))))) (dRet (dCall0 f__law_written)))
def f_law : List U → M U := bodyD 5 1 d_law
def fn : List He.DefD := [dd_is_int, dd_is_step, dd_is_right_ladder, dd_is_deal, dd_can_be_done, dd_is_right_row, dd_step_at, dd_price_at, dd_cost_of, dd_pieces_in, dd_owed_for, dd_payments_of, dd_need_ladder, dd_need_number, dd_need_hold, dd_payments, dd_bought_for, dd_paid_for, dd_ends_of, dd_merged, dd_trip_for, dd_held_in, dd_round_trip, dd_held_gains, dd__law_source, dd__law_pick, dd__law_chosen, dd__law_by_two, dd__law_refused, dd__law_error, dd__law_steps, dd__law_price, dd__law_cost, dd__law_paid, dd__law_stretches, dd__law_stretches_right, dd__law_numbers, dd__law_trip, dd__law_right, dd__law_refusals, dd__law_written, dd_law]
def fl : List He.Fa := [.free "all", .free "bool", .free "int", .free "isinstance", .free "len", .free "list", .free "max", .free "min", .free "range", .free "sum", .free "tuple", .free "zip", .int "MOST_BORDER" (1000000000000), .int "MOST_DEALS" (30), .int "MOST_NUMBER" (1000000000000000000000000000000), .int "MOST_PRICE" (1000000), .int "MOST_STEPS" (5), .glo "InvalidBills", .glo "InvalidDeal", .glo "InvalidGroup", .glo "InvalidHold", .glo "InvalidIndex", .glo "InvalidLadder", .glo "InvalidNumber", .glo "InvalidPrices", .glo "InvalidRow", .glo "InvalidText", .glo "NoLadder", .glo "NothingToUndo", .glo "RebateError", .glo "TooMany", .glo "Unlike", .glo "_law_by_two", .glo "_law_chosen", .glo "_law_cost", .glo "_law_error", .glo "_law_numbers", .glo "_law_paid", .glo "_law_pick", .glo "_law_price", .glo "_law_refusals", .glo "_law_refused", .glo "_law_right", .glo "_law_source", .glo "_law_steps", .glo "_law_stretches", .glo "_law_stretches_right", .glo "_law_trip", .glo "_law_written", .glo "bought_for", .glo "can_be_done", .glo "cost_of", .glo "ends_of", .glo "held_gains", .glo "held_in", .glo "is_deal", .glo "is_int", .glo "is_right_ladder", .glo "is_right_row", .glo "is_step", .glo "law", .glo "merged", .glo "need_hold", .glo "need_ladder", .glo "need_number", .glo "owed_for", .glo "paid_for", .glo "payments", .glo "payments_of", .glo "pieces_in", .glo "price_at", .glo "round_trip", .glo "step_at", .glo "trip_for", .exc "InvalidLadder", .exc "InvalidNumber", .exc "InvalidHold", .exc "InvalidRow", .exm "InvalidLadder" "RebateError" true, .exm "InvalidNumber" "RebateError" true, .exm "InvalidHold" "RebateError" true, .exm "InvalidRow" "RebateError" true]
/-- .. asked of the written part -/
def ex (K : PySem.W.Frag) : Bool := (errIds.all fun c => excB K (nm c)) && (errIds.all fun c => clsIds.all fun j => kitB K (nm c) (nm j) (c == j)) && distinctB ((Tt K).map (·.1))
/-! ### the head -/
abbrev R : PySem.W.OpenRow := PySem.W.OpenLaw.row PySem.Challenge.rw_wholerebates_k31_whole_prices_that_are_h
abbrev hk : PySem.W.Hook := He.hookX 6 fl fn [] tf ex
def ob (s : PySem.W.SharedT) : He.AlX := He.obsX 6 fl fn [] tf ex (HandSHeadRun.getT s)
theorem ob_eq (s : PySem.W.SharedT) : ob s = hk.obs s.abs := He.obsX_eq (HandSHeadRun.getT_eq s)
def loose0 : List Str := ["__name__", "RebateError", "InvalidLadder", "InvalidNumber", "InvalidHold", "InvalidRow", "InvalidGroup", "InvalidPrices", "InvalidBills", "InvalidIndex", "InvalidDeal", "NoLadder", "Unlike", "NothingToUndo", "TooMany", "InvalidText", "MOST_STEPS", "MOST_BORDER", "MOST_PRICE", "MOST_NUMBER", "MOST_DEALS", "is_int", "is_step", "is_right_ladder", "is_deal", "can_be_done", "is_right_row", "step_at", "price_at", "cost_of"]
def loose1 : List Str := ["pieces_in", "owed_for", "payments_of", "need_ladder", "need_number", "need_hold", "payments", "bought_for", "paid_for", "ends_of", "merged", "trip_for", "held_in", "round_trip", "held_gains", "_law_source", "_law_pick", "_law_chosen", "_law_by_two", "_law_refused", "_law_error", "_law_steps", "_law_price", "_law_cost", "_law_paid", "_law_stretches", "_law_stretches_right", "_law_numbers", "_law_trip", "_law_right"]
def loose2 : List Str := ["_law_refusals", "_law_written"]
abbrev loose : List Str := loose0 ++ loose1 ++ loose2
theorem run (w : World) : HandSHeadRun.RunEq R (PySem.W.view R.prog [66]) hk ob 15000 loose w := by
  intro os
  kernel_rfl

structure Fx (K : PySem.W.Frag) (mg : Str → Option Value) (base : Heap) : Prop where
  fl_all : mg "all" = none
  fl_bool : mg "bool" = none
  fl_int : mg "int" = none
  fl_isinstance : mg "isinstance" = none
  fl_len : mg "len" = none
  fl_list : mg "list" = none
  fl_max : mg "max" = none
  fl_min : mg "min" = none
  fl_range : mg "range" = none
  fl_sum : mg "sum" = none
  fl_tuple : mg "tuple" = none
  fl_zip : mg "zip" = none
  c_MOST_BORDER : ∃ t, mg "MOST_BORDER" = some (.int (1000000000000) t)
  c_MOST_DEALS : ∃ t, mg "MOST_DEALS" = some (.int (30) t)
  c_MOST_NUMBER : ∃ t, mg "MOST_NUMBER" = some (.int (1000000000000000000000000000000) t)
  c_MOST_PRICE : ∃ t, mg "MOST_PRICE" = some (.int (1000000) t)
  c_MOST_STEPS : ∃ t, mg "MOST_STEPS" = some (.int (5) t)
  g_InvalidBills : mg "InvalidBills" = some (.ref (He.ga K "InvalidBills"))
  g_InvalidDeal : mg "InvalidDeal" = some (.ref (He.ga K "InvalidDeal"))
  g_InvalidGroup : mg "InvalidGroup" = some (.ref (He.ga K "InvalidGroup"))
  g_InvalidHold : mg "InvalidHold" = some (.ref (He.ga K "InvalidHold"))
  g_InvalidIndex : mg "InvalidIndex" = some (.ref (He.ga K "InvalidIndex"))
  g_InvalidLadder : mg "InvalidLadder" = some (.ref (He.ga K "InvalidLadder"))
  g_InvalidNumber : mg "InvalidNumber" = some (.ref (He.ga K "InvalidNumber"))
  g_InvalidPrices : mg "InvalidPrices" = some (.ref (He.ga K "InvalidPrices"))
  g_InvalidRow : mg "InvalidRow" = some (.ref (He.ga K "InvalidRow"))
  g_InvalidText : mg "InvalidText" = some (.ref (He.ga K "InvalidText"))
  g_NoLadder : mg "NoLadder" = some (.ref (He.ga K "NoLadder"))
  g_NothingToUndo : mg "NothingToUndo" = some (.ref (He.ga K "NothingToUndo"))
  g_RebateError : mg "RebateError" = some (.ref (He.ga K "RebateError"))
  g_TooMany : mg "TooMany" = some (.ref (He.ga K "TooMany"))
  g_Unlike : mg "Unlike" = some (.ref (He.ga K "Unlike"))
  g__law_by_two : mg "_law_by_two" = some (.ref (He.ga K "_law_by_two"))
  g__law_chosen : mg "_law_chosen" = some (.ref (He.ga K "_law_chosen"))
  g__law_cost : mg "_law_cost" = some (.ref (He.ga K "_law_cost"))
  g__law_error : mg "_law_error" = some (.ref (He.ga K "_law_error"))
  g__law_numbers : mg "_law_numbers" = some (.ref (He.ga K "_law_numbers"))
  g__law_paid : mg "_law_paid" = some (.ref (He.ga K "_law_paid"))
  g__law_pick : mg "_law_pick" = some (.ref (He.ga K "_law_pick"))
  g__law_price : mg "_law_price" = some (.ref (He.ga K "_law_price"))
  g__law_refusals : mg "_law_refusals" = some (.ref (He.ga K "_law_refusals"))
  g__law_refused : mg "_law_refused" = some (.ref (He.ga K "_law_refused"))
  g__law_right : mg "_law_right" = some (.ref (He.ga K "_law_right"))
  g__law_source : mg "_law_source" = some (.ref (He.ga K "_law_source"))
  g__law_steps : mg "_law_steps" = some (.ref (He.ga K "_law_steps"))
  g__law_stretches : mg "_law_stretches" = some (.ref (He.ga K "_law_stretches"))
  g__law_stretches_right : mg "_law_stretches_right" = some (.ref (He.ga K "_law_stretches_right"))
  g__law_trip : mg "_law_trip" = some (.ref (He.ga K "_law_trip"))
  g__law_written : mg "_law_written" = some (.ref (He.ga K "_law_written"))
  g_bought_for : mg "bought_for" = some (.ref (He.ga K "bought_for"))
  g_can_be_done : mg "can_be_done" = some (.ref (He.ga K "can_be_done"))
  g_cost_of : mg "cost_of" = some (.ref (He.ga K "cost_of"))
  g_ends_of : mg "ends_of" = some (.ref (He.ga K "ends_of"))
  g_held_gains : mg "held_gains" = some (.ref (He.ga K "held_gains"))
  g_held_in : mg "held_in" = some (.ref (He.ga K "held_in"))
  g_is_deal : mg "is_deal" = some (.ref (He.ga K "is_deal"))
  g_is_int : mg "is_int" = some (.ref (He.ga K "is_int"))
  g_is_right_ladder : mg "is_right_ladder" = some (.ref (He.ga K "is_right_ladder"))
  g_is_right_row : mg "is_right_row" = some (.ref (He.ga K "is_right_row"))
  g_is_step : mg "is_step" = some (.ref (He.ga K "is_step"))
  g_law : mg "law" = some (.ref (He.ga K "law"))
  g_merged : mg "merged" = some (.ref (He.ga K "merged"))
  g_need_hold : mg "need_hold" = some (.ref (He.ga K "need_hold"))
  g_need_ladder : mg "need_ladder" = some (.ref (He.ga K "need_ladder"))
  g_need_number : mg "need_number" = some (.ref (He.ga K "need_number"))
  g_owed_for : mg "owed_for" = some (.ref (He.ga K "owed_for"))
  g_paid_for : mg "paid_for" = some (.ref (He.ga K "paid_for"))
  g_payments : mg "payments" = some (.ref (He.ga K "payments"))
  g_payments_of : mg "payments_of" = some (.ref (He.ga K "payments_of"))
  g_pieces_in : mg "pieces_in" = some (.ref (He.ga K "pieces_in"))
  g_price_at : mg "price_at" = some (.ref (He.ga K "price_at"))
  g_round_trip : mg "round_trip" = some (.ref (He.ga K "round_trip"))
  g_step_at : mg "step_at" = some (.ref (He.ga K "step_at"))
  g_trip_for : mg "trip_for" = some (.ref (He.ga K "trip_for"))
  x_InvalidLadder : PySem.W.excIn K (He.ga K "InvalidLadder") He.veBase "ValueError.__new__" = true ∧ PySem.W.keepIn K (.ref (He.ga K "InvalidLadder")) = true ∧ PySem.W.subIn K (.ref (He.ga K "InvalidLadder")) (.type "BaseException") = some true ∧ PySem.W.typeIn K (.ref (He.ga K "InvalidLadder")) = some (.type "type")
  x_InvalidNumber : PySem.W.excIn K (He.ga K "InvalidNumber") He.veBase "ValueError.__new__" = true ∧ PySem.W.keepIn K (.ref (He.ga K "InvalidNumber")) = true ∧ PySem.W.subIn K (.ref (He.ga K "InvalidNumber")) (.type "BaseException") = some true ∧ PySem.W.typeIn K (.ref (He.ga K "InvalidNumber")) = some (.type "type")
  x_InvalidHold : PySem.W.excIn K (He.ga K "InvalidHold") He.veBase "ValueError.__new__" = true ∧ PySem.W.keepIn K (.ref (He.ga K "InvalidHold")) = true ∧ PySem.W.subIn K (.ref (He.ga K "InvalidHold")) (.type "BaseException") = some true ∧ PySem.W.typeIn K (.ref (He.ga K "InvalidHold")) = some (.type "type")
  x_InvalidRow : PySem.W.excIn K (He.ga K "InvalidRow") He.veBase "ValueError.__new__" = true ∧ PySem.W.keepIn K (.ref (He.ga K "InvalidRow")) = true ∧ PySem.W.subIn K (.ref (He.ga K "InvalidRow")) (.type "BaseException") = some true ∧ PySem.W.typeIn K (.ref (He.ga K "InvalidRow")) = some (.type "type")
  exc : ∀ c ∈ errIds, ExcC K (He.ga K (nm c))
  kit : ∀ c ∈ errIds, ∀ j ∈ clsIds, PySem.W.kitOne K (.ref (He.ga K (nm c))) (.ref (He.ga K (nm j))) = some (c == j)
  exm : ∀ c ∈ errIds, PySem.W.exmOne K (.ref (He.ga K (nm c))) (.ref (He.ga K "RebateError")) = some true
  tb : ∀ p ∈ tf, TabB base mg (He.cT K p).1 (He.cT K p).2
  df : ∀ (i : Nat) (d : He.DefD), fn[i]? = some d → ∃ fd, FunD K d.name d.qual d.params d.body d.scope (d.dvs K) (d.kws K) (He.fAd K d.at_) fd
  dis : distinctB ((Tt K).map (·.1)) = true
section
variable {P : Program} {w : World} {K : PySem.W.Frag} {mg : Str → Option Value} {base : Heap} {cdv : Value} {A : Around} {outer : List Env} {s : Shared} {H : Hp} {E : XK} {f : Addr} {v : V} {Z : ZZ}
theorem b_is_int (Fs : Fx K mg base) (hr : Room 0 (A.deeper (envOfC "is_int" (defScope (top 22)) s.heap.objs.size f cdv))) :
    CSs (cxOf (L2N.CX P w) P w K mg base N_is_int "is_int" (defScope (top 22)) f cdv A outer s H E) (fa K v) (T K Z) (fun cls d _ H => E cls d H) (defBody (top 22)) d_is_int := (ds_one (ds_ret (dp_and (dp_isa isa_int (dp_v 0) rfl Fs.fl_isinstance rfl Fs.fl_int boot_isinstance boot_int) (dp_and (dp_not (dp_isa isa_bool (dp_v 0) rfl Fs.fl_isinstance rfl Fs.fl_bool boot_isinstance boot_bool)) (dp_one (dp_chain op_leP op_leP (dp_v 1) (dp_v 0) (dp_v 2)))))))
theorem fd_is_int (Fs : Fx K mg base) : FD P w K mg base (fa K v) (T K Z) "is_int" 1 3 f_is_int := by
  obtain ⟨fd, F⟩ := Fs.df 0 dd_is_int rfl
  exact ⟨He.ga K "is_int", fd, P_is_int, (fn_of_body (k := 0) (ds := d_is_int) F S_is_int rfl rfl fun cdv A outer s H E hc hr => b_is_int Fs  hr), Fs.g_is_int, F.kp, F.bindsN fun _ _ _ _ _ _ us hl => match us, hl with | [_, _, _], _ => rfl⟩
theorem b_can_be_done (Fs : Fx K mg base) (hr : Room 0 (A.deeper (envOfC "can_be_done" (defScope (top 26)) s.heap.objs.size f cdv))) :
    CSs (cxOf (L2N.CX P w) P w K mg base N_can_be_done "can_be_done" (defScope (top 26)) f cdv A outer s H E) (fa K v) (T K Z) (fun cls d _ H => E cls d H) (defBody (top 26)) d_can_be_done := (ds_one (ds_ret (dp_b1 (cr_allP rfl) (dp_lc rfl S_can_be_done.nd (di_range1 rfl Fs.fl_range (da_cons (dp_b1 cr_lenP (dp_v 1) rfl Fs.fl_len boot_len) da_nil)) (blkOk_by (own := [("at", 2)]) (by with_unfolding_all rfl)) (fun _ _ _ _ _ => (dg_name S_can_be_done.nd rfl (by first | exact Or.inl rfl | exact Or.inr rfl))) (fun _ _ _ _ _ => dts_nil) (fun _ _ _ _ _ => (dp_cmp op_geP (dp_op op_addD (dp_v 0) (dp_b1 (cr_sumP rfl) (dp_sl (dp_v 1) do_no (do_part (dp_op op_addD (dp_v 2) dp_int))) rfl Fs.fl_sum boot_sum)) dp_int (nomark _)))) rfl Fs.fl_all boot_all)))
theorem fd_can_be_done (Fs : Fx K mg base) : FD P w K mg base (fa K v) (T K Z) "can_be_done" 1 2 f_can_be_done := by
  obtain ⟨fd, F⟩ := Fs.df 4 dd_can_be_done rfl
  exact ⟨He.ga K "can_be_done", fd, P_can_be_done, (fn_of_body (k := 0) (ds := d_can_be_done) F S_can_be_done rfl rfl fun cdv A outer s H E hc hr => b_can_be_done Fs  hr), Fs.g_can_be_done, F.kp, F.bindsN fun _ _ _ _ _ _ us hl => match us, hl with | [_, _], _ => rfl⟩
theorem b_step_at (Fs : Fx K mg base) (hr : Room 0 (A.deeper (envOfC "step_at" (defScope (top 28)) s.heap.objs.size f cdv))) :
    CSs (cxOf (L2N.CX P w) P w K mg base N_step_at "step_at" (defScope (top 28)) f cdv A outer s H E) (fa K v) (T K Z) (fun cls d _ H => E cls d H) (defBody (top 28)) d_step_at := (ds_one (ds_ret (dp_op op_subD (dp_b1 cr_lenP (dp_lc rfl S_step_at.nd (di_seq (dp_v 0)) (blkOk_by (own := [("border", 2), ("price", 3)]) (by with_unfolding_all rfl)) (fun _ _ _ _ _ => (dg_tup rfl (dgs_cons (dg_name S_step_at.nd rfl (by first | exact Or.inl rfl | exact Or.inr rfl)) (dgs_cons (dg_name S_step_at.nd rfl (by first | exact Or.inl rfl | exact Or.inr rfl)) dgs_nil)))) (fun _ _ _ _ _ => (dts_one (dt_cmp op_leP (dp_v 2) (dp_v 1) (nomark _)))) (fun _ _ _ _ _ => dp_int)) rfl Fs.fl_len boot_len) dp_int)))
theorem fd_step_at (Fs : Fx K mg base) : FD P w K mg base (fa K v) (T K Z) "step_at" 1 2 f_step_at := by
  obtain ⟨fd, F⟩ := Fs.df 6 dd_step_at rfl
  exact ⟨He.ga K "step_at", fd, P_step_at, (fn_of_body (k := 0) (ds := d_step_at) F S_step_at rfl rfl fun cdv A outer s H E hc hr => b_step_at Fs  hr), Fs.g_step_at, F.kp, F.bindsN fun _ _ _ _ _ _ us hl => match us, hl with | [_, _], _ => rfl⟩
theorem b_pieces_in (Fs : Fx K mg base) (hr : Room 0 (A.deeper (envOfC "pieces_in" (defScope (top 31)) s.heap.objs.size f cdv))) :
    CSs (cxOf (L2N.CX P w) P w K mg base N_pieces_in "pieces_in" (defScope (top 31)) f cdv A outer s H E) (fa K v) (T K Z) (fun cls d _ H => E cls d H) (defBody (top 31)) d_pieces_in := (ds_one (ds_ret (dp_tup (da_cons (dp_b1 (cr_sumP rfl) (dp_v 0) rfl Fs.fl_sum boot_sum) (da_cons (dp_b1 (cr_maxP rfl (room100 hr)) (dp_op op_addD (dp_lst (da_cons dp_int da_nil)) (dp_lc rfl S_pieces_in.nd (di_range1 rfl Fs.fl_range (da_cons (dp_b1 cr_lenP (dp_v 0) rfl Fs.fl_len boot_len) da_nil)) (blkOk_by (own := [("at", 1)]) (by with_unfolding_all rfl)) (fun _ _ _ _ _ => (dg_name S_pieces_in.nd rfl (by first | exact Or.inl rfl | exact Or.inr rfl))) (fun _ _ _ _ _ => dts_nil) (fun _ _ _ _ _ => (dp_b1 (cr_sumP rfl) (dp_sl (dp_v 0) do_no (do_part (dp_op op_addD (dp_v 1) dp_int))) rfl Fs.fl_sum boot_sum)))) rfl Fs.fl_max boot_max) da_nil)))))
theorem fd_pieces_in (Fs : Fx K mg base) : FD P w K mg base (fa K v) (T K Z) "pieces_in" 1 1 f_pieces_in := by
  obtain ⟨fd, F⟩ := Fs.df 9 dd_pieces_in rfl
  exact ⟨He.ga K "pieces_in", fd, P_pieces_in, (fn_of_body (k := 0) (ds := d_pieces_in) F S_pieces_in rfl rfl fun cdv A outer s H E hc hr => b_pieces_in Fs  hr), Fs.g_pieces_in, F.kp, F.bindsN fun _ _ _ _ _ _ us hl => match us, hl with | [_], _ => rfl⟩
theorem b_need_hold (Fs : Fx K mg base) (hr : Room 0 (A.deeper (envOfC "need_hold" (defScope (top 36)) s.heap.objs.size f cdv))) :
    CSs (cxOf (L2N.CX P w) P w K mg base N_need_hold "need_hold" (defScope (top 36)) f cdv A outer s H E) (fa K v) (T K Z) (fun cls d _ H => E cls d H) (defBody (top 36)) d_need_hold := (ds_one (ds_if (dt_not (dt_val (dp_isa isa_bool (dp_v 0) rfl Fs.fl_isinstance rfl Fs.fl_bool boot_isinstance boot_bool))) (ds_one (ds_raise rfl takesN F.excBase_ValueError Fs.x_InvalidHold.1 Fs.g_InvalidHold Fs.x_InvalidHold.2.1 (raises_own Fs.x_InvalidHold.2.2.1 Fs.x_InvalidHold.2.2.2) rfl rfl)) ds_skip))
theorem fd_need_hold (Fs : Fx K mg base) : FD P w K mg base (fa K v) (T K Z) "need_hold" 1 1 f_need_hold := by
  obtain ⟨fd, F⟩ := Fs.df 14 dd_need_hold rfl
  exact ⟨He.ga K "need_hold", fd, P_need_hold, (fn_of_body (k := 0) (ds := d_need_hold) F S_need_hold rfl rfl fun cdv A outer s H E hc hr => b_need_hold Fs  hr), Fs.g_need_hold, F.kp, F.bindsN fun _ _ _ _ _ _ us hl => match us, hl with | [_], _ => rfl⟩
theorem b_ends_of (Fs : Fx K mg base) (hr : Room 0 (A.deeper (envOfC "ends_of" (defScope (top 41)) s.heap.objs.size f cdv))) :
    CSs (cxOf (L2N.CX P w) P w K mg base N_ends_of "ends_of" (defScope (top 41)) f cdv A outer s H E) (fa K v) (T K Z) (fun cls d _ H => E cls d H) (defBody (top 41)) d_ends_of := (ds_one (ds_ret (dp_op op_addD (dp_lc rfl S_ends_of.nd (di_seq (dp_sl (dp_v 0) (do_part dp_int) do_no)) (blkOk_by (own := [("border", 1), ("price", 2)]) (by with_unfolding_all rfl)) (fun _ _ _ _ _ => (dg_tup rfl (dgs_cons (dg_name S_ends_of.nd rfl (by first | exact Or.inl rfl | exact Or.inr rfl)) (dgs_cons (dg_name S_ends_of.nd rfl (by first | exact Or.inl rfl | exact Or.inr rfl)) dgs_nil)))) (fun _ _ _ _ _ => dts_nil) (fun _ _ _ _ _ => (dp_op op_subD (dp_v 1) dp_int))) (dp_lst (da_cons dp_non da_nil)))))
theorem fd_ends_of (Fs : Fx K mg base) : FD P w K mg base (fa K v) (T K Z) "ends_of" 1 1 f_ends_of := by
  obtain ⟨fd, F⟩ := Fs.df 18 dd_ends_of rfl
  exact ⟨He.ga K "ends_of", fd, P_ends_of, (fn_of_body (k := 0) (ds := d_ends_of) F S_ends_of rfl rfl fun cdv A outer s H E hc hr => b_ends_of Fs  hr), Fs.g_ends_of, F.kp, F.bindsN fun _ _ _ _ _ _ us hl => match us, hl with | [_], _ => rfl⟩
theorem b_merged (Fs : Fx K mg base) (hr : Room 0 (A.deeper (envOfC "merged" (defScope (top 42)) s.heap.objs.size f cdv))) :
    CSs (cxOf (L2N.CX P w) P w K mg base N_merged "merged" (defScope (top 42)) f cdv A outer s H E) (fa K v) (T K Z) (fun cls d _ H => E cls d H) (defBody (top 42)) d_merged := (ds_seq (ds_set (i := 1) S_merged.nd rfl (by first | exact Or.inl rfl | exact Or.inr rfl) (dp_lst da_nil)) (ds_seq (ds_for (passes_of rfl) rfl (di_seq (dp_v 0)) (dg_tup rfl (dgs_cons (dg_name S_merged.nd rfl (by first | exact Or.inl rfl | exact Or.inr rfl)) (dgs_cons (dg_name S_merged.nd rfl (by first | exact Or.inl rfl | exact Or.inr rfl)) dgs_nil))) (ds_one (ds_if (dt_w (dw_and (dt_cmp (op_neP (room100 hr)) (dp_v 1) (dp_lst da_nil) (nomark _)) (dw_and1 (dt_cmp (op_eqP (room100 hr)) (dp_op op_addD (dp_ix (dp_ix (dp_v 1) (dp_neg dp_int)) dp_int) dp_int) (dp_v 2) (nomark _))))) (ds_one (ds_set (i := 1) S_merged.nd rfl (by first | exact Or.inl rfl | exact Or.inr rfl) (dp_op op_addD (dp_sl (dp_v 1) do_no (do_part (dp_neg dp_int))) (dp_lst (da_cons (dp_tup (da_cons (dp_ix (dp_ix (dp_v 1) (dp_neg dp_int)) dp_int) (da_cons (dp_v 3) da_nil))) da_nil))))) (ds_one (ds_set (i := 1) S_merged.nd rfl (by first | exact Or.inl rfl | exact Or.inr rfl) (dp_op op_addD (dp_v 1) (dp_lst (da_cons (dp_tup (da_cons (dp_v 2) (da_cons (dp_v 3) da_nil))) da_nil)))))))) (ds_one (ds_ret (dp_v 1)))))
theorem fd_merged (Fs : Fx K mg base) : FD P w K mg base (fa K v) (T K Z) "merged" 1 1 f_merged := by
  obtain ⟨fd, F⟩ := Fs.df 19 dd_merged rfl
  exact ⟨He.ga K "merged", fd, P_merged, (fn_of_body (k := 0) (ds := d_merged) F S_merged rfl rfl fun cdv A outer s H E hc hr => b_merged Fs  hr), Fs.g_merged, F.kp, F.bindsN fun _ _ _ _ _ _ us hl => match us, hl with | [_], _ => rfl⟩
theorem b__law_source (Fs : Fx K mg base) (hr : Room 0 (A.deeper (envOfC "_law_source" (defScope (top 49)) s.heap.objs.size f cdv))) :
    CSs (cxOf (L2N.CX P w) P w K mg base N__law_source "_law_source" (defScope (top 49)) f cdv A outer s H E) (fa K v) (T K Z) (fun cls d _ H => E cls d H) (defBody (top 49)) d__law_source := (ds_seq (ds_set (i := 2) S__law_source.nd rfl (by first | exact Or.inl rfl | exact Or.inr rfl) dp_int) (ds_seq (ds_if (dt_cmp op_gtP (dp_b1 cr_lenP (dp_v 0) rfl Fs.fl_len boot_len) (dp_v 1) (nomark _)) (ds_one (ds_set (i := 2) S__law_source.nd rfl (by first | exact Or.inl rfl | exact Or.inr rfl) (dp_t1 cr_intP (dp_ix (dp_v 0) (dp_v 1)) rfl Fs.fl_int boot_int))) ds_skip) (ds_seq (ds_set (i := 3) S__law_source.nd rfl (by first | exact Or.inl rfl | exact Or.inr rfl) (dp_op op_modD (dp_op op_addD (dp_op op_addD (dp_op op_mulD (dp_v 2) dp_int) (dp_op op_mulD dp_int (dp_v 1))) dp_int) dp_int)) (ds_seq (ds_set (i := 3) S__law_source.nd rfl (by first | exact Or.inl rfl | exact Or.inr rfl) (dp_op op_addD (dp_op op_addD (dp_op op_modD (dp_op op_mulD (dp_v 3) (dp_v 3)) dp_int) (dp_op op_mulD dp_int (dp_v 1))) dp_int)) (ds_one (ds_ret (dp_lstM (da_cons (dp_if (dt_cmp op_geP (dp_v 2) (dp_op op_powD dp_int dp_int) (nomark _)) (dp_v 2) dp_int) (da_cons (dp_v 3) da_nil)))))))))
theorem fd__law_source (Fs : Fx K mg base) : FD P w K mg base (fa K v) (T K Z) "_law_source" 1 2 f__law_source := by
  obtain ⟨fd, F⟩ := Fs.df 24 dd__law_source rfl
  exact ⟨He.ga K "_law_source", fd, P__law_source, (fn_of_body (k := 0) (ds := d__law_source) F S__law_source rfl rfl fun cdv A outer s H E hc hr => b__law_source Fs  hr), Fs.g__law_source, F.kp, F.bindsN fun _ _ _ _ _ _ us hl => match us, hl with | [_, _], _ => rfl⟩
theorem b__law_pick (Fs : Fx K mg base) (hr : Room 0 (A.deeper (envOfC "_law_pick" (defScope (top 50)) s.heap.objs.size f cdv))) :
    CSs (cxOf (L2N.CX P w) P w K mg base N__law_pick "_law_pick" (defScope (top 50)) f cdv A outer s H E) (fa K v) (T K Z) (fun cls d _ H => E cls d H) (defBody (top 50)) d__law_pick := (ds_seq (ds_if (dt_cmp op_gtP (dp_ix (dp_v 0) dp_int) dp_int (nomark _)) (ds_seq (ds_set (i := 2) S__law_pick.nd rfl (by first | exact Or.inl rfl | exact Or.inr rfl) (dp_op op_modD (dp_t1 cr_intP (dp_ix (dp_v 0) dp_int) rfl Fs.fl_int boot_int) (dp_v 1))) (ds_seq (ds_setIx (dp_v 0) dp_int (dp_op op_divD (dp_t1 cr_intP (dp_ix (dp_v 0) dp_int) rfl Fs.fl_int boot_int) (dp_v 1))) (ds_one (ds_ret (dp_v 2))))) ds_skip) (ds_seq (ds_setIx (dp_v 0) dp_int (dp_op op_modD (dp_t1 cr_intP (dp_op op_addD (dp_op op_mulD (dp_ix (dp_v 0) dp_int) dp_int) dp_int) rfl Fs.fl_int boot_int) dp_int)) (ds_one (ds_ret (dp_op op_modD (dp_op op_divD (dp_op op_modD (dp_t1 cr_intP (dp_op op_mulD (dp_ix (dp_v 0) dp_int) (dp_ix (dp_v 0) dp_int)) rfl Fs.fl_int boot_int) dp_int) dp_int) (dp_v 1))))))
theorem fd__law_pick (Fs : Fx K mg base) : FD P w K mg base (fa K v) (T K Z) "_law_pick" 1 2 f__law_pick := by
  obtain ⟨fd, F⟩ := Fs.df 25 dd__law_pick rfl
  exact ⟨He.ga K "_law_pick", fd, P__law_pick, (fn_of_body (k := 0) (ds := d__law_pick) F S__law_pick rfl rfl fun cdv A outer s H E hc hr => b__law_pick Fs  hr), Fs.g__law_pick, F.kp, F.bindsN fun _ _ _ _ _ _ us hl => match us, hl with | [_, _], _ => rfl⟩
theorem b__law_price (Fs : Fx K mg base) (hr : Room 0 (A.deeper (envOfC "_law_price" (defScope (top 56)) s.heap.objs.size f cdv))) :
    CSs (cxOf (L2N.CX P w) P w K mg base N__law_price "_law_price" (defScope (top 56)) f cdv A outer s H E) (fa K v) (T K Z) (fun cls d _ H => E cls d H) (defBody (top 56)) d__law_price := (ds_one (ds_ret (dp_ix (dp_lc rfl S__law_price.nd (di_seq (dp_v 0)) (blkOk_by (own := [("border_so", 2), ("price_so", 3)]) (by with_unfolding_all rfl)) (fun _ _ _ _ _ => (dg_tup rfl (dgs_cons (dg_name S__law_price.nd rfl (by first | exact Or.inl rfl | exact Or.inr rfl)) (dgs_cons (dg_name S__law_price.nd rfl (by first | exact Or.inl rfl | exact Or.inr rfl)) dgs_nil)))) (fun _ _ _ _ _ => (dts_one (dt_cmp op_leP (dp_v 2) (dp_v 1) (nomark _)))) (fun _ _ _ _ _ => (dp_v 3))) (dp_neg dp_int))))
theorem fd__law_price (Fs : Fx K mg base) : FD P w K mg base (fa K v) (T K Z) "_law_price" 1 2 f__law_price := by
  obtain ⟨fd, F⟩ := Fs.df 31 dd__law_price rfl
  exact ⟨He.ga K "_law_price", fd, P__law_price, (fn_of_body (k := 0) (ds := d__law_price) F S__law_price rfl rfl fun cdv A outer s H E hc hr => b__law_price Fs  hr), Fs.g__law_price, F.kp, F.bindsN fun _ _ _ _ _ _ us hl => match us, hl with | [_, _], _ => rfl⟩
theorem b__law_stretches (Fs : Fx K mg base) (hr : Room 0 (A.deeper (envOfC "_law_stretches" (defScope (top 59)) s.heap.objs.size f cdv))) :
    CSs (cxOf (L2N.CX P w) P w K mg base N__law_stretches "_law_stretches" (defScope (top 59)) f cdv A outer s H E) (fa K v) (T K Z) (fun cls d _ H => E cls d H) (defBody (top 59)) d__law_stretches := (ds_seq (ds_set (i := 1) S__law_stretches.nd rfl (by first | exact Or.inl rfl | exact Or.inr rfl) (dp_lstM da_nil)) (ds_seq (ds_for (passes_of rfl) rfl (di_seq (dp_v 0)) (dg_name S__law_stretches.nd rfl (by first | exact Or.inl rfl | exact Or.inr rfl)) (ds_one (ds_if (dt_w (dw_and (dt_cmp (op_neP (room100 hr)) (dp_v 1) (dp_lst da_nil) (nomark _)) (dw_and1 (dt_cmp (op_eqP (room100 hr)) (dp_ix (dp_ix (dp_v 1) (dp_neg dp_int)) dp_int) (dp_op op_subD (dp_v 2) dp_int) (nomark _))))) (ds_one (ds_setIx (dp_v 1) (dp_neg dp_int) (dp_tup (da_cons (dp_ix (dp_ix (dp_v 1) (dp_neg dp_int)) dp_int) (da_cons (dp_v 2) da_nil))))) (ds_one (ds_drop (dp_app (dp_v 1) (dp_tup (da_cons (dp_v 2) (da_cons (dp_v 2) da_nil))))))))) (ds_one (ds_ret (dp_v 1)))))
theorem fd__law_stretches (Fs : Fx K mg base) : FD P w K mg base (fa K v) (T K Z) "_law_stretches" 1 1 f__law_stretches := by
  obtain ⟨fd, F⟩ := Fs.df 34 dd__law_stretches rfl
  exact ⟨He.ga K "_law_stretches", fd, P__law_stretches, FnOk.fr (fn_of_body (k := 0) (ds := d__law_stretches) F S__law_stretches rfl rfl fun cdv A outer s H E hc hr => b__law_stretches Fs  hr), Fs.g__law_stretches, F.kp, F.bindsN fun _ _ _ _ _ _ us hl => match us, hl with | [_], _ => rfl⟩
theorem b_is_step (Fs : Fx K mg base) (hr : Room 1 (A.deeper (envOfC "is_step" (defScope (top 23)) s.heap.objs.size f cdv))) :
    CSs (cxOf (L2N.CX P w) P w K mg base N_is_step "is_step" (defScope (top 23)) f cdv A outer s H E) (fa K v) (T K Z) (fun cls d _ H => E cls d H) (defBody (top 23)) d_is_step := (ds_seq (ds_if (dt_w (dw_or (dt_not (dt_val (dp_isa isa_tuple (dp_v 0) rfl Fs.fl_isinstance rfl Fs.fl_tuple boot_isinstance boot_tuple))) (dw_or1 (dt_cmp (op_neP (room100 hr)) (dp_b1 cr_lenP (dp_v 0) rfl Fs.fl_len boot_len) dp_int (nomark _))))) (ds_one (ds_ret dp_bl)) ds_skip) (ds_one (ds_ret (dp_and (dp_call (fd_is_int Fs) (hr.mono (by decide)) takesN rfl (da_cons (dp_ix (dp_v 0) dp_int) (da_cons dp_int (da_cons (dp_gint rfl Fs.c_MOST_BORDER) da_nil)))) (dp_one (dp_call (fd_is_int Fs) (hr.mono (by decide)) takesN rfl (da_cons (dp_ix (dp_v 0) dp_int) (da_cons dp_int (da_cons (dp_gint rfl Fs.c_MOST_PRICE) da_nil)))))))))
theorem fd_is_step (Fs : Fx K mg base) : FD P w K mg base (fa K v) (T K Z) "is_step" 2 1 f_is_step := by
  obtain ⟨fd, F⟩ := Fs.df 1 dd_is_step rfl
  exact ⟨He.ga K "is_step", fd, P_is_step, (fn_of_body (k := 1) (ds := d_is_step) F S_is_step rfl rfl fun cdv A outer s H E hc hr => b_is_step Fs  hr), Fs.g_is_step, F.kp, F.bindsN fun _ _ _ _ _ _ us hl => match us, hl with | [_], _ => rfl⟩
theorem b_is_deal (Fs : Fx K mg base) (hr : Room 1 (A.deeper (envOfC "is_deal" (defScope (top 25)) s.heap.objs.size f cdv))) :
    CSs (cxOf (L2N.CX P w) P w K mg base N_is_deal "is_deal" (defScope (top 25)) f cdv A outer s H E) (fa K v) (T K Z) (fun cls d _ H => E cls d H) (defBody (top 25)) d_is_deal := (ds_one (ds_ret (dp_and (dp_call (fd_is_int Fs) (hr.mono (by decide)) takesN rfl (da_cons (dp_v 0) (da_cons (dp_neg (dp_gint rfl Fs.c_MOST_NUMBER)) (da_cons (dp_gint rfl Fs.c_MOST_NUMBER) da_nil)))) (dp_one (dp_cmp (op_neP (room100 hr)) (dp_v 0) dp_int (nomark _))))))
theorem fd_is_deal (Fs : Fx K mg base) : FD P w K mg base (fa K v) (T K Z) "is_deal" 2 1 f_is_deal := by
  obtain ⟨fd, F⟩ := Fs.df 3 dd_is_deal rfl
  exact ⟨He.ga K "is_deal", fd, P_is_deal, (fn_of_body (k := 1) (ds := d_is_deal) F S_is_deal rfl rfl fun cdv A outer s H E hc hr => b_is_deal Fs  hr), Fs.g_is_deal, F.kp, F.bindsN fun _ _ _ _ _ _ us hl => match us, hl with | [_], _ => rfl⟩
theorem b_price_at (Fs : Fx K mg base) (hr : Room 1 (A.deeper (envOfC "price_at" (defScope (top 29)) s.heap.objs.size f cdv))) :
    CSs (cxOf (L2N.CX P w) P w K mg base N_price_at "price_at" (defScope (top 29)) f cdv A outer s H E) (fa K v) (T K Z) (fun cls d _ H => E cls d H) (defBody (top 29)) d_price_at := (ds_one (ds_ret (dp_ix (dp_ix (dp_v 0) (dp_call (fd_step_at Fs) (hr.mono (by decide)) takesN rfl (da_cons (dp_v 0) (da_cons (dp_v 1) da_nil)))) dp_int)))
theorem fd_price_at (Fs : Fx K mg base) : FD P w K mg base (fa K v) (T K Z) "price_at" 2 2 f_price_at := by
  obtain ⟨fd, F⟩ := Fs.df 7 dd_price_at rfl
  exact ⟨He.ga K "price_at", fd, P_price_at, (fn_of_body (k := 1) (ds := d_price_at) F S_price_at rfl rfl fun cdv A outer s H E hc hr => b_price_at Fs  hr), Fs.g_price_at, F.kp, F.bindsN fun _ _ _ _ _ _ us hl => match us, hl with | [_, _], _ => rfl⟩
theorem b_need_number (Fs : Fx K mg base) (hr : Room 1 (A.deeper (envOfC "need_number" (defScope (top 35)) s.heap.objs.size f cdv))) :
    CSs (cxOf (L2N.CX P w) P w K mg base N_need_number "need_number" (defScope (top 35)) f cdv A outer s H E) (fa K v) (T K Z) (fun cls d _ H => E cls d H) (defBody (top 35)) d_need_number := (ds_one (ds_if (dt_not (dt_val (dp_call (fd_is_int Fs) (hr.mono (by decide)) takesN rfl (da_cons (dp_v 0) (da_cons (dp_v 1) (da_cons (dp_v 2) da_nil)))))) (ds_one (ds_raise rfl takesN F.excBase_ValueError Fs.x_InvalidNumber.1 Fs.g_InvalidNumber Fs.x_InvalidNumber.2.1 (raises_own Fs.x_InvalidNumber.2.2.1 Fs.x_InvalidNumber.2.2.2) rfl rfl)) ds_skip))
theorem fd_need_number (Fs : Fx K mg base) : FD P w K mg base (fa K v) (T K Z) "need_number" 2 3 f_need_number := by
  obtain ⟨fd, F⟩ := Fs.df 13 dd_need_number rfl
  exact ⟨He.ga K "need_number", fd, P_need_number, (fn_of_body (k := 1) (ds := d_need_number) F S_need_number rfl rfl fun cdv A outer s H E hc hr => b_need_number Fs  hr), Fs.g_need_number, F.kp, F.bindsN fun _ _ _ _ _ _ us hl => match us, hl with | [_, _, _], _ => rfl⟩
theorem b_trip_for (Fs : Fx K mg base) (hr : Room 1 (A.deeper (envOfC "trip_for" (defScope (top 44)) s.heap.objs.size f cdv))) :
    CSs (cxOf (L2N.CX P w) P w K mg base N_trip_for "trip_for" (defScope (top 44)) f cdv A outer s H E) (fa K v) (T K Z) (fun cls d _ H => E cls d H) (defBody (top 44)) d_trip_for := (ds_seq (ds_if (dt_cmp (op_eqP (room100 hr)) (dp_v 1) dp_int (nomark _)) (ds_one (ds_ret (dp_tup (da_cons dp_int (da_cons dp_int da_nil))))) ds_skip) (ds_seq (ds_set (i := 2) S_trip_for.nd rfl (by first | exact Or.inl rfl | exact Or.inr rfl) (dp_sl (dp_v 0) (do_part (dp_call (fd_step_at Fs) (hr.mono (by decide)) takesN rfl (da_cons (dp_v 0) (da_cons (dp_v 1) da_nil)))) do_no)) (ds_one (ds_ret (dp_b1 (cr_minP rfl (room100 hr)) (dp_lc rfl S_trip_for.nd (di_seq (dp_v 2)) (blkOk_by (own := [("border", 3), ("price", 4)]) (by with_unfolding_all rfl)) (fun _ _ _ _ _ => (dg_tup rfl (dgs_cons (dg_name S_trip_for.nd rfl (by first | exact Or.inl rfl | exact Or.inr rfl)) (dgs_cons (dg_name S_trip_for.nd rfl (by first | exact Or.inl rfl | exact Or.inr rfl)) dgs_nil)))) (fun _ _ _ _ _ => dts_nil) (fun _ _ _ _ _ => (dp_tup (da_cons (dp_op op_mulD (dp_v 1) (dp_v 4)) (da_cons (dp_b2 (cr_max2P rfl) (dp_v 1) (dp_v 3) rfl Fs.fl_max boot_max) da_nil))))) rfl Fs.fl_min boot_min)))))
theorem fd_trip_for (Fs : Fx K mg base) : FD P w K mg base (fa K v) (T K Z) "trip_for" 2 2 f_trip_for := by
  obtain ⟨fd, F⟩ := Fs.df 20 dd_trip_for rfl
  exact ⟨He.ga K "trip_for", fd, P_trip_for, (fn_of_body (k := 1) (ds := d_trip_for) F S_trip_for rfl rfl fun cdv A outer s H E hc hr => b_trip_for Fs  hr), Fs.g_trip_for, F.kp, F.bindsN fun _ _ _ _ _ _ us hl => match us, hl with | [_, _], _ => rfl⟩
theorem b__law_chosen (Fs : Fx K mg base) (hr : Room 1 (A.deeper (envOfC "_law_chosen" (defScope (top 51)) s.heap.objs.size f cdv))) :
    CSs (cxOf (L2N.CX P w) P w K mg base N__law_chosen "_law_chosen" (defScope (top 51)) f cdv A outer s H E) (fa K v) (T K Z) (fun cls d _ H => E cls d H) (defBody (top 51)) d__law_chosen := (ds_one (ds_ret (dp_ix (dp_v 1) (dp_call (fd__law_pick Fs) (hr.mono (by decide)) takesN rfl (da_cons (dp_v 0) (da_cons (dp_b1 cr_lenP (dp_v 1) rfl Fs.fl_len boot_len) da_nil))))))
theorem fd__law_chosen (Fs : Fx K mg base) : FD P w K mg base (fa K v) (T K Z) "_law_chosen" 2 2 f__law_chosen := by
  obtain ⟨fd, F⟩ := Fs.df 26 dd__law_chosen rfl
  exact ⟨He.ga K "_law_chosen", fd, P__law_chosen, (fn_of_body (k := 1) (ds := d__law_chosen) F S__law_chosen rfl rfl fun cdv A outer s H E hc hr => b__law_chosen Fs  hr), Fs.g__law_chosen, F.kp, F.bindsN fun _ _ _ _ _ _ us hl => match us, hl with | [_, _], _ => rfl⟩
theorem b__law_cost (Fs : Fx K mg base) (hr : Room 1 (A.deeper (envOfC "_law_cost" (defScope (top 57)) s.heap.objs.size f cdv))) :
    CSs (cxOf (L2N.CX P w) P w K mg base N__law_cost "_law_cost" (defScope (top 57)) f cdv A outer s H E) (fa K v) (T K Z) (fun cls d _ H => E cls d H) (defBody (top 57)) d__law_cost := (ds_one (ds_ret (dp_op op_mulD (dp_v 1) (dp_call (fd__law_price Fs) (hr.mono (by decide)) takesN rfl (da_cons (dp_v 0) (da_cons (dp_v 1) da_nil))))))
theorem fd__law_cost (Fs : Fx K mg base) : FD P w K mg base (fa K v) (T K Z) "_law_cost" 2 2 f__law_cost := by
  obtain ⟨fd, F⟩ := Fs.df 32 dd__law_cost rfl
  exact ⟨He.ga K "_law_cost", fd, P__law_cost, (fn_of_body (k := 1) (ds := d__law_cost) F S__law_cost rfl rfl fun cdv A outer s H E hc hr => b__law_cost Fs  hr), Fs.g__law_cost, F.kp, F.bindsN fun _ _ _ _ _ _ us hl => match us, hl with | [_, _], _ => rfl⟩
theorem b__law_numbers (Fs : Fx K mg base) (hr : Room 1 (A.deeper (envOfC "_law_numbers" (defScope (top 61)) s.heap.objs.size f cdv))) :
    CSs (cxOf (L2N.CX P w) P w K mg base N__law_numbers "_law_numbers" (defScope (top 61)) f cdv A outer s H E) (fa K v) (T K Z) (fun cls d _ H => E cls d H) (defBody (top 61)) d__law_numbers := (ds_seq (ds_set (i := 2) S__law_numbers.nd rfl (by first | exact Or.inl rfl | exact Or.inr rfl) (dp_lst (da_cons dp_int (da_cons dp_int (da_cons (dp_op op_powD dp_int dp_int) (da_cons (dp_call (fd__law_pick Fs) (hr.mono (by decide)) takesN rfl (da_cons (dp_v 0) (da_cons (dp_op op_powD dp_int dp_int) da_nil))) da_nil)))))) (ds_seq (ds_for (passes_of rfl) rfl (di_seq (dp_v 1)) (dg_tup rfl (dgs_cons (dg_name S__law_numbers.nd rfl (by first | exact Or.inl rfl | exact Or.inr rfl)) (dgs_cons (dg_name S__law_numbers.nd rfl (by first | exact Or.inl rfl | exact Or.inr rfl)) dgs_nil))) (ds_one (ds_set (i := 2) S__law_numbers.nd rfl (by first | exact Or.inl rfl | exact Or.inr rfl) (dp_op op_addD (dp_op op_addD (dp_v 2) (dp_lc rfl S__law_numbers.nd (di_seq (dp_tup (da_cons (dp_neg dp_int) (da_cons (dp_neg dp_int) (da_cons dp_int (da_cons dp_int da_nil)))))) (blkOk_by (own := [("more", 5)]) (by with_unfolding_all rfl)) (fun _ _ _ _ _ => (dg_name S__law_numbers.nd rfl (by first | exact Or.inl rfl | exact Or.inr rfl))) (fun _ _ _ _ _ => dts_nil) (fun _ _ _ _ _ => (dp_b2 (cr_max2P rfl) dp_int (dp_op op_addD (dp_v 3) (dp_v 5)) rfl Fs.fl_max boot_max)))) (dp_lst (da_cons (dp_call (fd__law_pick Fs) (hr.mono (by decide)) takesN rfl (da_cons (dp_v 0) (da_cons (dp_op op_addD (dp_v 3) dp_int) da_nil))) da_nil)))))) (ds_one (ds_ret (dp_v 2)))))
theorem fd__law_numbers (Fs : Fx K mg base) : FD P w K mg base (fa K v) (T K Z) "_law_numbers" 2 2 f__law_numbers := by
  obtain ⟨fd, F⟩ := Fs.df 36 dd__law_numbers rfl
  exact ⟨He.ga K "_law_numbers", fd, P__law_numbers, (fn_of_body (k := 1) (ds := d__law_numbers) F S__law_numbers rfl rfl fun cdv A outer s H E hc hr => b__law_numbers Fs  hr), Fs.g__law_numbers, F.kp, F.bindsN fun _ _ _ _ _ _ us hl => match us, hl with | [_, _], _ => rfl⟩
theorem b_is_right_ladder (Fs : Fx K mg base) (hr : Room 2 (A.deeper (envOfC "is_right_ladder" (defScope (top 24)) s.heap.objs.size f cdv))) :
    CSs (cxOf (L2N.CX P w) P w K mg base N_is_right_ladder "is_right_ladder" (defScope (top 24)) f cdv A outer s H E) (fa K v) (T K Z) (fun cls d _ H => E cls d H) (defBody (top 24)) d_is_right_ladder := (ds_seq (ds_if (dt_w (dw_or (dt_not (dt_val (dp_isa isa_tuple (dp_v 0) rfl Fs.fl_isinstance rfl Fs.fl_tuple boot_isinstance boot_tuple))) (dw_or (dt_not (dt_chain op_leP op_leP dp_int (dp_b1 cr_lenP (dp_v 0) rfl Fs.fl_len boot_len) (dp_gint rfl Fs.c_MOST_STEPS))) (dw_or1 (dt_not (dt_val (dp_b1 (cr_allP rfl) (dp_lc rfl S_is_right_ladder.nd (di_seq (dp_v 0)) (blkOk_by (own := [("step", 3)]) (by with_unfolding_all rfl)) (fun _ _ _ _ _ => (dg_name S_is_right_ladder.nd rfl (by first | exact Or.inl rfl | exact Or.inr rfl))) (fun _ _ _ _ _ => dts_nil) (fun _ _ _ _ _ => (dp_call (fd_is_step Fs) (hr.mono (by decide)) takesNo rfl (da_cons (dp_v 3) da_nil)))) rfl Fs.fl_all boot_all))))))) (ds_one (ds_ret dp_bl)) ds_skip) (ds_one (ds_ret (dp_and (dp_cmp (op_eqP (room100 hr)) (dp_ix (dp_ix (dp_v 0) dp_int) dp_int) dp_int (nomark _)) (dp_one (dp_b1 (cr_allP rfl) (dp_lc rfl S_is_right_ladder.nd (di_zip rfl Fs.fl_zip (da_cons (dp_v 0) (da_cons (dp_sl (dp_v 0) (do_part dp_int) do_no) da_nil))) (blkOk_by (own := [("one", 1), ("other", 2)]) (by with_unfolding_all rfl)) (fun _ _ _ _ _ => (dg_tup rfl (dgs_cons (dg_name S_is_right_ladder.nd rfl (by first | exact Or.inl rfl | exact Or.inr rfl)) (dgs_cons (dg_name S_is_right_ladder.nd rfl (by first | exact Or.inl rfl | exact Or.inr rfl)) dgs_nil)))) (fun _ _ _ _ _ => dts_nil) (fun _ _ _ _ _ => (dp_cmp op_ltP (dp_ix (dp_v 1) dp_int) (dp_ix (dp_v 2) dp_int) (nomark _)))) rfl Fs.fl_all boot_all))))))
theorem fd_is_right_ladder (Fs : Fx K mg base) : FD P w K mg base (fa K v) (T K Z) "is_right_ladder" 3 1 f_is_right_ladder := by
  obtain ⟨fd, F⟩ := Fs.df 2 dd_is_right_ladder rfl
  exact ⟨He.ga K "is_right_ladder", fd, P_is_right_ladder, (fn_of_body (k := 2) (ds := d_is_right_ladder) F S_is_right_ladder rfl rfl fun cdv A outer s H E hc hr => b_is_right_ladder Fs  hr), Fs.g_is_right_ladder, F.kp, F.bindsN fun _ _ _ _ _ _ us hl => match us, hl with | [_], _ => rfl⟩
theorem b_is_right_row (Fs : Fx K mg base) (hr : Room 2 (A.deeper (envOfC "is_right_row" (defScope (top 27)) s.heap.objs.size f cdv))) :
    CSs (cxOf (L2N.CX P w) P w K mg base N_is_right_row "is_right_row" (defScope (top 27)) f cdv A outer s H E) (fa K v) (T K Z) (fun cls d _ H => E cls d H) (defBody (top 27)) d_is_right_row := (ds_seq (ds_if (dt_w (dw_or (dt_not (dt_val (dp_isa isa_tuple (dp_v 0) rfl Fs.fl_isinstance rfl Fs.fl_tuple boot_isinstance boot_tuple))) (dw_or (dt_cmp op_gtP (dp_b1 cr_lenP (dp_v 0) rfl Fs.fl_len boot_len) (dp_gint rfl Fs.c_MOST_DEALS) (nomark _)) (dw_or1 (dt_not (dt_val (dp_b1 (cr_allP rfl) (dp_lc rfl S_is_right_row.nd (di_seq (dp_v 0)) (blkOk_by (own := [("pieces", 1)]) (by with_unfolding_all rfl)) (fun _ _ _ _ _ => (dg_name S_is_right_row.nd rfl (by first | exact Or.inl rfl | exact Or.inr rfl))) (fun _ _ _ _ _ => dts_nil) (fun _ _ _ _ _ => (dp_call (fd_is_deal Fs) (hr.mono (by decide)) takesNo rfl (da_cons (dp_v 1) da_nil)))) rfl Fs.fl_all boot_all))))))) (ds_one (ds_ret dp_bl)) ds_skip) (ds_one (ds_ret (dp_call (fd_can_be_done Fs) (hr.mono (by decide)) takesN rfl (da_cons dp_int (da_cons (dp_v 0) da_nil))))))
theorem fd_is_right_row (Fs : Fx K mg base) : FD P w K mg base (fa K v) (T K Z) "is_right_row" 3 1 f_is_right_row := by
  obtain ⟨fd, F⟩ := Fs.df 5 dd_is_right_row rfl
  exact ⟨He.ga K "is_right_row", fd, P_is_right_row, (fn_of_body (k := 2) (ds := d_is_right_row) F S_is_right_row rfl rfl fun cdv A outer s H E hc hr => b_is_right_row Fs  hr), Fs.g_is_right_row, F.kp, F.bindsN fun _ _ _ _ _ _ us hl => match us, hl with | [_], _ => rfl⟩
theorem b_cost_of (Fs : Fx K mg base) (hr : Room 2 (A.deeper (envOfC "cost_of" (defScope (top 30)) s.heap.objs.size f cdv))) :
    CSs (cxOf (L2N.CX P w) P w K mg base N_cost_of "cost_of" (defScope (top 30)) f cdv A outer s H E) (fa K v) (T K Z) (fun cls d _ H => E cls d H) (defBody (top 30)) d_cost_of := (ds_one (ds_ret (dp_op op_mulD (dp_v 1) (dp_call (fd_price_at Fs) (hr.mono (by decide)) takesN rfl (da_cons (dp_v 0) (da_cons (dp_v 1) da_nil))))))
theorem fd_cost_of (Fs : Fx K mg base) : FD P w K mg base (fa K v) (T K Z) "cost_of" 3 2 f_cost_of := by
  obtain ⟨fd, F⟩ := Fs.df 8 dd_cost_of rfl
  exact ⟨He.ga K "cost_of", fd, P_cost_of, (fn_of_body (k := 2) (ds := d_cost_of) F S_cost_of rfl rfl fun cdv A outer s H E hc hr => b_cost_of Fs  hr), Fs.g_cost_of, F.kp, F.bindsN fun _ _ _ _ _ _ us hl => match us, hl with | [_, _], _ => rfl⟩
theorem b_owed_for (Fs : Fx K mg base) (hr : Room 2 (A.deeper (envOfC "owed_for" (defScope (top 32)) s.heap.objs.size f cdv))) :
    CSs (cxOf (L2N.CX P w) P w K mg base N_owed_for "owed_for" (defScope (top 32)) f cdv A outer s H E) (fa K v) (T K Z) (fun cls d _ H => E cls d H) (defBody (top 32)) d_owed_for := (ds_seq (ds_unp (dp_call (fd_pieces_in Fs) (hr.mono (by decide)) takesN rfl (da_cons (dp_v 2) da_nil)) (dg_tup rfl (dgs_cons (dg_name S_owed_for.nd rfl (by first | exact Or.inl rfl | exact Or.inr rfl)) (dgs_cons (dg_name S_owed_for.nd rfl (by first | exact Or.inl rfl | exact Or.inr rfl)) dgs_nil)))) (ds_one (ds_ret (dp_op op_mulD (dp_v 3) (dp_call (fd_price_at Fs) (hr.mono (by decide)) takesN rfl (da_cons (dp_v 0) (da_cons (dp_if (dt_val (dp_v 1)) (dp_v 4) (dp_v 3)) da_nil)))))))
theorem fd_owed_for (Fs : Fx K mg base) : FD P w K mg base (fa K v) (T K Z) "owed_for" 3 3 f_owed_for := by
  obtain ⟨fd, F⟩ := Fs.df 10 dd_owed_for rfl
  exact ⟨He.ga K "owed_for", fd, P_owed_for, (fn_of_body (k := 2) (ds := d_owed_for) F S_owed_for rfl rfl fun cdv A outer s H E hc hr => b_owed_for Fs  hr), Fs.g_owed_for, F.kp, F.bindsN fun _ _ _ _ _ _ us hl => match us, hl with | [_, _, _], _ => rfl⟩
theorem b__law_steps (Fs : Fx K mg base) (hr : Room 2 (A.deeper (envOfC "_law_steps" (defScope (top 55)) s.heap.objs.size f cdv))) :
    CSs (cxOf (L2N.CX P w) P w K mg base N__law_steps "_law_steps" (defScope (top 55)) f cdv A outer s H E) (fa K v) (T K Z) (fun cls d _ H => E cls d H) (defBody (top 55)) d__law_steps := (ds_seq (ds_par3 (i := 2) (j := 3) (l := 4) rfl S__law_steps.nd rfl rfl rfl (by decide) (by decide) (by decide) rfl rfl rfl (da_cons (dp_call (fd__law_chosen Fs) (hr.mono (by decide)) takesN rfl (da_cons (dp_v 0) (da_cons (dp_lst (da_cons dp_int (da_cons dp_int (da_cons dp_int (da_cons (dp_op op_powD dp_int dp_int) da_nil))))) da_nil))) (da_cons (dp_lstM da_nil) (da_cons dp_int da_nil)))) (ds_seq (ds_for (passes_of rfl) rfl (di_range1 rfl Fs.fl_range (da_cons (dp_op op_addD dp_int (dp_call (fd__law_pick Fs) (hr.mono (by decide)) takesN rfl (da_cons (dp_v 0) (da_cons dp_int da_nil)))) da_nil)) (dg_name S__law_steps.nd rfl (by first | exact Or.inl rfl | exact Or.inr rfl)) (ds_seq (ds_drop (dp_app (dp_v 3) (dp_tup (da_cons (dp_v 4) (da_cons (dp_call (fd__law_pick Fs) (hr.mono (by decide)) takesN rfl (da_cons (dp_v 0) (da_cons (dp_op op_addD (dp_v 2) dp_int) da_nil))) da_nil))))) (ds_one (ds_set (i := 4) S__law_steps.nd rfl (by first | exact Or.inl rfl | exact Or.inr rfl) (dp_op op_addD (dp_op op_addD (dp_v 4) dp_int) (dp_call (fd__law_pick Fs) (hr.mono (by decide)) takesN rfl (da_cons (dp_v 0) (da_cons (dp_v 1) da_nil)))))))) (ds_one (ds_ret (dp_t1 cr_tupP (dp_v 3) rfl Fs.fl_tuple boot_tuple)))))
theorem fd__law_steps (Fs : Fx K mg base) : FD P w K mg base (fa K v) (T K Z) "_law_steps" 3 2 f__law_steps := by
  obtain ⟨fd, F⟩ := Fs.df 30 dd__law_steps rfl
  exact ⟨He.ga K "_law_steps", fd, P__law_steps, FnOk.fr (fn_of_body (k := 2) (ds := d__law_steps) F S__law_steps rfl rfl fun cdv A outer s H E hc hr => b__law_steps Fs  hr), Fs.g__law_steps, F.kp, F.bindsN fun _ _ _ _ _ _ us hl => match us, hl with | [_, _], _ => rfl⟩
theorem b__law_paid (Fs : Fx K mg base) (hr : Room 2 (A.deeper (envOfC "_law_paid" (defScope (top 58)) s.heap.objs.size f cdv))) :
    CSs (cxOf (L2N.CX P w) P w K mg base N__law_paid "_law_paid" (defScope (top 58)) f cdv A outer s H E) (fa K v) (T K Z) (fun cls d _ H => E cls d H) (defBody (top 58)) d__law_paid := (ds_seq (ds_set (i := 2) S__law_paid.nd rfl (by first | exact Or.inl rfl | exact Or.inr rfl) (dp_tup (da_cons (dp_call (fd__law_cost Fs) (hr.mono (by decide)) takesN rfl (da_cons (dp_v 0) (da_cons (dp_v 1) da_nil))) (da_cons (dp_v 1) da_nil)))) (ds_seq (ds_for (passes_of rfl) rfl (di_seq (dp_v 0)) (dg_tup rfl (dgs_cons (dg_name S__law_paid.nd rfl (by first | exact Or.inl rfl | exact Or.inr rfl)) (dgs_cons (dg_name S__law_paid.nd rfl (by first | exact Or.inl rfl | exact Or.inr rfl)) dgs_nil))) (ds_one (ds_if (dt_w (dw_and (dt_cmp op_gtP (dp_v 3) (dp_v 1) (nomark _)) (dw_and1 (dt_cmp op_ltP (dp_op op_mulD (dp_v 3) (dp_v 4)) (dp_ix (dp_v 2) dp_int) (nomark _))))) (ds_one (ds_set (i := 2) S__law_paid.nd rfl (by first | exact Or.inl rfl | exact Or.inr rfl) (dp_tup (da_cons (dp_op op_mulD (dp_v 3) (dp_v 4)) (da_cons (dp_v 3) da_nil))))) ds_skip))) (ds_one (ds_ret (dp_v 2)))))
theorem fd__law_paid (Fs : Fx K mg base) : FD P w K mg base (fa K v) (T K Z) "_law_paid" 3 2 f__law_paid := by
  obtain ⟨fd, F⟩ := Fs.df 33 dd__law_paid rfl
  exact ⟨He.ga K "_law_paid", fd, P__law_paid, (fn_of_body (k := 2) (ds := d__law_paid) F S__law_paid rfl rfl fun cdv A outer s H E hc hr => b__law_paid Fs  hr), Fs.g__law_paid, F.kp, F.bindsN fun _ _ _ _ _ _ us hl => match us, hl with | [_, _], _ => rfl⟩
theorem b__law_trip (Fs : Fx K mg base) (hr : Room 2 (A.deeper (envOfC "_law_trip" (defScope (top 62)) s.heap.objs.size f cdv))) :
    CSs (cxOf (L2N.CX P w) P w K mg base N__law_trip "_law_trip" (defScope (top 62)) f cdv A outer s H E) (fa K v) (T K Z) (fun cls d _ H => E cls d H) (defBody (top 62)) d__law_trip := (ds_seq (ds_set (i := 2) S__law_trip.nd rfl (by first | exact Or.inl rfl | exact Or.inr rfl) (dp_tup (da_cons (dp_call (fd__law_cost Fs) (hr.mono (by decide)) takesN rfl (da_cons (dp_v 0) (da_cons (dp_v 1) da_nil))) (da_cons (dp_v 1) da_nil)))) (ds_seq (ds_for (passes_of rfl) rfl (di_seq (dp_v 0)) (dg_tup rfl (dgs_cons (dg_name S__law_trip.nd rfl (by first | exact Or.inl rfl | exact Or.inr rfl)) (dgs_cons (dg_name S__law_trip.nd rfl (by first | exact Or.inl rfl | exact Or.inr rfl)) dgs_nil))) (ds_one (ds_if (dt_w (dw_and (dt_cmp op_gtP (dp_v 3) (dp_v 1) (nomark _)) (dw_and1 (dt_cmp op_ltP (dp_op op_mulD (dp_v 1) (dp_v 4)) (dp_ix (dp_v 2) dp_int) (nomark _))))) (ds_one (ds_set (i := 2) S__law_trip.nd rfl (by first | exact Or.inl rfl | exact Or.inr rfl) (dp_tup (da_cons (dp_op op_mulD (dp_v 1) (dp_v 4)) (da_cons (dp_v 3) da_nil))))) ds_skip))) (ds_one (ds_ret (dp_v 2)))))
theorem fd__law_trip (Fs : Fx K mg base) : FD P w K mg base (fa K v) (T K Z) "_law_trip" 3 2 f__law_trip := by
  obtain ⟨fd, F⟩ := Fs.df 37 dd__law_trip rfl
  exact ⟨He.ga K "_law_trip", fd, P__law_trip, (fn_of_body (k := 2) (ds := d__law_trip) F S__law_trip rfl rfl fun cdv A outer s H E hc hr => b__law_trip Fs  hr), Fs.g__law_trip, F.kp, F.bindsN fun _ _ _ _ _ _ us hl => match us, hl with | [_, _], _ => rfl⟩
theorem b_payments_of (Fs : Fx K mg base) (hr : Room 3 (A.deeper (envOfC "payments_of" (defScope (top 33)) s.heap.objs.size f cdv))) :
    CSs (cxOf (L2N.CX P w) P w K mg base N_payments_of "payments_of" (defScope (top 33)) f cdv A outer s H E) (fa K v) (T K Z) (fun cls d _ H => E cls d H) (defBody (top 33)) d_payments_of := (ds_seq (ds_setLc rfl S_payments_of.nd (i := 3) rfl rfl (sw_true rfl rfl rfl (by with_unfolding_all rfl)) (di_range1 rfl Fs.fl_range (da_cons (dp_op op_addD (dp_b1 cr_lenP (dp_v 2) rfl Fs.fl_len boot_len) dp_int) da_nil)) (blkOk_by (own := [("at", 4)]) (by with_unfolding_all rfl)) (fun _ _ _ _ _ => (dg_name S_payments_of.nd rfl (by first | exact Or.inl rfl | exact Or.inr rfl))) (fun _ _ _ _ _ => dts_nil) (fun _ _ _ _ _ => (dp_call (fd_owed_for Fs) (hr.mono (by decide)) takesNo rfl (da_cons (dp_v 0) (da_cons (dp_v 1) (da_cons (dp_sl (dp_v 2) do_no (do_part (dp_v 4))) da_nil)))))) (ds_one (ds_ret (dp_lc rfl S_payments_of.nd (di_zip rfl Fs.fl_zip (da_cons (dp_v 3) (da_cons (dp_sl (dp_v 3) (do_part dp_int) do_no) da_nil))) (blkOk_by (own := [("old", 5), ("new", 6)]) (by with_unfolding_all rfl)) (fun _ _ _ _ _ => (dg_tup rfl (dgs_cons (dg_name S_payments_of.nd rfl (by first | exact Or.inl rfl | exact Or.inr rfl)) (dgs_cons (dg_name S_payments_of.nd rfl (by first | exact Or.inl rfl | exact Or.inr rfl)) dgs_nil)))) (fun _ _ _ _ _ => dts_nil) (fun _ _ _ _ _ => (dp_op op_subD (dp_v 6) (dp_v 5)))))))
theorem fd_payments_of (Fs : Fx K mg base) : FD P w K mg base (fa K v) (T K Z) "payments_of" 4 3 f_payments_of := by
  obtain ⟨fd, F⟩ := Fs.df 11 dd_payments_of rfl
  exact ⟨He.ga K "payments_of", fd, P_payments_of, (fn_of_body (k := 3) (ds := d_payments_of) F S_payments_of rfl rfl fun cdv A outer s H E hc hr => b_payments_of Fs  hr), Fs.g_payments_of, F.kp, F.bindsN fun _ _ _ _ _ _ us hl => match us, hl with | [_, _, _], _ => rfl⟩
theorem b_need_ladder (Fs : Fx K mg base) (hr : Room 3 (A.deeper (envOfC "need_ladder" (defScope (top 34)) s.heap.objs.size f cdv))) :
    CSs (cxOf (L2N.CX P w) P w K mg base N_need_ladder "need_ladder" (defScope (top 34)) f cdv A outer s H E) (fa K v) (T K Z) (fun cls d _ H => E cls d H) (defBody (top 34)) d_need_ladder := (ds_one (ds_if (dt_not (dt_val (dp_call (fd_is_right_ladder Fs) (hr.mono (by decide)) takesN rfl (da_cons (dp_v 0) da_nil)))) (ds_one (ds_raise rfl takesN F.excBase_ValueError Fs.x_InvalidLadder.1 Fs.g_InvalidLadder Fs.x_InvalidLadder.2.1 (raises_own Fs.x_InvalidLadder.2.2.1 Fs.x_InvalidLadder.2.2.2) rfl rfl)) ds_skip))
theorem fd_need_ladder (Fs : Fx K mg base) : FD P w K mg base (fa K v) (T K Z) "need_ladder" 4 1 f_need_ladder := by
  obtain ⟨fd, F⟩ := Fs.df 12 dd_need_ladder rfl
  exact ⟨He.ga K "need_ladder", fd, P_need_ladder, (fn_of_body (k := 3) (ds := d_need_ladder) F S_need_ladder rfl rfl fun cdv A outer s H E hc hr => b_need_ladder Fs  hr), Fs.g_need_ladder, F.kp, F.bindsN fun _ _ _ _ _ _ us hl => match us, hl with | [_], _ => rfl⟩
theorem b_bought_for (Fs : Fx K mg base) (hr : Room 3 (A.deeper (envOfC "bought_for" (defScope (top 39)) s.heap.objs.size f cdv))) :
    CSs (cxOf (L2N.CX P w) P w K mg base N_bought_for "bought_for" (defScope (top 39)) f cdv A outer s H E) (fa K v) (T K Z) (fun cls d _ H => E cls d H) (defBody (top 39)) d_bought_for := (ds_seq (ds_setLc rfl S_bought_for.nd (i := 2) rfl rfl (sw_true rfl rfl rfl (by with_unfolding_all rfl)) (di_seq (dp_sl (dp_v 0) (do_part (dp_op op_addD (dp_call (fd_step_at Fs) (hr.mono (by decide)) takesN rfl (da_cons (dp_v 0) (da_cons (dp_v 1) da_nil))) dp_int)) do_no)) (blkOk_by (own := [("border", 3), ("price", 4)]) (by with_unfolding_all rfl)) (fun _ _ _ _ _ => (dg_tup rfl (dgs_cons (dg_name S_bought_for.nd rfl (by first | exact Or.inl rfl | exact Or.inr rfl)) (dgs_cons (dg_name S_bought_for.nd rfl (by first | exact Or.inl rfl | exact Or.inr rfl)) dgs_nil)))) (fun _ _ _ _ _ => dts_nil) (fun _ _ _ _ _ => (dp_v 3))) (ds_one (ds_ret (dp_b1 (cr_minP rfl (room100 hr)) (dp_lc rfl S_bought_for.nd (di_seq (dp_op op_addD (dp_lst (da_cons (dp_v 1) da_nil)) (dp_v 2))) (blkOk_by (own := [("more", 5)]) (by with_unfolding_all rfl)) (fun _ _ _ _ _ => (dg_name S_bought_for.nd rfl (by first | exact Or.inl rfl | exact Or.inr rfl))) (fun _ _ _ _ _ => dts_nil) (fun _ _ _ _ _ => (dp_tup (da_cons (dp_call (fd_cost_of Fs) (hr.mono (by decide)) takesNo rfl (da_cons (dp_v 0) (da_cons (dp_v 5) da_nil))) (da_cons (dp_v 5) da_nil))))) rfl Fs.fl_min boot_min))))
theorem fd_bought_for (Fs : Fx K mg base) : FD P w K mg base (fa K v) (T K Z) "bought_for" 4 2 f_bought_for := by
  obtain ⟨fd, F⟩ := Fs.df 16 dd_bought_for rfl
  exact ⟨He.ga K "bought_for", fd, P_bought_for, (fn_of_body (k := 3) (ds := d_bought_for) F S_bought_for rfl rfl fun cdv A outer s H E hc hr => b_bought_for Fs  hr), Fs.g_bought_for, F.kp, F.bindsN fun _ _ _ _ _ _ us hl => match us, hl with | [_, _], _ => rfl⟩
theorem b_payments (Fs : Fx K mg base) (hr : Room 4 (A.deeper (envOfC "payments" (defScope (top 37)) s.heap.objs.size f cdv))) :
    CSs (cxOf (L2N.CX P w) P w K mg base N_payments "payments" (defScope (top 37)) f cdv A outer s H E) (fa K v) (T K Z) (fun cls d _ H => E cls d H) (defBody (top 37)) d_payments := (ds_seq (ds_drop (dp_call (fd_need_ladder Fs) (hr.mono (by decide)) takesN rfl (da_cons (dp_v 0) da_nil))) (ds_seq (ds_drop (dp_call (fd_need_hold Fs) (hr.mono (by decide)) takesN rfl (da_cons (dp_v 1) da_nil))) (ds_seq (ds_if (dt_not (dt_val (dp_call (fd_is_right_row Fs) (hr.mono (by decide)) takesN rfl (da_cons (dp_v 2) da_nil)))) (ds_one (ds_raise rfl takesN F.excBase_ValueError Fs.x_InvalidRow.1 Fs.g_InvalidRow Fs.x_InvalidRow.2.1 (raises_own Fs.x_InvalidRow.2.2.1 Fs.x_InvalidRow.2.2.2) rfl rfl)) ds_skip) (ds_one (ds_ret (dp_call (fd_payments_of Fs) (hr.mono (by decide)) takesN rfl (da_cons (dp_v 0) (da_cons (dp_v 1) (da_cons (dp_v 2) da_nil)))))))))
theorem fd_payments (Fs : Fx K mg base) : FD P w K mg base (fa K v) (T K Z) "payments" 5 3 f_payments := by
  obtain ⟨fd, F⟩ := Fs.df 15 dd_payments rfl
  exact ⟨He.ga K "payments", fd, P_payments, (fn_of_body (k := 4) (ds := d_payments) F S_payments rfl rfl fun cdv A outer s H E hc hr => b_payments Fs  hr), Fs.g_payments, F.kp, F.bindsN fun _ _ _ _ _ _ us hl => match us, hl with | [_, _, _], _ => rfl⟩
theorem b_paid_for (Fs : Fx K mg base) (hr : Room 4 (A.deeper (envOfC "paid_for" (defScope (top 40)) s.heap.objs.size f cdv))) :
    CSs (cxOf (L2N.CX P w) P w K mg base N_paid_for "paid_for" (defScope (top 40)) f cdv A outer s H E) (fa K v) (T K Z) (fun cls d _ H => E cls d H) (defBody (top 40)) d_paid_for := (ds_one (ds_ret (dp_ix (dp_call (fd_bought_for Fs) (hr.mono (by decide)) takesN rfl (da_cons (dp_v 0) (da_cons (dp_v 1) da_nil))) dp_int)))
theorem fd_paid_for (Fs : Fx K mg base) : FD P w K mg base (fa K v) (T K Z) "paid_for" 5 2 f_paid_for := by
  obtain ⟨fd, F⟩ := Fs.df 17 dd_paid_for rfl
  exact ⟨He.ga K "paid_for", fd, P_paid_for, (fn_of_body (k := 4) (ds := d_paid_for) F S_paid_for rfl rfl fun cdv A outer s H E hc hr => b_paid_for Fs  hr), Fs.g_paid_for, F.kp, F.bindsN fun _ _ _ _ _ _ us hl => match us, hl with | [_, _], _ => rfl⟩
theorem b_round_trip (Fs : Fx K mg base) (hr : Room 4 (A.deeper (envOfC "round_trip" (defScope (top 46)) s.heap.objs.size f cdv))) :
    CSs (cxOf (L2N.CX P w) P w K mg base N_round_trip "round_trip" (defScope (top 46)) f cdv A outer s H E) (fa K v) (T K Z) (fun cls d _ H => E cls d H) (defBody (top 46)) d_round_trip := (ds_seq (ds_drop (dp_call (fd_need_ladder Fs) (hr.mono (by decide)) takesN rfl (da_cons (dp_v 0) da_nil))) (ds_seq (ds_drop (dp_call (fd_need_number Fs) (hr.mono (by decide)) takesN rfl (da_cons (dp_v 1) (da_cons dp_int (da_cons (dp_gint rfl Fs.c_MOST_NUMBER) da_nil))))) (ds_one (ds_ret (dp_call (fd_trip_for Fs) (hr.mono (by decide)) takesN rfl (da_cons (dp_v 0) (da_cons (dp_v 1) da_nil)))))))
theorem fd_round_trip (Fs : Fx K mg base) : FD P w K mg base (fa K v) (T K Z) "round_trip" 5 2 f_round_trip := by
  obtain ⟨fd, F⟩ := Fs.df 22 dd_round_trip rfl
  exact ⟨He.ga K "round_trip", fd, P_round_trip, (fn_of_body (k := 4) (ds := d_round_trip) F S_round_trip rfl rfl fun cdv A outer s H E hc hr => b_round_trip Fs  hr), Fs.g_round_trip, F.kp, F.bindsN fun _ _ _ _ _ _ us hl => match us, hl with | [_, _], _ => rfl⟩
theorem b__law_stretches_right (Fs : Fx K mg base) {good : List U → M U} (G : CloAt (cxOf (L2N.CX P w) P w K mg base N__law_stretches_right "_law_stretches_right" (defScope (top 60)) f cdv A outer s H E) (fa K v) (T K Z) 4 1 good) (hr : Room 4 (A.deeper (envOfC "_law_stretches_right" (defScope (top 60)) s.heap.objs.size f cdv))) :
    CSs (cxOf (L2N.CX P w) P w K mg base N__law_stretches_right "_law_stretches_right" (defScope (top 60)) f cdv A outer s H E) (fa K v) (T K Z) (fun cls d _ H => E cls d H) (defBody (top 60)) (d__law_stretches_right good) := (ds_seq (ds_set (i := 3) S__law_stretches_right.nd rfl (by first | exact Or.inl rfl | exact Or.inr rfl) (dp_neg dp_int)) (ds_seq (ds_for (passes_of rfl) rfl (di_seq (dp_v 0)) (dg_name S__law_stretches_right.nd rfl (by first | exact Or.inl rfl | exact Or.inr rfl)) (ds_seq (ds_if (dt_w (dw_or (dt_not (dt_val (dp_isa isa_tuple (dp_v 4) rfl Fs.fl_isinstance rfl Fs.fl_tuple boot_isinstance boot_tuple))) (dw_or (dt_cmp (op_neP (room100 hr)) (dp_b1 cr_lenP (dp_v 4) rfl Fs.fl_len boot_len) dp_int (nomark _)) (dw_or1 (dt_not (dt_chain op_ltP op_leP (dp_op op_addD (dp_v 3) dp_int) (dp_ix (dp_v 4) dp_int) (dp_ix (dp_v 4) dp_int))))))) (ds_one (ds_ret dp_bl)) ds_skip) (ds_seq (ds_set (i := 3) S__law_stretches_right.nd rfl (by first | exact Or.inl rfl | exact Or.inr rfl) (dp_ix (dp_v 4) dp_int)) (ds_one (ds_if (dt_w (dw_or (dt_not (dt_val (dp_good (i := 1) G (hr.mono (by decide)) rfl (by first | exact Or.inl rfl | exact Or.inr (Or.inl rfl) | exact Or.inr (Or.inr rfl)) (da_cons (dp_ix (dp_v 4) dp_int) da_nil)))) (dw_or (dt_not (dt_val (dp_good (i := 1) G (hr.mono (by decide)) rfl (by first | exact Or.inl rfl | exact Or.inr (Or.inl rfl) | exact Or.inr (Or.inr rfl)) (da_cons (dp_v 3) da_nil)))) (dw_or (dt_val (dp_good (i := 1) G (hr.mono (by decide)) rfl (by first | exact Or.inl rfl | exact Or.inr (Or.inl rfl) | exact Or.inr (Or.inr rfl)) (da_cons (dp_op op_addD (dp_v 3) dp_int) da_nil))) (dw_or1 (dt_w (dw_and (dt_cmp op_gtP (dp_ix (dp_v 4) dp_int) dp_int (nomark _)) (dw_and1 (dt_val (dp_good (i := 1) G (hr.mono (by decide)) rfl (by first | exact Or.inl rfl | exact Or.inr (Or.inl rfl) | exact Or.inr (Or.inr rfl)) (da_cons (dp_op op_subD (dp_ix (dp_v 4) dp_int) dp_int) da_nil))))))))))) (ds_one (ds_ret dp_bl)) ds_skip))))) (ds_seq (ds_for (passes_of rfl) rfl (di_seq (dp_v 2)) (dg_name S__law_stretches_right.nd rfl (by first | exact Or.inl rfl | exact Or.inr rfl)) (ds_one (ds_if (dt_cmp (op_neP (room100 hr)) (dp_good (i := 1) G (hr.mono (by decide)) rfl (by first | exact Or.inl rfl | exact Or.inr (Or.inl rfl) | exact Or.inr (Or.inr rfl)) (da_cons (dp_v 5) da_nil)) (dp_cmp (op_neP (room100 hr)) (dp_lc rfl S__law_stretches_right.nd (di_seq (dp_v 0)) (blkOk_by (own := [("first", 6), ("end", 7)]) (by with_unfolding_all rfl)) (fun _ _ _ _ _ => (dg_tup rfl (dgs_cons (dg_name S__law_stretches_right.nd rfl (by first | exact Or.inl rfl | exact Or.inr rfl)) (dgs_cons (dg_name S__law_stretches_right.nd rfl (by first | exact Or.inl rfl | exact Or.inr rfl)) dgs_nil)))) (fun _ _ _ _ _ => (dts_one (dt_chain op_leP op_leP (dp_v 6) (dp_v 5) (dp_v 7)))) (fun _ _ _ _ _ => dp_int)) (dp_lst da_nil) (nomark _)) (nomark _)) (ds_one (ds_ret dp_bl)) ds_skip))) (ds_one (ds_ret dp_bl)))))
theorem b_held_in (Fs : Fx K mg base) (hr : Room 5 (A.deeper (envOfC "held_in" (defScope (top 45)) s.heap.objs.size f cdv))) :
    CSs (cxOf (L2N.CX P w) P w K mg base N_held_in "held_in" (defScope (top 45)) f cdv A outer s H E) (fa K v) (T K Z) (fun cls d _ H => E cls d H) (defBody (top 45)) d_held_in := (ds_seq (ds_unp (dp_ix (dp_v 0) (dp_v 1)) (dg_tup rfl (dgs_cons (dg_name S_held_in.nd rfl (by first | exact Or.inl rfl | exact Or.inr rfl)) (dgs_cons (dg_name S_held_in.nd rfl (by first | exact Or.inl rfl | exact Or.inr rfl)) dgs_nil)))) (ds_seq (ds_par2 (i := 4) (j := 5) rfl S_held_in.nd rfl rfl (by decide) rfl rfl (da_cons (dp_ix (dp_call (fd_ends_of Fs) (hr.mono (by decide)) takesN rfl (da_cons (dp_v 0) da_nil)) (dp_v 1)) (da_cons (dp_b1 (cr_minP rfl (room100 hr)) (dp_lc rfl S_held_in.nd (di_seq (dp_sl (dp_v 0) (do_part (dp_v 1)) do_no)) (blkOk_by (own := [("later", 7)]) (by with_unfolding_all rfl)) (fun _ _ _ _ _ => (dg_name S_held_in.nd rfl (by first | exact Or.inl rfl | exact Or.inr rfl))) (fun _ _ _ _ _ => dts_nil) (fun _ _ _ _ _ => (dp_ix (dp_v 7) dp_int))) rfl Fs.fl_min boot_min) da_nil))) (ds_seq (ds_if (dt_w (dw_or (dt_cmp op_isNP (dp_v 4) dp_non (nomark _)) (dw_or (dt_cmp (op_eqP (room100 hr)) (dp_v 5) (dp_v 3) (nomark _)) (dw_or1 (dt_cmp (op_eqP (room100 hr)) (dp_call (fd_paid_for Fs) (hr.mono (by decide)) takesN rfl (da_cons (dp_v 0) (da_cons (dp_op op_addD (dp_v 4) dp_int) da_nil))) dp_int (nomark _)))))) (ds_one (ds_ret (dp_lst da_nil))) ds_skip) (ds_seq (ds_set (i := 6) S_held_in.nd rfl (by first | exact Or.inl rfl | exact Or.inr rfl) (dp_b2 (cr_max2P rfl) (dp_v 2) dp_int rfl Fs.fl_max boot_max)) (ds_one (ds_ret (dp_if (dt_cmp op_leP (dp_v 6) (dp_v 4) (nomark _)) (dp_lst (da_cons (dp_tup (da_cons (dp_v 6) (da_cons (dp_v 4) da_nil))) da_nil)) (dp_lst da_nil))))))))
theorem fd_held_in (Fs : Fx K mg base) : FD P w K mg base (fa K v) (T K Z) "held_in" 6 2 f_held_in := by
  obtain ⟨fd, F⟩ := Fs.df 21 dd_held_in rfl
  exact ⟨He.ga K "held_in", fd, P_held_in, (fn_of_body (k := 5) (ds := d_held_in) F S_held_in rfl rfl fun cdv A outer s H E hc hr => b_held_in Fs  hr), Fs.g_held_in, F.kp, F.bindsN fun _ _ _ _ _ _ us hl => match us, hl with | [_, _], _ => rfl⟩
theorem b_held_gains (Fs : Fx K mg base) (hr : Room 6 (A.deeper (envOfC "held_gains" (defScope (top 47)) s.heap.objs.size f cdv))) :
    CSs (cxOf (L2N.CX P w) P w K mg base N_held_gains "held_gains" (defScope (top 47)) f cdv A outer s H E) (fa K v) (T K Z) (fun cls d _ H => E cls d H) (defBody (top 47)) d_held_gains := (ds_seq (ds_drop (dp_call (fd_need_ladder Fs) (hr.mono (by decide)) takesN rfl (da_cons (dp_v 0) da_nil))) (ds_one (ds_ret (dp_call (fd_merged Fs) (hr.mono (by decide)) takesN rfl (da_cons (dp_lc2 (vs1 := [2]) rfl S_held_gains.nd (di_range1 rfl Fs.fl_range (da_cons (dp_b1 cr_lenP (dp_v 0) rfl Fs.fl_len boot_len) da_nil)) (blkOk_by (own := [("at", 1), ("stretch", 2)]) (by with_unfolding_all rfl)) (fun _ _ _ _ _ => (dg_name S_held_gains.nd rfl (by first | exact Or.inl rfl | exact Or.inr rfl))) (fun _ _ _ _ _ => dts_nil) (fun _ _ _ _ _ => (di_seq (dp_call (fd_held_in Fs) (hr.mono (by decide)) takesNo rfl (da_cons (dp_v 0) (da_cons (dp_v 1) da_nil))))) (fun _ _ _ _ _ => (dg_name S_held_gains.nd rfl (by first | exact Or.inl rfl | exact Or.inr rfl))) (fun _ _ _ _ _ => dts_nil) (fun _ _ _ _ _ => (dp_v 2))) da_nil)))))
theorem fd_held_gains (Fs : Fx K mg base) : FD P w K mg base (fa K v) (T K Z) "held_gains" 7 1 f_held_gains := by
  obtain ⟨fd, F⟩ := Fs.df 23 dd_held_gains rfl
  exact ⟨He.ga K "held_gains", fd, P_held_gains, (fn_of_body (k := 6) (ds := d_held_gains) F S_held_gains rfl rfl fun cdv A outer s H E hc hr => b_held_gains Fs  hr), Fs.g_held_gains, F.kp, F.bindsN fun _ _ _ _ _ _ us hl => match us, hl with | [_], _ => rfl⟩
theorem bn__law_gains (Fs : Fx K mg base) {q : Str} {cl : List (Str × Addr)} {c' : Addr} (hr : Room 3 (A.deeper (envF (NF.of nd__law_gains "_law_gains" q cl c') f s.heap.objs.size))) :
    CSs (ncx (L2N.CX P w) P w K mg base N__law_gains (NF.of nd__law_gains "_law_gains" q cl c') f A outer s H E) (fa K v) (T K Z) (fun cls d _ H => E cls d H) (C8.fnBody nd__law_gains) d__law_gains := (ds_one (ds_ret (dp_cmp op_ltP (dp_ix (dp_call (fd__law_trip Fs) (hr.mono (by decide)) takesC rfl (da_cons (dp_v 1) (da_cons (dp_v 0) da_nil))) dp_int) (dp_ix (dp_call (fd__law_paid Fs) (hr.mono (by decide)) takesC rfl (da_cons (dp_v 1) (da_cons (dp_v 0) da_nil))) dp_int) (nomark _))))
theorem nok__law_gains (Fs : Fx K mg base) {q : Str} {cl : List (Str × Addr)} {c' : Addr} : NOk P w K mg base (L2N.CX P w) 4 f (NF.of nd__law_gains "_law_gains" q cl c') ["number"] ["ladder_so"] (spN ⟨K, fa K v, T K Z⟩ 1 f__law_gains) :=
  nok_of_body (k := 3) (N := N__law_gains) S__law_gains rfl rfl rfl (fun doc pm ctv us hl => match us, hl with | [_], _ => rfl) fun A outer s H E hr => bn__law_gains Fs hr
theorem err__law_error (Fs : Fx K mg base) : ErrFn P w K mg base (fa K v) (T K Z) "_law_error" 7 errtx := by
  obtain ⟨fd, Fn⟩ := Fs.df 29 dd__law_error rfl
  refine errfn_of (N := N__law_error) (db := d__law_error) Fn S__law_error Fs.g__law_error (Fn.bindsN fun _ _ _ _ _ _ us hl => match us, hl with | [_], _ => rfl) (fun cdv A outer s H a oe c C t hot hz hf hC ht hr => ?_) (fun c t ht => ?_)
  · have hcm : c ∈ errIds := by
      unfold errtx at ht
      repeat (first | (split at ht; · (subst_vars; decide)) | (cases ht))
    have hc0 : c ≠ 0 := fun z => by
      subst z
      exact nomatch (show (none : Option Str) = some t from ht)
    have eC : C = He.ga K (nm c) := (V.ref.inj ((fa_ne hc0).symm.trans hC)).symm
    subst eC
    have hX := Fs.exc c hcm
    exact (ds_seq (ds_set (i := 1) S__law_error.nd rfl (by first | exact Or.inl rfl | exact Or.inr rfl) (dp_lst (da_cons (dp_tup (da_cons dp_str (da_cons (dp_isE (call_isP hX hz hf (List.mem_cons_self)) rfl (Fs.kit c hcm 2 (by decide)) rfl Fs.fl_isinstance rfl (Or.inl rfl) rfl Fs.g_InvalidLadder boot_isinstance) da_nil))) (da_cons (dp_tup (da_cons dp_str (da_cons (dp_isE (call_isP hX hz hf (List.mem_cons_self)) rfl (Fs.kit c hcm 3 (by decide)) rfl Fs.fl_isinstance rfl (Or.inl rfl) rfl Fs.g_InvalidNumber boot_isinstance) da_nil))) da_nil)))) (ds_seq (ds_set (i := 1) S__law_error.nd rfl (by first | exact Or.inl rfl | exact Or.inr rfl) (dp_op op_addD (dp_v 1) (dp_lst (da_cons (dp_tup (da_cons dp_str (da_cons (dp_isE (call_isP hX hz hf (List.mem_cons_self)) rfl (Fs.kit c hcm 4 (by decide)) rfl Fs.fl_isinstance rfl (Or.inl rfl) rfl Fs.g_InvalidHold boot_isinstance) da_nil))) (da_cons (dp_tup (da_cons dp_str (da_cons (dp_isE (call_isP hX hz hf (List.mem_cons_self)) rfl (Fs.kit c hcm 5 (by decide)) rfl Fs.fl_isinstance rfl (Or.inl rfl) rfl Fs.g_InvalidRow boot_isinstance) da_nil))) da_nil))))) (ds_seq (ds_set (i := 1) S__law_error.nd rfl (by first | exact Or.inl rfl | exact Or.inr rfl) (dp_op op_addD (dp_v 1) (dp_lst (da_cons (dp_tup (da_cons dp_str (da_cons (dp_isE (call_isP hX hz hf (List.mem_cons_self)) rfl (Fs.kit c hcm 6 (by decide)) rfl Fs.fl_isinstance rfl (Or.inl rfl) rfl Fs.g_InvalidGroup boot_isinstance) da_nil))) (da_cons (dp_tup (da_cons dp_str (da_cons (dp_isE (call_isP hX hz hf (List.mem_cons_self)) rfl (Fs.kit c hcm 7 (by decide)) rfl Fs.fl_isinstance rfl (Or.inl rfl) rfl Fs.g_InvalidPrices boot_isinstance) da_nil))) da_nil))))) (ds_seq (ds_set (i := 1) S__law_error.nd rfl (by first | exact Or.inl rfl | exact Or.inr rfl) (dp_op op_addD (dp_v 1) (dp_lst (da_cons (dp_tup (da_cons dp_str (da_cons (dp_isE (call_isP hX hz hf (List.mem_cons_self)) rfl (Fs.kit c hcm 8 (by decide)) rfl Fs.fl_isinstance rfl (Or.inl rfl) rfl Fs.g_InvalidBills boot_isinstance) da_nil))) (da_cons (dp_tup (da_cons dp_str (da_cons (dp_isE (call_isP hX hz hf (List.mem_cons_self)) rfl (Fs.kit c hcm 9 (by decide)) rfl Fs.fl_isinstance rfl (Or.inl rfl) rfl Fs.g_InvalidIndex boot_isinstance) da_nil))) da_nil))))) (ds_seq (ds_set (i := 1) S__law_error.nd rfl (by first | exact Or.inl rfl | exact Or.inr rfl) (dp_op op_addD (dp_v 1) (dp_lst (da_cons (dp_tup (da_cons dp_str (da_cons (dp_isE (call_isP hX hz hf (List.mem_cons_self)) rfl (Fs.kit c hcm 10 (by decide)) rfl Fs.fl_isinstance rfl (Or.inl rfl) rfl Fs.g_InvalidDeal boot_isinstance) da_nil))) (da_cons (dp_tup (da_cons dp_str (da_cons (dp_isE (call_isP hX hz hf (List.mem_cons_self)) rfl (Fs.kit c hcm 11 (by decide)) rfl Fs.fl_isinstance rfl (Or.inl rfl) rfl Fs.g_NoLadder boot_isinstance) da_nil))) da_nil))))) (ds_seq (ds_set (i := 1) S__law_error.nd rfl (by first | exact Or.inl rfl | exact Or.inr rfl) (dp_op op_addD (dp_v 1) (dp_lst (da_cons (dp_tup (da_cons dp_str (da_cons (dp_isE (call_isP hX hz hf (List.mem_cons_self)) rfl (Fs.kit c hcm 12 (by decide)) rfl Fs.fl_isinstance rfl (Or.inl rfl) rfl Fs.g_Unlike boot_isinstance) da_nil))) (da_cons (dp_tup (da_cons dp_str (da_cons (dp_isE (call_isP hX hz hf (List.mem_cons_self)) rfl (Fs.kit c hcm 13 (by decide)) rfl Fs.fl_isinstance rfl (Or.inl rfl) rfl Fs.g_NothingToUndo boot_isinstance) da_nil))) da_nil))))) (ds_seq (ds_set (i := 1) S__law_error.nd rfl (by first | exact Or.inl rfl | exact Or.inr rfl) (dp_op op_addD (dp_v 1) (dp_lst (da_cons (dp_tup (da_cons dp_str (da_cons (dp_isE (call_isP hX hz hf (List.mem_cons_self)) rfl (Fs.kit c hcm 14 (by decide)) rfl Fs.fl_isinstance rfl (Or.inl rfl) rfl Fs.g_TooMany boot_isinstance) da_nil))) (da_cons (dp_tup (da_cons dp_str (da_cons (dp_isE (call_isP hX hz hf (List.mem_cons_self)) rfl (Fs.kit c hcm 15 (by decide)) rfl Fs.fl_isinstance rfl (Or.inl rfl) rfl Fs.g_InvalidText boot_isinstance) da_nil))) da_nil))))) (ds_one (ds_ret (dp_join dp_str (dp_lcH ⟨(a, oe), hot, List.mem_cons_self⟩ S__law_error.nd (di_seqP (dp_v 1)) (blkOk_by (own := [("word_so", 2), ("good", 3)]) (by with_unfolding_all rfl)) (fun _ _ _ _ _ => (dg_tupH ⟨(a, oe), hot, List.mem_cons_self⟩ (dgs_cons (dg_name S__law_error.nd rfl (by first | exact Or.inl rfl | exact Or.inr rfl)) (dgs_cons (dg_name S__law_error.nd rfl (by first | exact Or.inl rfl | exact Or.inr rfl)) dgs_nil)))) (fun _ _ _ _ _ => (dts_one (dt_val (dp_v 3)))) (fun _ _ _ _ _ => (dp_v 2)))))))))))))
  · unfold errtx at ht
    repeat (first | (split at ht; · (subst_vars; cases ht; rfl)) | (cases ht))
theorem b__law_right (Fs : Fx K mg base) (hc : cdv = .ref (He.codeOf K ("_law_right", none))) (hr : Room 7 (A.deeper (envOfC "_law_right" (defScope (top 63)) s.heap.objs.size f cdv))) :
    CSs (cxOf (L2N.CX P w) P w K mg base N__law_right "_law_right" (defScope (top 63)) f cdv A outer s H E) (fa K v) (T K Z) (fun cls d _ H => E cls d H) (defBody (top 63)) d__law_right := (ds_ndef (i := 3) (fa2 := fun f => fa K (.ref f)) (st := nd__law_gains) (qq := ("_law_right" : Str) ++ (".<locals>." : Str)) rfl rfl (Fs.tb ("_law_right", none) (by simp [tf])) hc (List.mem_cons_of_mem _ (List.mem_cons_self) : ((He.cT K ("_law_right", none)).2, ((("_law_right" : Str) ++ (".<locals>." : Str)) ++ ("_law_gains" : Str))) ∈ Tt K) (fun p hp hpe => congrArg Prod.snd (nodup_fst Fs.dis hp (List.mem_cons_of_mem _ (List.mem_cons_self) : ((He.cT K ("_law_right", none)).2, ((("_law_right" : Str) ++ (".<locals>." : Str)) ++ ("_law_gains" : Str))) ∈ Tt K) hpe)) (ndef_free (sc := defScope (top 63)) (nsc := C8.fnScope nd__law_gains) (fr := ["ladder_so"]) (by decide +kernel)) rfl rfl rfl S__law_right.nd rfl (by first | exact Or.inl rfl | exact Or.inr rfl) (by first | exact .inl rfl | exact .inr rfl) (fun _ => rfl) (fun f c' => (ds_seq (ds_set (i := 4) S__law_right.nd rfl (by first | exact Or.inl rfl | exact Or.inr rfl) (dp_call (fd__law_numbers Fs) (hr.mono (by decide)) takesN rfl (da_cons (dp_v 0) (da_cons (dp_v 1) da_nil)))) (ds_seq (ds_if (dt_val (dp_v 2)) (ds_seq (ds_set (i := 4) S__law_right.nd rfl (by first | exact Or.inl rfl | exact Or.inr rfl) (dp_lstRg rfl rfl rfl (dp_op op_addD (dp_ix (dp_ix (dp_v 1) (dp_neg dp_int)) dp_int) dp_int) rfl Fs.fl_list rfl Fs.fl_range)) (ds_one (ds_if (dt_cmp (op_neP (room100 hr)) (dp_call (fd_held_gains Fs) (hr.mono (by decide)) takesN rfl (da_cons (dp_v 1) da_nil)) (dp_call (fd__law_stretches Fs) (hr.mono (by decide)) takesN rfl (da_cons (dp_lcC (js := [1]) (k := 4) (fr := ["ladder_so"]) (psC := ["number"]) (clo := f__law_gains) (mk := fun good => (dTest (dGood 3 1 good (dCons (dV 5) dNil)))) rfl List.mem_cons_self (List.mem_cons_of_mem _ List.mem_cons_self) (fun ok => Caps.made ok (ndef_free (sc := defScope (top 63)) (nsc := C8.fnScope nd__law_gains) (fr := ["ladder_so"]) (by decide +kernel)) (ndef_fr (sc := defScope (top 63)) (nsc := C8.fnScope nd__law_gains) (fr := ["ladder_so"]) (by decide +kernel)) rfl) (fun _ _ => nok__law_gains Fs) rfl S__law_right.nd (fun _ _ => di_seqP (dp_v 4)) (blkOk_by (own := [("number", 5)]) (by with_unfolding_all rfl)) (fun _ _ _ _ _ _ _ => (dg_name S__law_right.nd rfl (by first | exact Or.inl rfl | exact Or.inr rfl))) (fun _ _ _ _ _ _ _ good G => (dts_one (dt_val (dp_good (i := 3) G (hr.mono (by decide)) rfl (by first | exact Or.inl rfl | exact Or.inr (Or.inl rfl) | exact Or.inr (Or.inr rfl)) (da_cons (dp_v 5) da_nil))))) (fun _ _ _ _ _ _ _ => (dp_v 5))) da_nil)) (nomark _)) (ds_one (ds_ret dp_bl)) ds_skip))) ds_skip) (ds_seq (ds_if (dt_not (dt_val (Exists.elim (Fs.df 35 dd__law_stretches_right rfl) fun fd Fg => dp_callHO (js := [1]) (k := 4) (kb := 4) (fr := ["ladder_so"]) (psC := ["number"]) (dg := d__law_stretches_right) (clo := f__law_gains) rfl Fs.g__law_stretches_right Fg (Fg.bindsN fun _ _ _ _ _ _ us hl => match us, hl with | [_, _, _], _ => rfl) S__law_stretches_right rfl rfl (hr.mono (by decide)) rfl List.mem_cons_self (List.mem_cons_of_mem _ List.mem_cons_self) (fun ok => Caps.made ok (ndef_free (sc := defScope (top 63)) (nsc := C8.fnScope nd__law_gains) (fr := ["ladder_so"]) (by decide +kernel)) (ndef_fr (sc := defScope (top 63)) (nsc := C8.fnScope nd__law_gains) (fr := ["ladder_so"]) (by decide +kernel)) rfl) (fun _ _ => nok__law_gains Fs) (fun _ _ _ _ _ _ _ _ _ G hr => b__law_stretches_right Fs G hr) (da_cons (dp_call (fd_held_gains Fs) (hr.mono (by decide)) takesN rfl (da_cons (dp_v 1) da_nil)) (da_cons (dp_v 3) (da_cons (dp_v 4) da_nil)))))) (ds_one (ds_ret dp_bl)) ds_skip) (ds_seq (ds_for (passes_of rfl) rfl (di_seq (dp_v 4)) (dg_name S__law_right.nd rfl (by first | exact Or.inl rfl | exact Or.inr rfl)) (ds_seq (ds_set (i := 6) S__law_right.nd rfl (by first | exact Or.inl rfl | exact Or.inr rfl) (dp_call (fd_round_trip Fs) (hr.mono (by decide)) takesN rfl (da_cons (dp_v 1) (da_cons (dp_v 5) da_nil)))) (ds_seq (ds_if (dt_cmp (op_neP (room100 hr)) (dp_v 6) (dp_call (fd__law_trip Fs) (hr.mono (by decide)) takesN rfl (da_cons (dp_v 1) (da_cons (dp_v 5) da_nil))) (nomark _)) (ds_one (ds_ret dp_bl)) ds_skip) (ds_one (ds_if (dt_cmp op_gtP (dp_v 5) dp_int (nomark _)) (ds_seq (ds_set (i := 7) S__law_right.nd rfl (by first | exact Or.inl rfl | exact Or.inr rfl) (dp_op op_addD (dp_tup (da_cons (dp_ix (dp_v 6) dp_int) da_nil)) (dp_if (dt_cmp op_ltP (dp_v 5) (dp_ix (dp_v 6) dp_int) (nomark _)) (dp_tup (da_cons (dp_op op_subD (dp_v 5) (dp_ix (dp_v 6) dp_int)) da_nil)) (dp_tup da_nil)))) (ds_one (ds_if (dt_cmp (op_neP (room100 hr)) (dp_b1 (cr_sumP rfl) (dp_call (fd_payments Fs) (hr.mono (by decide)) takesN rfl (da_cons (dp_v 1) (da_cons dp_bl (da_cons (dp_v 7) da_nil)))) rfl Fs.fl_sum boot_sum) (dp_ix (dp_v 6) dp_int) (nomark _)) (ds_one (ds_ret dp_bl)) ds_skip))) ds_skip))))) (ds_one (ds_ret dp_bl))))))))
theorem fd__law_right (Fs : Fx K mg base) : FD P w K mg base (fa K v) (T K Z) "_law_right" 8 3 f__law_right := by
  obtain ⟨fd, F⟩ := Fs.df 38 dd__law_right rfl
  exact ⟨He.ga K "_law_right", fd, P__law_right, (fn_of_body (k := 7) (ds := d__law_right) F S__law_right rfl rfl fun cdv A outer s H E hc hr => b__law_right Fs (funD_code F hc) hr), Fs.g__law_right, F.kp, F.bindsN fun _ _ _ _ _ _ us hl => match us, hl with | [_, _, _], _ => rfl⟩
theorem b__law_written (Fs : Fx K mg base) (hr : Room 7 (A.deeper (envOfC "_law_written" (defScope (top 65)) s.heap.objs.size f cdv))) :
    CSs (cxOf (L2N.CX P w) P w K mg base N__law_written "_law_written" (defScope (top 65)) f cdv A outer s H E) (fa K v) (T K Z) (fun cls d _ H => E cls d H) (defBody (top 65)) d__law_written := (ds_seq (ds_unp (dp_tup (da_cons (dp_tup (da_cons (dp_tup (da_cons dp_int (da_cons dp_int da_nil))) (da_cons (dp_tup (da_cons dp_int (da_cons dp_int da_nil))) (da_cons (dp_tup (da_cons dp_int (da_cons dp_int da_nil))) da_nil)))) (da_cons (dp_tup (da_cons (dp_tup (da_cons dp_int (da_cons dp_int da_nil))) (da_cons (dp_tup (da_cons dp_int (da_cons dp_int da_nil))) da_nil))) (da_cons (dp_tup (da_cons (dp_tup (da_cons dp_int (da_cons dp_int da_nil))) (da_cons (dp_tup (da_cons dp_int (da_cons dp_int da_nil))) da_nil))) da_nil)))) (dg_tup rfl (dgs_cons (dg_name S__law_written.nd rfl (by first | exact Or.inl rfl | exact Or.inr rfl)) (dgs_cons (dg_name S__law_written.nd rfl (by first | exact Or.inl rfl | exact Or.inr rfl)) (dgs_cons (dg_name S__law_written.nd rfl (by first | exact Or.inl rfl | exact Or.inr rfl)) dgs_nil))))) (ds_seq (ds_if (dt_cmp (op_neP (room100 hr)) (dp_lst (da_cons (dp_call (fd_round_trip Fs) (hr.mono (by decide)) takesN rfl (da_cons (dp_v 0) (da_cons dp_int da_nil))) (da_cons (dp_call (fd_round_trip Fs) (hr.mono (by decide)) takesN rfl (da_cons (dp_v 1) (da_cons dp_int da_nil))) (da_cons (dp_call (fd_round_trip Fs) (hr.mono (by decide)) takesN rfl (da_cons (dp_v 2) (da_cons dp_int da_nil))) da_nil)))) (dp_lst (da_cons (dp_tup (da_cons dp_int (da_cons dp_int da_nil))) (da_cons (dp_tup (da_cons dp_int (da_cons dp_int da_nil))) (da_cons (dp_tup (da_cons dp_int (da_cons dp_int da_nil))) da_nil)))) (nomark _)) (ds_one (ds_ret dp_bl)) ds_skip) (ds_seq (ds_if (dt_w (dw_or (dt_cmp (op_neP (room100 hr)) (dp_call (fd_round_trip Fs) (hr.mono (by decide)) takesN rfl (da_cons (dp_v 0) (da_cons dp_int da_nil))) (dp_tup (da_cons dp_int (da_cons dp_int da_nil))) (nomark _)) (dw_or1 (dt_cmp (op_neP (room100 hr)) (dp_call (fd_round_trip Fs) (hr.mono (by decide)) takesN rfl (da_cons (dp_v 0) (da_cons dp_int da_nil))) (dp_tup (da_cons dp_int (da_cons dp_int da_nil))) (nomark _))))) (ds_one (ds_ret dp_bl)) ds_skip) (ds_seq (ds_if (dt_cmp (op_neP (room100 hr)) (dp_lst (da_cons (dp_call (fd_held_gains Fs) (hr.mono (by decide)) takesN rfl (da_cons (dp_v 0) da_nil)) (da_cons (dp_call (fd_held_gains Fs) (hr.mono (by decide)) takesN rfl (da_cons (dp_v 1) da_nil)) (da_cons (dp_call (fd_held_gains Fs) (hr.mono (by decide)) takesN rfl (da_cons (dp_v 2) da_nil)) da_nil)))) (dp_lst (da_cons (dp_lst (da_cons (dp_tup (da_cons dp_int (da_cons dp_int da_nil))) da_nil)) (da_cons (dp_lst da_nil) (da_cons (dp_lst da_nil) da_nil)))) (nomark _)) (ds_one (ds_ret dp_bl)) ds_skip) (ds_seq (ds_if (dt_cmp (op_neP (room100 hr)) (dp_call (fd_held_gains Fs) (hr.mono (by decide)) takesN rfl (da_cons (dp_tup (da_cons (dp_tup (da_cons dp_int (da_cons dp_int da_nil))) (da_cons (dp_tup (da_cons dp_int (da_cons dp_int da_nil))) (da_cons (dp_tup (da_cons dp_int (da_cons dp_int da_nil))) da_nil)))) da_nil)) (dp_lst (da_cons (dp_tup (da_cons dp_int (da_cons dp_int da_nil))) da_nil)) (nomark _)) (ds_one (ds_ret dp_bl)) ds_skip) (ds_seq (ds_if (dt_cmp (op_neP (room100 hr)) (dp_call (fd_held_gains Fs) (hr.mono (by decide)) takesN rfl (da_cons (dp_tup (da_cons (dp_tup (da_cons dp_int (da_cons dp_int da_nil))) (da_cons (dp_tup (da_cons dp_int (da_cons dp_int da_nil))) (da_cons (dp_tup (da_cons dp_int (da_cons dp_int da_nil))) da_nil)))) da_nil)) (dp_lst (da_cons (dp_tup (da_cons dp_int (da_cons dp_int da_nil))) da_nil)) (nomark _)) (ds_one (ds_ret dp_bl)) ds_skip) (ds_one (ds_ret (dp_cmp (op_eqP (room100 hr)) (dp_call (fd_held_gains Fs) (hr.mono (by decide)) takesN rfl (da_cons (dp_tup (da_cons (dp_tup (da_cons dp_int (da_cons dp_int da_nil))) (da_cons (dp_tup (da_cons dp_int (da_cons dp_int da_nil))) (da_cons (dp_tup (da_cons (dp_op op_powD dp_int dp_int) (da_cons dp_int da_nil))) da_nil)))) da_nil)) (dp_lst (da_cons (dp_tup (da_cons dp_int (da_cons (dp_op op_subD (dp_op op_powD dp_int dp_int) dp_int) da_nil))) da_nil)) (nomark _))))))))))
theorem fd__law_written (Fs : Fx K mg base) : FD P w K mg base (fa K v) (T K Z) "_law_written" 8 0 f__law_written := by
  obtain ⟨fd, F⟩ := Fs.df 40 dd__law_written rfl
  exact ⟨He.ga K "_law_written", fd, P__law_written, (fn_of_body (k := 7) (ds := d__law_written) F S__law_written rfl rfl fun cdv A outer s H E hc hr => b__law_written Fs  hr), Fs.g__law_written, F.kp, F.bindsN fun _ _ _ _ _ _ us hl => match us, hl with | [], _ => rfl⟩
theorem vals2 (Fs : Fx K mg base) : ∀ j fn, valtab2 j = some fn → FV P w K mg base (fa K v) (T K Z) j 5 2 fn := by
  intro j fn h
  unfold valtab2 at h
  by_cases h_round_trip : j = 38
  · subst h_round_trip
    cases h
    exact ((fd_round_trip Fs).fv Fs.g_round_trip rfl).mono (by decide)
  rw [if_neg h_round_trip] at h
  cases h
theorem ref__law_by_two (Fs : Fx K mg base) (hcd : cdv = .ref (He.codeOf K ("_law_by_two", none))) {W : WX} {params : Arguments} {body : Expr} {scope : Scope} {db : DE} {p lpos pos : Pos}
    (hr : Room (7 + 2) (A.deeper (envOfC "_law_by_two" (defScope (top 52)) s.heap.objs.size f cdv))) (hL : LamS (defScope (top 52)) scope) (hG : Gl (cxOf (L2N.CX P w) P w K mg base N__law_by_two "_law_by_two" (defScope (top 52)) f cdv A outer s H E) "_law_refused")
    (hdef : defaultsOf params (cxOf (L2N.CX P w) P w K mg base N__law_by_two "_law_by_two" (defScope (top 52)) f cdv A outer s H E).env = ([], []))
    (hbind : ∀ (q : Str) (cl : List (Str × Addr)) (pm cv ctv : Value), bindArgs (PySem.W.kla_fn "<lambda>" q params body scope cl pm cv ctv) ⟨[], []⟩ = pure [])
    (hbody : ∀ (A' : Around) (outer' : List Env) (s' : Shared) (H' : Hp) (E' : XK) (f' c' : Addr), Room 7 (A'.deeper (lamEnv (cxOf (L2N.CX P w) P w K mg base N__law_by_two "_law_by_two" (defScope (top 52)) f cdv A outer s H E) scope s'.heap.objs.size f' c')) →
      CE' (lamN (cxOf (L2N.CX P w) P w K mg base N__law_by_two "_law_by_two" (defScope (top 52)) f cdv A outer s H E) A' outer' s' H' E' scope f' c') (fa K v) (T K Z) (fun cls d _ H => E' cls d H) body db) :
    CE' (cxOf (L2N.CX P w) P w K mg base N__law_by_two "_law_by_two" (defScope (top 52)) f cdv A outer s H E) (fa K v) (T K Z) W (.Call (.Name "_law_refused" p) [.Lambda params body scope lpos] [] pos) (dRef errtx "" db) := by
  obtain ⟨fd, Fn⟩ := Fs.df 28 dd__law_refused rfl
  exact dp_refused (X := (cxOf (L2N.CX P w) P w K mg base N__law_by_two "_law_by_two" (defScope (top 52)) f cdv A outer s H E)) (le := "_law_error") (Ng := N__law_refused) (k := 7) (tx := errtx) (CS := He.ga K "RebateError") hG Fs.g__law_refused Fn (Fn.bindsN fun _ _ _ _ _ _ us hl => match us, hl with | [_], _ => rfl) S__law_refused rfl (Or.inl rfl) rfl rfl rfl rfl Fs.g_RebateError
    (fun c t C ht hC => by
      have hc0 : c ≠ 0 := fun z => by
        subst z
        exact nomatch (show (none : Option Str) = some t from ht)
      have eC : C = He.ga K (nm c) := (V.ref.inj ((fa_ne hc0).symm.trans hC)).symm
      subst eC
      refine Fs.exm c ?_
      unfold errtx at ht
      repeat (first | (split at ht; · (subst_vars; decide)) | (cases ht))) (err__law_error Fs) (Fs.tb ("_law_by_two", none) (by simp [tf])) hcd (qq := ("_law_by_two" : Str) ++ (".<locals>." : Str)) rfl (List.mem_cons_self) (fun p hp hpe => congrArg Prod.snd (nodup_fst Fs.dis hp (List.mem_cons_self : ((He.cT K ("_law_by_two", none)).2, ((("_law_by_two" : Str) ++ (".<locals>." : Str)) ++ ("<lambda>" : Str))) ∈ Tt K) hpe)) hr hL hdef hbind hbody rfl
theorem b__law_by_two (Fs : Fx K mg base) (hc : cdv = .ref (He.codeOf K ("_law_by_two", none))) (hr : Room 9 (A.deeper (envOfC "_law_by_two" (defScope (top 52)) s.heap.objs.size f cdv))) :
    CSs (cxOf (L2N.CX P w) P w K mg base N__law_by_two "_law_by_two" (defScope (top 52)) f cdv A outer s H E) (fa K v) (T K Z) (fun cls d _ H => E cls d H) (defBody (top 52)) d__law_by_two := (ds_one (ds_ret (ref__law_by_two Fs hc (hr.mono (by decide)) (lamS_by (by with_unfolding_all rfl)) rfl rfl (fun _ _ _ _ _ => rfl) (fun A outer s H E f c' hr => (dp_callV (i := 0) (vals2 Fs) (hr.mono (by decide)) takesLam rfl (by first | exact Or.inl rfl | exact Or.inr (Or.inl rfl) | exact Or.inr (Or.inr rfl)) (da_cons (dp_v 1) (da_cons (dp_v 2) da_nil)))))))
theorem fd__law_by_two (Fs : Fx K mg base) : FD P w K mg base (fa K v) (T K Z) "_law_by_two" 10 3 f__law_by_two := by
  obtain ⟨fd, F⟩ := Fs.df 27 dd__law_by_two rfl
  exact ⟨He.ga K "_law_by_two", fd, P__law_by_two, (fn_of_body (k := 9) (ds := d__law_by_two) F S__law_by_two rfl rfl fun cdv A outer s H E hc hr => b__law_by_two Fs (funD_code F hc) hr), Fs.g__law_by_two, F.kp, F.bindsN fun _ _ _ _ _ _ us hl => match us, hl with | [_, _, _], _ => rfl⟩
theorem ref__law_refusals (Fs : Fx K mg base) (hcd : cdv = .ref (He.codeOf K ("_law_refusals", none))) {W : WX} {params : Arguments} {body : Expr} {scope : Scope} {db : DE} {p lpos pos : Pos}
    (hr : Room (7 + 2) (A.deeper (envOfC "_law_refusals" (defScope (top 64)) s.heap.objs.size f cdv))) (hL : LamS (defScope (top 64)) scope) (hG : Gl (cxOf (L2N.CX P w) P w K mg base N__law_refusals "_law_refusals" (defScope (top 64)) f cdv A outer s H E) "_law_refused")
    (hdef : defaultsOf params (cxOf (L2N.CX P w) P w K mg base N__law_refusals "_law_refusals" (defScope (top 64)) f cdv A outer s H E).env = ([], []))
    (hbind : ∀ (q : Str) (cl : List (Str × Addr)) (pm cv ctv : Value), bindArgs (PySem.W.kla_fn "<lambda>" q params body scope cl pm cv ctv) ⟨[], []⟩ = pure [])
    (hbody : ∀ (A' : Around) (outer' : List Env) (s' : Shared) (H' : Hp) (E' : XK) (f' c' : Addr), Room 7 (A'.deeper (lamEnv (cxOf (L2N.CX P w) P w K mg base N__law_refusals "_law_refusals" (defScope (top 64)) f cdv A outer s H E) scope s'.heap.objs.size f' c')) →
      CE' (lamN (cxOf (L2N.CX P w) P w K mg base N__law_refusals "_law_refusals" (defScope (top 64)) f cdv A outer s H E) A' outer' s' H' E' scope f' c') (fa K v) (T K Z) (fun cls d _ H => E' cls d H) body db) :
    CE' (cxOf (L2N.CX P w) P w K mg base N__law_refusals "_law_refusals" (defScope (top 64)) f cdv A outer s H E) (fa K v) (T K Z) W (.Call (.Name "_law_refused" p) [.Lambda params body scope lpos] [] pos) (dRef errtx "" db) := by
  obtain ⟨fd, Fn⟩ := Fs.df 28 dd__law_refused rfl
  exact dp_refused (X := (cxOf (L2N.CX P w) P w K mg base N__law_refusals "_law_refusals" (defScope (top 64)) f cdv A outer s H E)) (le := "_law_error") (Ng := N__law_refused) (k := 7) (tx := errtx) (CS := He.ga K "RebateError") hG Fs.g__law_refused Fn (Fn.bindsN fun _ _ _ _ _ _ us hl => match us, hl with | [_], _ => rfl) S__law_refused rfl (Or.inl rfl) rfl rfl rfl rfl Fs.g_RebateError
    (fun c t C ht hC => by
      have hc0 : c ≠ 0 := fun z => by
        subst z
        exact nomatch (show (none : Option Str) = some t from ht)
      have eC : C = He.ga K (nm c) := (V.ref.inj ((fa_ne hc0).symm.trans hC)).symm
      subst eC
      refine Fs.exm c ?_
      unfold errtx at ht
      repeat (first | (split at ht; · (subst_vars; decide)) | (cases ht))) (err__law_error Fs) (Fs.tb ("_law_refusals", none) (by simp [tf])) hcd (qq := ("_law_refusals" : Str) ++ (".<locals>." : Str)) rfl (List.mem_cons_of_mem _ (List.mem_cons_of_mem _ (List.mem_cons_self))) (fun p hp hpe => congrArg Prod.snd (nodup_fst Fs.dis hp (List.mem_cons_of_mem _ (List.mem_cons_of_mem _ (List.mem_cons_self)) : ((He.cT K ("_law_refusals", none)).2, ((("_law_refusals" : Str) ++ (".<locals>." : Str)) ++ ("<lambda>" : Str))) ∈ Tt K) hpe)) hr hL hdef hbind hbody rfl
theorem b__law_refusals (Fs : Fx K mg base) (hc : cdv = .ref (He.codeOf K ("_law_refusals", none))) (hr : Room 12 (A.deeper (envOfC "_law_refusals" (defScope (top 64)) s.heap.objs.size f cdv))) :
    CSs (cxOf (L2N.CX P w) P w K mg base N__law_refusals "_law_refusals" (defScope (top 64)) f cdv A outer s H E) (fa K v) (T K Z) (fun cls d _ H => E cls d H) (defBody (top 64)) d__law_refusals := (ds_seq (ds_for (passes_of rfl) rfl (di_seq (dp_lst (da_cons dp_non (da_cons (dp_neg dp_int) (da_cons (dp_op op_addD (dp_op op_powD dp_int dp_int) dp_int) (da_cons dp_bl da_nil)))))) (dg_name S__law_refusals.nd rfl (by first | exact Or.inl rfl | exact Or.inr rfl)) (ds_one (ds_if (dt_cmp (op_neP (room100 hr)) (dp_call (fd__law_by_two Fs) (hr.mono (by decide)) takesN rfl (da_cons (dp_gfn rfl Fs.g_round_trip rfl) (da_cons (dp_v 0) (da_cons (dp_v 1) da_nil)))) dp_str (nomark _)) (ds_one (ds_ret dp_bl)) ds_skip))) (ds_seq (ds_if (dt_cmp (op_neP (room100 hr)) (dp_call (fd__law_by_two Fs) (hr.mono (by decide)) takesN rfl (da_cons (dp_gfn rfl Fs.g_round_trip rfl) (da_cons (dp_tup da_nil) (da_cons dp_non da_nil)))) dp_str (nomark _)) (ds_one (ds_ret dp_bl)) ds_skip) (ds_one (ds_ret (dp_cmp (op_eqP (room100 hr)) (ref__law_refusals Fs hc (hr.mono (by decide)) (lamS_by (by with_unfolding_all rfl)) rfl rfl (fun _ _ _ _ _ => rfl) (fun A outer s H E f c' hr => (dp_call (fd_held_gains Fs) (hr.mono (by decide)) takesLam rfl (da_cons (dp_tup (da_cons (dp_tup (da_cons dp_int (da_cons dp_int da_nil))) da_nil)) da_nil)))) dp_str (nomark _))))))
theorem fd__law_refusals (Fs : Fx K mg base) : FD P w K mg base (fa K v) (T K Z) "_law_refusals" 13 1 f__law_refusals := by
  obtain ⟨fd, F⟩ := Fs.df 39 dd__law_refusals rfl
  exact ⟨He.ga K "_law_refusals", fd, P__law_refusals, (fn_of_body (k := 12) (ds := d__law_refusals) F S__law_refusals rfl rfl fun cdv A outer s H E hc hr => b__law_refusals Fs (funD_code F hc) hr), Fs.g__law_refusals, F.kp, F.bindsN fun _ _ _ _ _ _ us hl => match us, hl with | [_], _ => rfl⟩
theorem b_law (Fs : Fx K mg base) (hr : Room 13 (A.deeper (envOfC "law" (defScope (top 66)) s.heap.objs.size f cdv))) :
    CSs (cxOf (L2N.CX P w) P w K mg base N_law "law" (defScope (top 66)) f cdv A outer s H E) (fa K v) (T K Z) (fun cls d _ H => E cls d H) (defBody (top 66)) d_law := (ds_seq (ds_for (passes_of rfl) rfl (di_range1 rfl Fs.fl_range (da_cons (dp_b2 (cr_max2P rfl) dp_int (dp_b2 (cr_min2P rfl) dp_int (dp_b1 cr_lenP (dp_v 0) rfl Fs.fl_len boot_len) rfl Fs.fl_min boot_min) rfl Fs.fl_max boot_max) da_nil)) (dg_name S_law.nd rfl (by first | exact Or.inl rfl | exact Or.inr rfl)) (ds_seq (ds_set (i := 2) S_law.nd rfl (by first | exact Or.inl rfl | exact Or.inr rfl) (dp_call (fd__law_source Fs) (hr.mono (by decide)) takesN rfl (da_cons (dp_v 0) (da_cons (dp_v 1) da_nil)))) (ds_one (ds_for (passes_of rfl) rfl (di_range1 rfl Fs.fl_range (da_cons dp_int da_nil)) (dg_name S_law.nd rfl (by first | exact Or.inl rfl | exact Or.inr rfl)) (ds_seq (ds_set (i := 4) S_law.nd rfl (by first | exact Or.inl rfl | exact Or.inr rfl) (dp_call (fd__law_steps Fs) (hr.mono (by decide)) takesN rfl (da_cons (dp_v 2) (da_cons (dp_call (fd__law_chosen Fs) (hr.mono (by decide)) takesN rfl (da_cons (dp_v 2) (da_cons (dp_lst (da_cons dp_int (da_cons dp_int (da_cons dp_int da_nil)))) da_nil))) da_nil)))) (ds_seq (ds_if (dt_w (dw_or (dt_not (dt_val (dp_call (fd__law_right Fs) (hr.mono (by decide)) takesN rfl (da_cons (dp_v 2) (da_cons (dp_v 4) (da_cons dp_bl da_nil)))))) (dw_or1 (dt_not (dt_val (dp_call (fd__law_refusals Fs) (hr.mono (by decide)) takesN rfl (da_cons (dp_v 4) da_nil))))))) (ds_one (ds_ret dp_bl)) ds_skip) (ds_one (ds_if (dt_not (dt_val (dp_call (fd__law_right Fs) (hr.mono (by decide)) takesN rfl (da_cons (dp_v 2) (da_cons (dp_call (fd__law_steps Fs) (hr.mono (by decide)) takesN rfl (da_cons (dp_v 2) (da_cons (dp_call (fd__law_chosen Fs) (hr.mono (by decide)) takesN rfl (da_cons (dp_v 2) (da_cons (dp_lst (da_cons dp_int (da_cons (dp_op op_powD dp_int dp_int) (da_cons (dp_op op_powD dp_int dp_int) da_nil)))) da_nil))) da_nil))) (da_cons dp_bl da_nil)))))) (ds_one (ds_ret dp_bl)) ds_skip)))))))) (ds_one (ds_ret (dp_call0 (fd__law_written Fs) (hr.mono (by decide)) rfl))))
theorem fd_law (Fs : Fx K mg base) : FD P w K mg base (fa K v) (T K Z) "law" 14 1 f_law := by
  obtain ⟨fd, F⟩ := Fs.df 41 dd_law rfl
  exact ⟨He.ga K "law", fd, P_law, (fn_of_body (k := 13) (ds := d_law) F S_law rfl rfl fun cdv A outer s H E hc hr => b_law Fs  hr), Fs.g_law, F.kp, F.bindsN fun _ _ _ _ _ _ us hl => match us, hl with | [_], _ => rfl⟩
end
end G31

/-! The plain law. -/
namespace L31
open PySem DL G31
local macro_rules | `(tactic| wtm_at "side") => `(tactic| (first | with_reducible assumption | omega | solve_by_elim (maxDepth := 3) (transparency := .reducible) -exfalso -symm))
local macro_rules | `(tactic| wtm_at "cz") => `(tactic| (first | exact rfl | exact Bool.false_ne_true | with_reducible assumption | (simp; done) | (simp; omega)))
local macro_rules | `(tactic| wtm_at "op") => `(tactic| (first
  | with_reducible exact addP_int _ _ | with_reducible exact subP_int _ _ | with_reducible exact negP_int _ | with_reducible exact ltP_int _ _ | with_reducible exact leP_int _ _ | with_reducible exact gtP_int _ _ | with_reducible exact geP_int _ _
  | with_reducible exact eqP_int _ _ | with_reducible exact neP_int _ _ | with_reducible exact max2P_int _ _ | with_reducible exact min2P_int _ _ | with_reducible exact intP_int _
  | with_reducible exact isNP_none | with_reducible exact isNP_int _ | with_reducible exact isNP_tuple _ | with_reducible exact isNP_list _ | with_reducible exact notNP_none | with_reducible exact notNP_int _ | with_reducible exact notNP_tuple _
  | (with_reducible refine mul_small ?_; omega) | (with_reducible refine mod_pos ?_; omega) | (with_reducible refine div_pos ?_ ?_ <;> omega) | with_reducible exact sum_l _ | with_reducible exact sum_t _ | with_reducible exact lenP_t _ | with_reducible exact lenP_l _ | with_reducible exact tupP_l _
  | with_reducible assumption | exact rfl))
local macro_rules | `(tactic| wtm_at "pk") => `(tactic| (first | with_reducible exact e_peek_d | exact peek_l (by assumption) | exact rfl))
local macro_rules | `(tactic| wtm_at "tg") => `(tactic| (first | ((with_reducible show DG.f (gN _) _ _ = _); (simp only [e_gN, wipeE, List.set_cons_zero, List.set_cons_succ]; exact rfl)) | (simp only [e_gN, e_gT_d, e_gT_tu, e_gsCons, e_gsNil, wipeE, List.set_cons_zero, List.set_cons_succ, List.map_cons, List.map_nil, List.length_cons, List.length_nil, if_true, Nat.reduceAdd, Nat.zero_add, stp]; exact rfl)))
local macro_rules | `(tactic| wtm_at "st") => `(tactic| (simp only [List.set_cons_zero, List.set_cons_succ, List.zip_cons_cons, List.zip_nil_right, List.foldl_cons, List.foldl_nil]; exact rfl))
local macro_rules | `(tactic| wtm_at "if") => `(tactic| (first | refine Eq.trans (if_pos (by wtm_at "cz")) ?_ | refine Eq.trans (if_neg (by wtm_at "cz")) ?_))
local macro_rules | `(tactic| wtm_at "len") => `(tactic| (first | exact rfl | assumption | (simp; done) | (simp; omega) | omega))
local macro_rules | `(tactic| wtm_at "seq") => `(tactic| (first | with_reducible assumption | with_reducible exact seq_map | with_reducible exact seq_mapT | with_reducible exact e_seq_l _ | with_reducible exact e_seq_t _ | exact rfl))
local macro_rules | `(tactic| wtm_at "call") => `(tactic| first | with_reducible assumption | with_reducible solve_by_elim (maxDepth := 3) (transparency := .reducible) -exfalso -symm)
local macro_rules | `(tactic| wtm_at "go1") => `(tactic| (first
  | with_reducible exact r_C | with_reducible exact r_F | with_reducible exact r_nil | with_reducible exact r_no | with_reducible exact r_skip
  | ((with_reducible apply r_V); exact rfl)
  | ((with_reducible apply r_seq))
  | with_reducible apply r_asg
  | with_reducible apply r_ret
  | with_reducible apply r_drop
  | with_reducible apply r_ite
  | with_reducible apply r_op
  | with_reducible apply r_un
  | with_reducible apply r_call
  | with_reducible apply r_call0
  | with_reducible apply r_cons
  | with_reducible apply r_tup
  | with_reducible apply r_lst
  | with_reducible apply r_test
  | with_reducible apply r_and
  | with_reducible apply r_or
  | with_reducible apply r_not
  | with_reducible apply r_andV
  | with_reducible apply r_orV
  | with_reducible apply r_notV
  | with_reducible apply r_if
  | with_reducible apply r_isa
  | with_reducible apply r_chain2
  | with_reducible apply r_part
  | with_reducible apply r_sl
  | with_reducible apply r_sq
  | with_reducible apply r_zip
  | with_reducible apply r_r1
  | with_reducible apply r_unp
  | with_reducible apply r_par
  | with_reducible apply r_lcA
  | with_reducible apply r_lc
  | with_reducible apply r_lc2A
  | with_reducible apply r_elA
  | with_reducible apply r_el2
  | with_reducible apply r_el
  | ((with_reducible show Res.ok _ _ = _); exact rfl)
  | ((with_reducible show List.set _ _ _ = _); wtm_at "st")
  | ((with_reducible show List.foldl _ _ _ = _); wtm_at "st")
  | ((with_reducible show ite _ _ _ = _); wtm_at "if")
  | ((with_reducible show peek _ _ = _); wtm_at "pk")
  | ((with_reducible show DG.f _ _ _ = _); wtm_at "tg")
  | ((with_reducible show seqU _ = _); wtm_at "seq")
  | ((with_reducible show List.length _ = _); wtm_at "len")
  | ((with_reducible show List.length _ ≤ _); wtm_at "len")
  | ((with_reducible show (_ : Option PyData) = _); wtm_at "op")
  | ((with_reducible show tupU _ = _); first | with_reducible exact tup_stp _ _ | (simp only [tupU, allD] <;> exact rfl))
  | ((with_reducible show lstU _ = _); (simp only [lstU, allD] <;> exact rfl))
  | ((with_reducible show ∀ x ∈ _, _); intro x hx)
  | ((with_reducible show (_ : Bool) = _); exact rfl)
  | ((with_reducible show (_ : Int) < _); wtm_at "side")
  | ((with_reducible show (_ : Int) ≤ _); wtm_at "side")
  | wtm_at "call"))
local macro_rules | `(tactic| wtm_at "go") => `(tactic| repeat' wtm_at "go1")
local macro_rules | `(tactic| wtm_at "env") => `(tactic| (simp only [startE, List.map_cons, List.map_nil, List.length_cons, List.length_nil, Nat.reduceAdd, Nat.zero_add, Nat.reduceSub, List.reduceReplicate, List.cons_append, List.nil_append]; exact rfl))
local macro_rules | `(tactic| wtm_at "s1") => `(tactic| (first
  | with_reducible apply s_seqSkip
  | with_reducible apply s_seqSeq
  | with_reducible apply s_seqRet
  | with_reducible apply s_seqIte
  | with_reducible apply s_ret
  | with_reducible apply s_ite
  | with_reducible apply s_skip
  | ((fail_if_success with_reducible apply s_seqFor); with_reducible apply s_seq)
  | ((fail_if_success with_reducible apply s_for); with_reducible apply s_one)
  | ((with_reducible refine ifT ?hh ?_); case hh => wtm_at "cz")
  | ((with_reducible refine ifF ?hh ?_); case hh => wtm_at "cz")
  | ((with_reducible show ends1 _ _ _); exact ⟨rfl, rfl⟩)))
local macro_rules | `(tactic| wtm_at "run") => `(tactic| repeat' (first | wtm_at "s1" | wtm_at "go1"))
/-! ### ladders, groups -/
structure Right (L : List (Int × Int)) : Prop where
  ne : 1 ≤ L.length
  len : L.length ≤ 5
  b0 : ∀ p ∈ L, 0 ≤ p.1
  b1 : ∀ p ∈ L, p.1 ≤ 1000000000000
  p0 : ∀ p ∈ L, 0 ≤ p.2
  p1 : ∀ p ∈ L, p.2 ≤ 1000000
  hd : ∀ p, L[0]? = some p → p.1 = 0
  asc : L.Pairwise fun p q => p.1 < q.1
section
variable {L : List (Int × Int)} {μ : List MO}
theorem is_int_ok {v lo hi : Int} : f_is_int [.d (.int v), .d (.int lo), .d (.int hi)] μ = .ok (.d (.bool (decide (lo ≤ v) && decide (v ≤ hi)))) μ := by
  unfold f_is_int
  simp [d_is_int, startE]
  by_cases h : lo ≤ v <;> simp [h]
theorem is_step_ok {p : Int × Int} (h0 : 0 ≤ p.1) (h1 : p.1 ≤ 1000000000000) (h2 : 0 ≤ p.2) (h3 : p.2 ≤ 1000000) : f_is_step [.d (stp p)] μ = .ok (.d (.bool true)) μ := by
  unfold f_is_step stp
  simp [d_is_step, startE, L2.atI, L2.ixN, is_int_ok, h0, h1, h2, h3]
theorem cut1 {α : Type} (xs : List α) : cutL xs (some 1) none = xs.drop 1 := by
  unfold cutL HT.sIx
  cases xs with
  | nil => rfl
  | cons x xs => simp
theorem zip_map {α : Type} (f : α → PyData) : ∀ (xs ys : List α), zipD (xs.map f) (ys.map f) = (xs.zip ys).map fun p => .d (.tuple [f p.1, f p.2])
  | [], _ => rfl
  | _ :: _, [] => rfl
  | x :: xs, y :: ys => by
    have := zip_map f xs ys
    unfold zipD at this ⊢
    simp only [List.map_cons, List.zip_cons_cons]
    rw [this]
theorem zip_asc {L : List (Int × Int)} (h : L.Pairwise fun p q => p.1 < q.1) : ∀ p ∈ L.zip (L.drop 1), p.1.1 < p.2.1 := by
  induction L with
  | nil => intro p hp; cases hp
  | cons a L ih =>
    obtain ⟨h1, h2⟩ := List.pairwise_cons.mp h
    intro p hp
    cases L with
    | nil => cases hp
    | cons b L =>
      rcases List.mem_cons.mp (show p ∈ (a, b) :: (b :: L).zip ((b :: L).drop 1) from hp) with rfl | hp
      · exact h1 b List.mem_cons_self
      · exact ih h2 p hp
theorem right_ladder (R : Right L) : f_is_right_ladder [.d (lad L)] μ = .ok (.d (.bool true)) μ := by
  obtain ⟨p0, L', e0⟩ : ∃ p L', L = p :: L' := by
    cases L with
    | nil => exact absurd R.ne (by decide)
    | cons p L' => exact ⟨p, L', rfl⟩
  have hh : p0.1 = 0 := R.hd p0 (by rw [e0]; rfl)
  unfold f_is_right_ladder
  have c1 : dLc (dSq (dV 0)) (gN 3) dYes (dCall 1 f_is_step (dCons (dV 3) dNil)) [3] [some (.d (lad L)), none, none, none] μ = .ok (.d (.list (L.map fun _ => .bool true))) μ :=
    lc_all L (fun p => .d (stp p)) _ (by simp [lad]) (big5 (Nat.le_trans R.len (by decide))) fun p hp => ⟨_, rfl, by
      simp [wipeE, is_step_ok (R.b0 p hp) (R.b1 p hp) (R.p0 p hp) (R.p1 p hp)]⟩
  have c2 : dLc (dZip (dCons (dV 0) (dCons (dSl (dV 0) (dPart (dC (.int (1)))) dNo) dNil))) (gT 2 (gsCons (gN 1) (gsCons (gN 2) gsNil))) dYes (dOp ltP (dOp ixP (dV 1) (dC (.int (0)))) (dOp ixP (dV 2) (dC (.int (0))))) [1, 2] [some (.d (lad L)), none, none, none] μ = .ok (.d (.list ((L.zip (L.drop 1)).map fun _ => .bool true))) μ :=
    lc_all (L.zip (L.drop 1)) (fun p => .d (.tuple [stp p.1, stp p.2])) _ (by
      simp [lad, slP, cut1, zipU]
      rw [← List.map_tail, zip_map]) (big5 (by
      have := List.length_zip (l₁ := L) (l₂ := L.drop 1)
      have := R.len
      omega)) fun p hp => ⟨_, rfl, by
      have := zip_asc R.asc p hp
      simp [wipeE, stp, L2.atI, L2.ixN, this]⟩
  have n1 : (1 : Int) ≤ (L.length : Int) := by have := R.ne; omega
  have n2 : (L.length : Int) ≤ 5 := by have := R.len; omega
  have i0 : ixP (lad L) (.int 0) = some (stp p0) := by
    rw [e0]
    simp [lad, L2.atI, L2.ixN]
  have i1 : ixP (stp p0) (.int 0) = some (.int 0) := by
    show some (PyData.int p0.1) = _
    rw [hh]
  have lt : (lad L).isTuple = true := rfl
  have ll : lenP (lad L) = some (.int L.length) := by
    show some (PyData.int ((L.map stp).length : Nat)) = _
    rw [List.length_map]
  simp [d_is_right_ladder, startE, c1, c2, all_true, lt, ll, n1, n2, i0, i1]
theorem need_ladder (R : Right L) : f_need_ladder [.d (lad L)] μ = .ok (.d .none) μ := by
  unfold f_need_ladder
  simp [d_need_ladder, startE, right_ladder R]
/-! ### prices -/
theorem filter_take {L : List (Int × Int)} (h : L.Pairwise fun p q => p.1 < q.1) (n : Int) : L.filter (fun p => decide (p.1 ≤ n)) = L.take (L.filter fun p => decide (p.1 ≤ n)).length := by
  induction L with
  | nil => rfl
  | cons a L ih =>
    obtain ⟨h1, h2⟩ := List.pairwise_cons.mp h
    by_cases ha : a.1 ≤ n
    · rw [List.filter_cons_of_pos (by simpa using ha), List.length_cons, List.take_succ_cons]
      exact congrArg _ (ih h2)
    · have e : L.filter (fun p => decide (p.1 ≤ n)) = [] := List.filter_eq_nil_iff.mpr fun q hq => by
        have := h1 q hq
        simp
        omega
      rw [List.filter_cons_of_neg (by simpa using ha), e]
      rfl
def cnt (L : List (Int × Int)) (n : Int) : Nat := (L.filter fun p => decide (p.1 ≤ n)).length
def price (L : List (Int × Int)) (n : Int) : Int := (L.getD (cnt L n - 1) (0, 0)).2
theorem cnt_pos (R : Right L) {n : Int} (hn : 0 ≤ n) : 1 ≤ cnt L n := by
  obtain ⟨p0, L', e0⟩ : ∃ p L', L = p :: L' := by
    cases L with
    | nil => exact absurd R.ne (by decide)
    | cons p L' => exact ⟨p, L', rfl⟩
  have hh : p0.1 = 0 := R.hd p0 (by rw [e0]; rfl)
  unfold cnt
  rw [e0, List.filter_cons_of_pos (by simp [hh, hn]), List.length_cons]
  omega
theorem cnt_le (L : List (Int × Int)) (n : Int) : cnt L n ≤ L.length := List.length_filter_le _ _
theorem price_mem (R : Right L) {n : Int} (hn : 0 ≤ n) : ∃ p ∈ L, L[cnt L n - 1]? = some p ∧ price L n = p.2 := by
  have h1 := cnt_pos R hn
  have h2 := cnt_le L n
  have h3 : cnt L n - 1 < L.length := by omega
  refine ⟨L[cnt L n - 1], List.getElem_mem h3, List.getElem?_eq_getElem h3, ?_⟩
  unfold price
  rw [List.getD_eq_getElem?_getD, List.getElem?_eq_getElem h3]
  rfl
theorem price_lo (R : Right L) {n : Int} (hn : 0 ≤ n) : 0 ≤ price L n := by
  obtain ⟨p, hp, _, e⟩ := price_mem R hn
  rw [e]
  exact R.p0 p hp
theorem price_hi (R : Right L) {n : Int} (hn : 0 ≤ n) : price L n ≤ 1000000 := by
  obtain ⟨p, hp, _, e⟩ := price_mem R hn
  rw [e]
  exact R.p1 p hp
theorem step_at (R : Right L) {n : Int} : f_step_at [.d (lad L), .d (.int n)] μ = .ok (.d (.int ((cnt L n : Int) - 1))) μ := by
  unfold f_step_at
  have c1 : dLc (dSq (dV 0)) (gT 2 (gsCons (gN 2) (gsCons (gN 3) gsNil))) (dTest (dOp leP (dV 2) (dV 1))) (dC (.int (1))) [2, 3] [some (.d (lad L)), some (.d (.int n)), none, none] μ = .ok (.d (.list ((L.filter fun p => decide (p.1 ≤ n)).map fun _ => .int 1))) μ :=
    lc_data L (fun p => .d (stp p)) _ _ (by simp [lad]) (big5 (Nat.le_trans R.len (by decide))) fun p hp => ⟨_, rfl, by simp [wipeE], fun _ => rfl⟩
  simp [d_step_at, startE, c1, cnt]
theorem price_at (R : Right L) {n : Int} (hn : 0 ≤ n) : f_price_at [.d (lad L), .d (.int n)] μ = .ok (.d (.int (price L n))) μ := by
  obtain ⟨p, hp, e1, e2⟩ := price_mem R hn
  have h1 := cnt_pos R hn
  have h2 := cnt_le L n
  unfold f_price_at
  have i1 : ixP (lad L) (.int ((cnt L n : Int) - 1)) = some (stp p) := by
    show L2.atI (L.map stp) _ = _
    rw [atI_nat (by omega) (by rw [List.length_map]; omega), List.getElem?_map]
    have : ((cnt L n : Int) - 1).toNat = cnt L n - 1 := by omega
    rw [this, e1]
    rfl
  have i2 : ixP (stp p) (.int 1) = some (.int p.2) := rfl
  simp [d_price_at, startE, step_at R, i1, i2, e2]
def cost (L : List (Int × Int)) (n : Int) : Int := n * price L n
theorem cost_of (R : Right L) {n : Int} (hn : 0 ≤ n) : f_cost_of [.d (lad L), .d (.int n)] μ = .ok (.d (.int (cost L n))) μ := by
  show _ = Res.ok (U.d (.int (n * price L n))) μ
  unfold f_cost_of
  have := price_lo R hn
  have := price_hi R hn
  simp [d_cost_of, startE, price_at R hn, mul_small (i := n) (j := price L n) (.inr ⟨by omega, by omega⟩)]
theorem law_price (R : Right L) {n : Int} (hn : 0 ≤ n) : f__law_price [.d (lad L), .d (.int n)] μ = .ok (.d (.int (price L n))) μ := by
  obtain ⟨p, hp, e1, e2⟩ := price_mem R hn
  have h1 := cnt_pos R hn
  have h2 := cnt_le L n
  unfold f__law_price
  have c1 : dLc (dSq (dV 0)) (gT 2 (gsCons (gN 2) (gsCons (gN 3) gsNil))) (dTest (dOp leP (dV 2) (dV 1))) (dV 3) [2, 3] [some (.d (lad L)), some (.d (.int n)), none, none] μ = .ok (.d (.list ((L.filter fun p => decide (p.1 ≤ n)).map fun p => .int p.2))) μ :=
    lc_data L (fun p => .d (stp p)) _ _ (by simp [lad]) (big5 (Nat.le_trans R.len (by decide))) fun p hp => ⟨_, rfl, by simp [wipeE], fun _ => by simp [wipeE]⟩
  have i1 : ixP (.list ((L.filter fun p => decide (p.1 ≤ n)).map fun p => .int p.2)) (.int (-1)) = some (.int p.2) := by
    show L2.atI ((L.filter fun p => decide (p.1 ≤ n)).map fun p => PyData.int p.2) (-1) = _
    have el : ((L.filter fun p => decide (p.1 ≤ n)).map fun p => PyData.int p.2).length = cnt L n := by rw [List.length_map] <;> rfl
    rw [atI_back (by omega) (by rw [el]; omega), el, List.getElem?_map, filter_take R.asc, List.getElem?_take]
    have : ((-1 : Int) + (cnt L n : Nat)).toNat = cnt L n - 1 := by omega
    rw [this, if_pos (show cnt L n - 1 < (L.filter fun p => decide (p.1 ≤ n)).length from (show cnt L n - 1 < cnt L n by omega)), e1]
    rfl
  simp [d__law_price, startE, c1, i1, e2]
theorem law_cost (R : Right L) {n : Int} (hn : 0 ≤ n) : f__law_cost [.d (lad L), .d (.int n)] μ = .ok (.d (.int (cost L n))) μ := by
  show _ = Res.ok (U.d (.int (n * price L n))) μ
  unfold f__law_cost
  have := price_lo R hn
  have := price_hi R hn
  simp [d__law_cost, startE, law_price R hn, mul_small (i := n) (j := price L n) (.inr ⟨by omega, by omega⟩)]
local macro_rules | `(tactic| wtm_at "seq") => `(tactic| with_reducible exact seq_lad _)
local macro_rules | `(tactic| wtm_at "len") => `(tactic| first | (exact Nat.le_trans (Right.len (by assumption)) (by decide)) | (simp only [List.length_map, List.length_drop, List.length_cons, List.length_append, List.length_nil, List.length_tail, List.length_dropLast]; omega))
local macro_rules | `(tactic| wtm_at "op") => `(tactic| first | with_reducible assumption | with_reducible exact slP_lad _ _ _ | with_reducible exact ixP_stp0 _ | with_reducible exact ixP_stp1 _)
local macro_rules | `(tactic| wtm_at "call") => `(tactic| first | (with_reducible exact step_at (by assumption)) | (with_reducible exact price_at (by assumption) (by wtm_at "side")) | (with_reducible exact cost_of (by assumption) (by wtm_at "side")) | (with_reducible exact need_ladder (by assumption)) | (with_reducible exact law_price (by assumption) (by wtm_at "side")) | (with_reducible exact law_cost (by assumption) (by wtm_at "side")))
/-! ### buying more -/
def bought (L : List (Int × Int)) (n : Int) : Int × Int := minPr (cost L n, n) ((L.drop (cnt L n)).map fun p => (cost L p.1, p.1))
@[reducible] def paid (L : List (Int × Int)) (n : Int) : Int := (bought L n).1
theorem mem_drop {α : Type} {x : α} {l : List α} {k : Nat} (h : x ∈ l.drop k) : x ∈ l := List.mem_of_mem_drop h
theorem cost_lo (R : Right L) {n : Int} (hn : 0 ≤ n) : 0 ≤ cost L n := Int.mul_nonneg hn (price_lo R hn)
theorem bought_for (R : Right L) {n : Int} (hn : 0 ≤ n) : f_bought_for [.d (lad L), .d (.int n)] μ = .ok (.d (stp (bought L n))) μ := by
  have e1 : addP (.list [.int n]) (.list ((L.drop (cnt L n)).map fun p => .int p.1)) = some (.list (((n :: (L.drop (cnt L n)).map fun p => p.1)).map .int)) := by
    rw [addP_l (by have := R.len; simp; omega), List.map_cons, List.map_map]
    rfl
  have e2 : slP (lad L) (some ((cnt L n : Int) - 1 + 1)) none = some (lad (L.drop (cnt L n))) := by
    rw [slP_lad, show (cnt L n : Int) - 1 + 1 = (cnt L n : Nat) by omega, cut_from]
  have e3 : minP (.list ((n :: (L.drop (cnt L n)).map fun p => p.1).map fun m => stp (cost L m, m))) = some (stp (bought L n)) := by
    have := minP_stp (cost L n, n) ((L.drop (cnt L n)).map fun p => (cost L p.1, p.1))
    rw [List.map_map] at this
    rw [List.map_cons, List.map_map]
    exact this
  have h5 := R.len
  have hm : ∀ m ∈ n :: (L.drop (cnt L n)).map (fun p => p.1), 0 ≤ m := fun m hm => by
    rcases List.mem_cons.mp hm with rfl | hm
    · exact hn
    · obtain ⟨p, hp, rfl⟩ := List.mem_map.mp hm
      exact R.b0 p (mem_drop hp)
  apply r_body rfl (by wtm_at "env")
  unfold d_bought_for
  wtm_at "go"
theorem paid_for (R : Right L) {n : Int} (hn : 0 ≤ n) : f_paid_for [.d (lad L), .d (.int n)] μ = .ok (.d (.int (paid L n))) μ := by
  apply r_body rfl (by wtm_at "env")
  unfold d_paid_for
  have := bought_for (μ := μ) R hn
  wtm_at "go"
def ends (L : List (Int × Int)) : List PyData := (L.tail.map fun p => .int (p.1 - 1)) ++ [.none]
theorem ends_of (R : Right L) : f_ends_of [.d (lad L)] μ = .ok (.d (.list (ends L))) μ := by
  have h5 := R.len
  have e2 : slP (lad L) (some 1) none = some (lad L.tail) := by rw [slP_lad, cut_tail, List.drop_one]
  have e1 : addP (.list (L.tail.map fun p => .int (p.1 - 1))) (.list [.none]) = some (.list (ends L)) := addP_l (by simp; omega)
  apply r_body rfl (by wtm_at "env")
  unfold d_ends_of
  wtm_at "go"
/-! ### steps by their places -/
theorem asc_lt (R : Right L) {i j : Nat} {p q : Int × Int} (hp : L[i]? = some p) (hq : L[j]? = some q) (h : i < j) : p.1 < q.1 := by
  obtain ⟨h1, e1⟩ := List.getElem?_eq_some_iff.mp hp
  obtain ⟨h2, e2⟩ := List.getElem?_eq_some_iff.mp hq
  rw [← e1, ← e2]
  exact List.pairwise_iff_getElem.mp R.asc i j h1 h2 h
theorem cnt_eq (R : Right L) {i : Nat} {p : Int × Int} {n : Int} (hp : L[i]? = some p) (h1 : p.1 ≤ n) (h2 : ∀ q, L[i + 1]? = some q → n < q.1) : cnt L n = i + 1 := by
  have hi : i < L.length := (List.getElem?_eq_some_iff.mp hp).1
  have e : L.filter (fun p => decide (p.1 ≤ n)) = L.take (i + 1) := by
    have e0 : (L.take (i + 1) ++ L.drop (i + 1)).filter (fun p => decide (p.1 ≤ n)) = L.take (i + 1) := by
      rw [List.filter_append, List.filter_eq_self.mpr, List.filter_eq_nil_iff.mpr, List.append_nil]
      · intro q hq
        obtain ⟨k, hk⟩ := List.getElem?_of_mem hq
        rw [List.getElem?_drop] at hk
        have : n < q.1 := by
          by_cases h0 : k = 0
          · subst h0
            exact h2 q hk
          · have hl : i + 1 < L.length := by
              have := (List.getElem?_eq_some_iff.mp hk).1
              omega
            have h3 := h2 _ (List.getElem?_eq_getElem hl)
            have h4 := asc_lt R (List.getElem?_eq_getElem hl) hk (by omega)
            omega
        simp
        omega
      · intro q hq
        obtain ⟨k, hk⟩ := List.getElem?_of_mem hq
        rw [List.getElem?_take] at hk
        by_cases hk2 : k < i + 1
        · rw [if_pos hk2] at hk
          by_cases h0 : k = i
          · subst h0
            rw [hp] at hk
            cases hk
            simpa using h1
          · have := asc_lt R hk hp (by omega)
            simp
            omega
        · rw [if_neg hk2] at hk
          cases hk
    rw [List.take_append_drop] at e0
    exact e0
  unfold cnt
  rw [e, List.length_take]
  omega
theorem price_eq (R : Right L) {i : Nat} {p : Int × Int} {n : Int} (hp : L[i]? = some p) (h1 : p.1 ≤ n) (h2 : ∀ q, L[i + 1]? = some q → n < q.1) : price L n = p.2 := by
  unfold price
  rw [cnt_eq R hp h1 h2, Nat.add_sub_cancel, List.getD_eq_getElem?_getD, hp]
  rfl
theorem cnt_at (R : Right L) {i : Nat} {p : Int × Int} (hp : L[i]? = some p) : cnt L p.1 = i + 1 := cnt_eq R hp (Int.le_refl _) fun q hq => asc_lt R hp hq (Nat.lt_succ_self i)
theorem price_here (R : Right L) {i : Nat} {p : Int × Int} (hp : L[i]? = some p) : price L p.1 = p.2 := price_eq R hp (Int.le_refl _) fun q hq => asc_lt R hp hq (Nat.lt_succ_self i)
theorem cost_here (R : Right L) {i : Nat} {p : Int × Int} (hp : L[i]? = some p) : cost L p.1 = p.1 * p.2 := by
  unfold cost
  rw [price_here R hp]
theorem mem_at {p : Int × Int} {i : Nat} (hp : L[i]? = some p) : p ∈ L := List.mem_of_getElem? hp
theorem cost_below (R : Right L) {i : Nat} {p q : Int × Int} (hp : L[i]? = some p) (hq : L[i + 1]? = some q) : cost L (q.1 - 1) = (q.1 - 1) * p.2 := by
  unfold cost
  have := asc_lt R hp hq (Nat.lt_succ_self i)
  rw [price_eq R hp (by omega) fun r hr => by
    rw [hq] at hr
    cases hr
    omega]
/-- what is paid at a border: the least cost of this and later ones -/
theorem paid_le (R : Right L) {i j : Nat} {p q : Int × Int} (hp : L[i]? = some p) (hq : L[j]? = some q) (h : i ≤ j) : paid L p.1 ≤ q.1 * q.2 := by
  obtain ⟨h1, h2⟩ := minPr_spec ((L.drop (cnt L p.1)).map fun p => (cost L p.1, p.1)) (cost L p.1, p.1)
  have key : ∀ y ∈ (cost L p.1, p.1) :: (L.drop (cnt L p.1)).map (fun p => (cost L p.1, p.1)), paid L p.1 ≤ y.1 := fun y hy => by
    have h3 := h2 y hy
    rw [Bool.eq_false_iff, ne_eq, ltPr_iff] at h3
    show (minPr _ _).1 ≤ y.1
    omega
  by_cases he : j = i
  · subst he
    rw [hp] at hq
    cases hq
    have := key _ List.mem_cons_self
    rw [cost_here R hp] at this
    exact this
  · have hm : q ∈ L.drop (cnt L p.1) := by
      rw [cnt_at R hp]
      refine List.mem_of_getElem? (i := j - (i + 1)) ?_
      rw [List.getElem?_drop, show i + 1 + (j - (i + 1)) = j by omega]
      exact hq
    have := key (cost L q.1, q.1) (List.mem_cons_of_mem _ (List.mem_map.mpr ⟨q, hm, rfl⟩))
    rw [cost_here R hq] at this
    exact this
theorem paid_ge (R : Right L) {i : Nat} {p : Int × Int} (hp : L[i]? = some p) {x : Int} (h : ∀ j q, L[j]? = some q → i ≤ j → x ≤ q.1 * q.2) : x ≤ paid L p.1 := by
  obtain ⟨h1, h2⟩ := minPr_spec ((L.drop (cnt L p.1)).map fun p => (cost L p.1, p.1)) (cost L p.1, p.1)
  show x ≤ (minPr _ _).1
  rcases List.mem_cons.mp h1 with h1 | h1
  · rw [h1]
    show x ≤ cost L p.1
    rw [cost_here R hp]
    exact h i p hp (Nat.le_refl _)
  · obtain ⟨q, hq, e⟩ := List.mem_map.mp h1
    rw [← e]
    rw [cnt_at R hp] at hq
    obtain ⟨k, hk⟩ := List.getElem?_of_mem hq
    rw [List.getElem?_drop] at hk
    show x ≤ cost L q.1
    rw [cost_here R hk]
    exact h _ q hk (by omega)
/-! ### stretches as one -/
def merge1 (f : List (Int × Int)) (s : Int × Int) : List (Int × Int) := match f.getLast? with
  | some t => if t.2 + 1 = s.1 then f.dropLast ++ [(t.1, s.2)] else f ++ [s]
  | none => [s]
def mergedL (l : List (Int × Int)) : List (Int × Int) := l.foldl merge1 []
theorem merge1_len (f : List (Int × Int)) (s : Int × Int) : (merge1 f s).length ≤ f.length + 1 := by
  unfold merge1
  cases e : f.getLast? with
  | none => simp
  | some t =>
    dsimp only
    split <;> simp
theorem folded_len {α : Type} {f : List (Int × Int) → α → List (Int × Int)} (h : ∀ a x, (f a x).length ≤ a.length + 1) : ∀ (l : List α) (a : List (Int × Int)), (l.foldl f a).length ≤ a.length + l.length
  | [], a => by simp
  | x :: l, a => by
    have h1 := h a x
    have h2 := folded_len h l (f a x)
    simp only [List.foldl_cons, List.length_cons] at h2 ⊢
    omega
theorem merged_ok (l : List (Int × Int)) (h : l.length ≤ 500) : f_merged [.d (.list (l.map stp))] μ = .ok (.d (.list ((mergedL l).map stp))) μ := by
  refine wp_eq (w_body rfl (by wtm_at "env") ?_)
  unfold d_merged
  apply s_seq
  · wtm_at "go"
  refine s_seqFor (xs := l) (g := fun s => .d (stp s)) (fun rest ρ' μ' => μ' = μ ∧ ∃ done x y, l = done ++ rest ∧ ρ' = [some (.d (.list (l.map stp))), some (.d (.list ((done.foldl merge1 []).map stp))), x, y]) (by wtm_at "go") ⟨rfl, [], _, _, rfl, rfl⟩ ?_ ?_
  · rintro ⟨a, b⟩ rest ρ' μ' ⟨rfl, done, x, y, e, rfl⟩
    refine ⟨_, by wtm_at "tg", ?_⟩
    have el : done.length ≤ 500 := by
      rw [e, List.length_append] at h
      omega
    have fl := folded_len merge1_len done []
    have e3 : (done ++ [(a, b)]).foldl merge1 [] = merge1 (done.foldl merge1 []) (a, b) := by rw [List.foldl_append]; rfl
    have I' : ∀ (z : List (Int × Int)), z = merge1 (done.foldl merge1 []) (a, b) → turn (fun ρ' μ'' => μ'' = μ' ∧ ∃ done x y, l = done ++ rest ∧ ρ' = [some (.d (.list (l.map stp))), some (.d (.list ((done.foldl merge1 []).map stp))), x, y]) (fun _ _ => False) (ends1 fun u μ'' => u = .d (.list ((mergedL l).map stp)) ∧ μ'' = μ')
        (.nx, [some (.d (.list (l.map stp))), some (.d (.list (z.map stp))), some (.d (.int a)), some (.d (.int b))]) μ' := fun z hz => ⟨rfl, done ++ [(a, b)], some (.d (.int a)), some (.d (.int b)), by rw [e, List.append_assoc]; rfl, by rw [hz, e3]⟩
    generalize done.foldl merge1 [] = f at fl e3 I' ⊢
    simp only [List.length_nil] at fl
    have hadd2 : addP (.list (f.map stp)) (.list [stp (a, b)]) = some (.list ((f ++ [(a, b)]).map stp)) := by
      rw [addP_l (by simp; omega), List.map_append]
      rfl
    cases e2 : f.getLast? with
    | none =>
      have f0 : f = [] := List.getLast?_eq_none_iff.mp e2
      have hne : neP (.list (f.map stp)) (.list []) = some (.bool false) := by rw [neP_nilL, f0]; rfl
      wtm_at "run"
      exact I' _ (by unfold merge1; rw [e2, f0]; rfl)
    | some t =>
      have f0 : f ≠ [] := fun z => by rw [z] at e2; cases e2
      have hne : neP (.list (f.map stp)) (.list []) = some (.bool true) := by
        rw [neP_nilL]
        cases f with
        | nil => exact absurd rfl f0
        | cons _ _ => rfl
      have hix : ixP (.list (f.map stp)) (.int (-1)) = some (stp t) := atI_last (by rw [List.getLast?_map, e2]; rfl)
      have hcut : slP (.list (f.map stp)) none (some (-1)) = some (.list (f.dropLast.map stp)) := by rw [slP_prs, cut_init]
      have hadd1 : addP (.list (f.dropLast.map stp)) (.list [stp (t.1, b)]) = some (.list ((f.dropLast ++ [(t.1, b)]).map stp)) := by
        rw [addP_l (by simp; omega), List.map_append]
        rfl
      by_cases ht : t.2 + 1 = a
      · wtm_at "run"
        exact I' _ (by unfold merge1; rw [e2]; simp [ht])
      · wtm_at "run"
        exact I' _ (by unfold merge1; rw [e2]; simp [ht])
  · rintro ρ' μ' ⟨rfl, done, x, y, e, rfl⟩
    rw [List.append_nil] at e
    subst e
    wtm_at "run"
theorem ends_ix {i : Nat} {q : Int × Int} (h : L[i + 1]? = some q) : ixP (.list (ends L)) (.int (i : Int)) = some (.int (q.1 - 1)) := by
  have hi : i + 1 < L.length := (List.getElem?_eq_some_iff.mp h).1
  have hl : (ends L).length = L.length - 1 + 1 := by simp [ends]
  show L2.atI (ends L) (i : Int) = _
  rw [atI_nat (by omega) (by rw [hl]; omega)]
  show (ends L)[i]? = _
  unfold ends
  rw [List.getElem?_append_left (by simp; omega), List.getElem?_map, List.getElem?_tail, h]
  rfl
theorem ends_last {i : Nat} (h : i + 1 = L.length) : ixP (.list (ends L)) (.int (i : Int)) = some .none := by
  have hl : (ends L).length = L.length - 1 + 1 := by simp [ends]
  show L2.atI (ends L) (i : Int) = _
  rw [atI_nat (by omega) (by rw [hl]; omega)]
  show (ends L)[i]? = _
  unfold ends
  rw [List.getElem?_append_right (by simp; omega)]
  simp
  have : i - (L.length - 1) = 0 := by omega
  rw [this]
  rfl
/-! ### what is paid, said of members -/
theorem mem_later (h : L.Pairwise fun p q => p.1 < q.1) (n : Int) {q : Int × Int} : q ∈ L.drop (cnt L n) ↔ q ∈ L ∧ n < q.1 := by
  induction L with
  | nil => simp
  | cons a L ih =>
    obtain ⟨h1, h2⟩ := List.pairwise_cons.mp h
    by_cases ha : a.1 ≤ n
    · have e : cnt (a :: L) n = cnt L n + 1 := by
        unfold cnt
        rw [List.filter_cons_of_pos (by simpa using ha), List.length_cons]
      rw [e, List.drop_succ_cons, ih h2, List.mem_cons]
      constructor
      · exact fun h => ⟨.inr h.1, h.2⟩
      · rintro ⟨rfl | h, h3⟩
        · omega
        · exact ⟨h, h3⟩
    · have e : cnt (a :: L) n = 0 := by
        unfold cnt
        rw [List.length_eq_zero_iff, List.filter_eq_nil_iff]
        intro x hx
        rcases List.mem_cons.mp hx with rfl | hx
        · simpa using ha
        · have := h1 x hx
          simp
          omega
      rw [e, List.drop_zero]
      constructor
      · intro hq
        refine ⟨hq, ?_⟩
        rcases List.mem_cons.mp hq with rfl | hq
        · omega
        · have := h1 q hq
          omega
      · exact fun h => h.1
theorem cost_mem (R : Right L) {q : Int × Int} (hq : q ∈ L) : cost L q.1 = q.1 * q.2 := by
  obtain ⟨i, hi⟩ := List.getElem?_of_mem hq
  exact cost_here R hi
theorem paid_cost (L : List (Int × Int)) (n : Int) : paid L n ≤ cost L n := by
  have h := (minPr_spec ((L.drop (cnt L n)).map fun p => (cost L p.1, p.1)) (cost L n, n)).2 _ List.mem_cons_self
  rw [Bool.eq_false_iff, ne_eq, ltPr_iff] at h
  show (minPr _ _).1 ≤ _
  omega
theorem paid_later (R : Right L) {n : Int} {q : Int × Int} (hq : q ∈ L) (h : n < q.1) : paid L n ≤ q.1 * q.2 := by
  have h := (minPr_spec ((L.drop (cnt L n)).map fun p => (cost L p.1, p.1)) (cost L n, n)).2 _ (List.mem_cons_of_mem _ (List.mem_map.mpr ⟨q, (mem_later R.asc n).mpr ⟨hq, h⟩, rfl⟩))
  rw [Bool.eq_false_iff, ne_eq, ltPr_iff, cost_mem R hq] at h
  show (minPr _ _).1 ≤ _
  omega
theorem paid_is (R : Right L) (n : Int) : paid L n = cost L n ∨ ∃ q ∈ L, n < q.1 ∧ paid L n = q.1 * q.2 := by
  have h := (minPr_spec ((L.drop (cnt L n)).map fun p => (cost L p.1, p.1)) (cost L n, n)).1
  rcases List.mem_cons.mp h with h | h
  · exact .inl (congrArg Prod.fst h)
  · obtain ⟨q, hq, e⟩ := List.mem_map.mp h
    obtain ⟨h1, h2⟩ := (mem_later R.asc n).mp hq
    refine .inr ⟨q, h1, h2, ?_⟩
    rw [← cost_mem R h1]
    exact (congrArg Prod.fst e).symm
theorem paid_lo (R : Right L) {n : Int} (hn : 0 ≤ n) : 0 ≤ paid L n := by
  rcases paid_is R n with e | ⟨q, hq, _, e⟩
  · rw [e]
    exact cost_lo R hn
  · rw [e]
    exact Int.mul_nonneg (R.b0 q hq) (R.p0 q hq)
/-- between a border and the next one -/
theorem paid_between (R : Right L) {i : Nat} {p q : Int × Int} (hp : L[i]? = some p) (hq : L[i + 1]? = some q) {n : Int} (h1 : p.1 ≤ n) (h2 : n < q.1) : paid L n = min (n * p.2) (paid L q.1) := by
  have ec : cost L n = n * p.2 := by
    unfold cost
    rw [price_eq R hp h1 fun q' hq' => by rw [hq] at hq'; cases hq'; exact h2]
  have hqm := mem_at hq
  have u1 := paid_cost L n
  have u2 : paid L n ≤ paid L q.1 := by
    rcases paid_is R q.1 with e | ⟨r, hr, h3, e⟩
    · rw [e, cost_mem R hqm]
      exact paid_later R hqm h2
    · rw [e]
      exact paid_later R hr (by omega)
  have u3 : paid L n = n * p.2 ∨ paid L q.1 ≤ paid L n := by
    rcases paid_is R n with e | ⟨r, hr, h3, e⟩
    · exact .inl (e.trans ec)
    · right
      rw [e]
      obtain ⟨j, hj⟩ := List.getElem?_of_mem hr
      rcases Nat.lt_or_ge j (i + 1) with h | h
      · rcases Nat.lt_or_ge j i with h' | h'
        · have := asc_lt R hj hp h'
          omega
        · have ej : j = i := by omega
          subst ej
          rw [hp] at hj
          cases hj
          omega
      · rcases Nat.eq_or_lt_of_le h with h' | h'
        · subst h'
          rw [hq] at hj
          cases hj
          have := paid_cost L q.1
          rw [cost_mem R hqm] at this
          exact this
        · exact paid_later R hr (asc_lt R hq hj h')
  rw [ec] at u1
  rw [Int.min_def]
  split <;> rcases u3 with u3 | u3 <;> omega
theorem paid_last (R : Right L) {i : Nat} {p : Int × Int} (hp : L[i]? = some p) (hq : L[i + 1]? = none) {n : Int} (h1 : p.1 ≤ n) : paid L n = n * p.2 := by
  have ec : cost L n = n * p.2 := by
    unfold cost
    rw [price_eq R hp h1 fun q' hq' => by rw [hq] at hq'; cases hq']
  rcases paid_is R n with e | ⟨r, hr, h3, e⟩
  · exact e.trans ec
  · obtain ⟨j, hj⟩ := List.getElem?_of_mem hr
    have hj' := (List.getElem?_eq_some_iff.mp hj).1
    have hi' := List.getElem?_eq_none_iff.mp hq
    rcases Nat.lt_or_ge j i with h' | h'
    · have := asc_lt R hj hp h'
      omega
    · have ej : j = i := by omega
      subst ej
      rw [hp] at hj
      cases hj
      omega
/-! ### numbers within bounds -/
def isInt0 (v : PyData) (lo hi : Int) : Bool := match v with
  | .int i => decide (lo ≤ i) && decide (i ≤ hi)
  | _ => false
theorem is_int_any (v : PyData) {lo hi : Int} : f_is_int [.d v, .d (.int lo), .d (.int hi)] μ = .ok (.d (.bool (isInt0 v lo hi))) μ := by
  cases v with
  | int i => exact is_int_ok
  | _ => rfl
theorem need_num_ok {n lo hi : Int} (h1 : lo ≤ n) (h2 : n ≤ hi) : f_need_number [.d (.int n), .d (.int lo), .d (.int hi)] μ = .ok (.d .none) μ := by
  have hi' := is_int_ok (μ := μ) (v := n) (lo := lo) (hi := hi)
  rw [decide_eq_true h1, decide_eq_true h2] at hi'
  refine wp_eq (w_body rfl (by wtm_at "env") ?_)
  unfold d_need_number
  wtm_at "run"
theorem need_num_bad {v : PyData} {lo hi : Int} (h : isInt0 v lo hi = false) : f_need_number [.d v, .d (.int lo), .d (.int hi)] μ = .err (.own 3) μ := by
  have hi' := is_int_any (μ := μ) v (lo := lo) (hi := hi)
  rw [h] at hi'
  apply r_bodyE rfl (by wtm_at "env")
  unfold d_need_number
  refine r_ite (c := !false) (μ1 := μ) ?_ ?_
  · wtm_at "go"
  · rfl
/-! ### what is bought -/
theorem bought_le_n (L : List (Int × Int)) (n : Int) : (bought L n).1 ≤ cost L n ∧ ((bought L n).1 = cost L n → (bought L n).2 ≤ n) := by
  have h := (minPr_spec ((L.drop (cnt L n)).map fun p => (cost L p.1, p.1)) (cost L n, n)).2 _ List.mem_cons_self
  rw [Bool.eq_false_iff, ne_eq, ltPr_iff] at h
  show (minPr _ _).1 ≤ _ ∧ ((minPr _ _).1 = _ → (minPr _ _).2 ≤ _)
  dsimp only at h
  omega
theorem bought_le (R : Right L) {n : Int} {q : Int × Int} (hq : q ∈ L) (h : n < q.1) : (bought L n).1 ≤ q.1 * q.2 ∧ ((bought L n).1 = q.1 * q.2 → (bought L n).2 ≤ q.1) := by
  have h := (minPr_spec ((L.drop (cnt L n)).map fun p => (cost L p.1, p.1)) (cost L n, n)).2 _ (List.mem_cons_of_mem _ (List.mem_map.mpr ⟨q, (mem_later R.asc n).mpr ⟨hq, h⟩, rfl⟩))
  rw [Bool.eq_false_iff, ne_eq, ltPr_iff, cost_mem R hq] at h
  show (minPr _ _).1 ≤ _ ∧ ((minPr _ _).1 = _ → (minPr _ _).2 ≤ _)
  dsimp only at h
  omega
theorem bought_is (R : Right L) (n : Int) : bought L n = (cost L n, n) ∨ ∃ q ∈ L, n < q.1 ∧ bought L n = (q.1 * q.2, q.1) := by
  have h := (minPr_spec ((L.drop (cnt L n)).map fun p => (cost L p.1, p.1)) (cost L n, n)).1
  rcases List.mem_cons.mp h with h | h
  · exact .inl h
  · obtain ⟨q, hq, e⟩ := List.mem_map.mp h
    obtain ⟨h1, h2⟩ := (mem_later R.asc n).mp hq
    refine .inr ⟨q, h1, h2, ?_⟩
    rw [← cost_mem R h1]
    exact e.symm
theorem law_bought (R : Right L) {n : Int} (hn : 0 ≤ n) : f__law_paid [.d (lad L), .d (.int n)] μ = .ok (.d (stp (bought L n))) μ := by
  have key : wp (f__law_paid [.d (lad L), .d (.int n)] μ) fun u μ' => u = .d (stp (bought L n)) ∧ μ' = μ := by
    have hc := law_cost (μ := μ) R hn
    have h5 := R.len
    refine w_body rfl (by wtm_at "env") ?_
    unfold d__law_paid
    apply s_seq
    · wtm_at "go"
    refine s_seqFor (xs := L) (g := fun s => .d (stp s)) (fun rest ρ' μ' => μ' = μ ∧ ∃ (done : List (Int × Int)) (v k : Int) (x3 x4 : Option U), L = done ++ rest ∧ v ≤ cost L n ∧ (v = cost L n → k = n) ∧ (∀ q ∈ done, n < q.1 → v ≤ q.1 * q.2 ∧ (v = q.1 * q.2 → k ≤ q.1)) ∧ ((v = cost L n ∧ k = n) ∨ ∃ q ∈ done, n < q.1 ∧ v = q.1 * q.2 ∧ k = q.1) ∧ ρ' = [some (.d (lad L)), some (.d (.int n)), some (.d (stp (v, k))), x3, x4]) (by wtm_at "go") ⟨rfl, [], _, _, _, _, rfl, Int.le_refl _, (fun _ => rfl), (fun q h => nomatch h), .inl ⟨rfl, rfl⟩, rfl⟩ ?_ ?_
    · rintro ⟨a, b⟩ rest ρ' μ' ⟨rfl, done, v, k, x3, x4, e, hv0, hv1, hv2, hv3, rfl⟩
      refine ⟨_, rfl, ?_⟩
      have hm : (a, b) ∈ L := by rw [e]; simp
      have b0 := R.p0 _ hm
      have b1 := R.p1 _ hm
      dsimp only at b0 b1
      have hasc : ∀ q ∈ done, q.1 < a := fun q hq => by
        have := R.asc
        rw [e, List.pairwise_append] at this
        exact this.2.2 q hq (a, b) List.mem_cons_self
      have fin : ∀ (v' k' : Int) (y3 y4 : Option U), v' ≤ cost L n → (v' = cost L n → k' = n) → (∀ q ∈ done ++ [(a, b)], n < q.1 → v' ≤ q.1 * q.2 ∧ (v' = q.1 * q.2 → k' ≤ q.1)) → ((v' = cost L n ∧ k' = n) ∨ ∃ q ∈ done ++ [(a, b)], n < q.1 ∧ v' = q.1 * q.2 ∧ k' = q.1) → turn (fun ρ' μ'' => μ'' = μ' ∧ ∃ (done : List (Int × Int)) (v k : Int) (x3 x4 : Option U), L = done ++ rest ∧ v ≤ cost L n ∧ (v = cost L n → k = n) ∧ (∀ q ∈ done, n < q.1 → v ≤ q.1 * q.2 ∧ (v = q.1 * q.2 → k ≤ q.1)) ∧ ((v = cost L n ∧ k = n) ∨ ∃ q ∈ done, n < q.1 ∧ v = q.1 * q.2 ∧ k = q.1) ∧ ρ' = [some (.d (lad L)), some (.d (.int n)), some (.d (stp (v, k))), x3, x4]) (fun _ _ => False) (ends1 fun u μ'' => u = .d (stp (bought L n)) ∧ μ'' = μ')
          (.nx, [some (.d (lad L)), some (.d (.int n)), some (.d (stp (v', k'))), y3, y4]) μ' := fun v' k' y3 y4 h0 h1 h2 h3 => ⟨rfl, done ++ [(a, b)], v', k', y3, y4, by rw [e, List.append_assoc]; rfl, h0, h1, h2, h3, rfl⟩
      have i0 := ixP_stp0 (v, k)
      have ml : mulP (.int a) (.int b) = some (.int (a * b)) := mul_small (.inr ⟨by omega, by omega⟩)
      have keep : ((v = cost L n ∧ k = n) ∨ ∃ q ∈ done ++ [(a, b)], n < q.1 ∧ v = q.1 * q.2 ∧ k = q.1) := hv3.imp id fun ⟨q, hq, h⟩ => ⟨q, List.mem_append_left _ hq, h⟩
      by_cases h1 : a > n
      · by_cases h2 : a * b < v
        · clear keep
          wtm_at "run"
          all_goals exact fin (a * b) a _ _ (by omega) (fun h => by omega) (fun q hq h => by
            rcases List.mem_append.mp hq with hq | hq
            · have := (hv2 q hq h).1
              exact ⟨by omega, fun h => by omega⟩
            · rw [List.mem_singleton.mp hq]
              exact ⟨Int.le_refl _, fun _ => Int.le_refl _⟩) (.inr ⟨(a, b), by simp, h1, rfl, rfl⟩)
        · have kl : k ≤ a := by
            rcases hv3 with ⟨_, h⟩ | ⟨q, hq, _, _, h⟩
            · omega
            · have := hasc q hq
              omega
          wtm_at "run"
          all_goals exact fin v k _ _ hv0 hv1 (fun q hq h => by
            rcases List.mem_append.mp hq with hq | hq
            · exact hv2 q hq h
            · rw [List.mem_singleton.mp hq]
              exact ⟨by show v ≤ a * b; omega, fun _ => kl⟩) keep
      · wtm_at "run"
        all_goals exact fin v k _ _ hv0 hv1 (fun q hq h => by
            rcases List.mem_append.mp hq with hq | hq
            · exact hv2 q hq h
            · rw [List.mem_singleton.mp hq] at h
              exact absurd h (by show ¬ n < a; omega)) keep
    · rintro ρ' μ' ⟨rfl, done, v, k, x3, x4, e, hv0, hv1, hv2, hv3, rfl⟩
      rw [List.append_nil] at e
      subst e
      have ev : (v, k) = bought L n := by
        have m0 := bought_le_n L n
        have m1 : ∀ q ∈ L, n < q.1 → (bought L n).1 ≤ q.1 * q.2 ∧ ((bought L n).1 = q.1 * q.2 → (bought L n).2 ≤ q.1) := fun q hq h => bought_le R hq h
        have hb := bought_is R n
        generalize bought L n = z at m0 m1 hb
        obtain ⟨v0, k0⟩ := z
        dsimp only at m0 m1
        have a1 : v ≤ v0 ∧ (v = v0 → k ≤ k0) := by
          rcases hb with h | ⟨q, hq, h, h'⟩
          · cases h
            exact ⟨hv0, fun h => by have := hv1 h; omega⟩
          · cases h'
            exact hv2 q hq h
        have a2 : v0 ≤ v ∧ (v0 = v → k0 ≤ k) := by
          rcases hv3 with ⟨h, h'⟩ | ⟨q, hq, h, h', h''⟩
          · rw [h, h']
            exact m0
          · rw [h', h'']
            exact m1 q hq h
        have e1 : v = v0 := by omega
        have e2 : k = k0 := Int.le_antisymm (a1.2 e1) (a2.2 e1.symm)
        rw [e1, e2]
      rw [← ev]
      wtm_at "run"
  exact wp_eq key
/-! ### stretches of a set of numbers -/
inductive SR (P : Int → Prop) : Int → List (Int × Int) → Prop
  | nil {a : Int} (h : ∀ n, a ≤ n → ¬ P n) : SR P a []
  | cons {a f l : Int} {r : List (Int × Int)} (haf : a ≤ f) (hfl : f ≤ l) (h0 : ∀ n, a ≤ n → n < f → ¬ P n) (h1 : ∀ n, f ≤ n → n ≤ l → P n) (h2 : ¬ P (l + 1)) (t : SR P (l + 2) r) : SR P a ((f, l) :: r)
/-- .. that may touch -/
inductive SL (P : Int → Prop) : Int → List (Int × Int) → Prop
  | nil {a : Int} (h : ∀ n, a ≤ n → ¬ P n) : SL P a []
  | cons {a f l : Int} {r : List (Int × Int)} (haf : a ≤ f) (hfl : f ≤ l) (h0 : ∀ n, a ≤ n → n < f → ¬ P n) (h1 : ∀ n, f ≤ n → n ≤ l → P n) (t : SL P (l + 1) r) : SL P a ((f, l) :: r)
theorem SR.one {P : Int → Prop} {a : Int} {r : List (Int × Int)} (h : SR P a r) : ∀ {r' : List (Int × Int)}, SR P a r' → r = r' := by
  induction h with
  | nil h =>
    intro r' h'
    cases h' with
    | nil _ => rfl
    | cons haf hfl h0 h1 h2 t => exact absurd (h1 _ (Int.le_refl _) hfl) (h _ haf)
  | @cons a f l r haf hfl h0 h1 h2 t ih =>
    intro r' h'
    cases h' with
    | nil h => exact absurd (h1 _ (Int.le_refl _) hfl) (h _ haf)
    | @cons _ f' l' r' haf' hfl' h0' h1' h2' t' =>
      have ef : f = f' := by
        rcases Int.lt_trichotomy f f' with h | h | h
        · exact absurd (h1 f (Int.le_refl _) hfl) (h0' f haf h)
        · exact h
        · exact absurd (h1' f' (Int.le_refl _) hfl') (h0 f' haf' h)
      subst ef
      have el : l = l' := by
        rcases Int.lt_trichotomy l l' with h | h | h
        · exact absurd (h1' (l + 1) (by omega) (by omega)) h2
        · exact h
        · exact absurd (h1 (l' + 1) (by omega) (by omega)) h2'
      subst el
      rw [ih t']
theorem SR.mem {P : Int → Prop} {a : Int} {r : List (Int × Int)} (h : SR P a r) : ∀ n, a ≤ n → (P n ↔ ∃ q ∈ r, q.1 ≤ n ∧ n ≤ q.2) := by
  induction h with
  | nil h => exact fun n hn => ⟨fun hp => absurd hp (h n hn), fun ⟨q, hq, _⟩ => nomatch hq⟩
  | @cons a f l r haf hfl h0 h1 h2 t ih =>
    intro n hn
    constructor
    · intro hp
      by_cases hf : n < f
      · exact absurd hp (h0 n hn hf)
      · by_cases hl : n ≤ l
        · exact ⟨(f, l), List.mem_cons_self, by show f ≤ n; omega, hl⟩
        · by_cases hl2 : n = l + 1
          · subst hl2
            exact absurd hp h2
          · obtain ⟨q, hq, h3⟩ := (ih n (by omega)).mp hp
            exact ⟨q, List.mem_cons_of_mem _ hq, h3⟩
    · rintro ⟨q, hq, h3, h4⟩
      rcases List.mem_cons.mp hq with rfl | hq
      · exact h1 n h3 h4
      · have lo : ∀ {b : Int} {r : List (Int × Int)}, SR P b r → ∀ q ∈ r, b ≤ q.1 := fun {b r} t => by
          induction t with
          | nil _ => exact fun q hq => nomatch hq
          | cons haf hfl _ _ _ _ ih =>
            intro q hq
            rcases List.mem_cons.mp hq with rfl | hq
            · exact haf
            · have := ih q hq
              omega
        have := lo t q hq
        exact (ih n (by omega)).mpr ⟨q, hq, h3, h4⟩
/-! ### stretches as one -/
def mergeR : Int × Int → List (Int × Int) → List (Int × Int)
  | s, [] => [s]
  | s, t :: r => if s.2 + 1 = t.1 then mergeR (s.1, t.2) r else s :: mergeR t r
theorem merge_fold : ∀ (r f : List (Int × Int)) (s : Int × Int), r.foldl merge1 (f ++ [s]) = f ++ mergeR s r
  | [], f, s => rfl
  | t :: r, f, s => by
    rw [List.foldl_cons]
    have e : merge1 (f ++ [s]) t = if s.2 + 1 = t.1 then f ++ [(s.1, t.2)] else f ++ [s] ++ [t] := by
      unfold merge1
      rw [List.getLast?_concat]
      dsimp only
      rw [List.dropLast_concat]
    rw [e]
    unfold mergeR
    by_cases h : s.2 + 1 = t.1
    · rw [if_pos h, if_pos h]
      exact merge_fold r f (s.1, t.2)
    · rw [if_neg h, if_neg h, merge_fold r (f ++ [s]) t, List.append_assoc]
      rfl
theorem SL.merge {P : Int → Prop} : ∀ (r : List (Int × Int)) (a : Int) (s : Int × Int), SL P a (s :: r) → SR P a (mergeR s r)
  | [], a, (f, l), h => by
    cases h with
    | cons haf hfl h0 h1 t =>
      cases t with
      | nil h => exact .cons haf hfl h0 h1 (h _ (Int.le_refl _)) (.nil fun n hn => h n (by omega))
  | (f2, l2) :: r, a, (f, l), h => by
    cases h with
    | cons haf hfl h0 h1 t =>
      unfold mergeR
      by_cases e : l + 1 = f2
      · rw [if_pos e]
        cases t with
        | cons haf2 hfl2 h02 h12 t2 =>
          exact SL.merge r a (f, l2) (.cons haf (by omega) h0 (fun n h3 h4 => by
            by_cases hn : n ≤ l
            · exact h1 n h3 hn
            · exact h12 n (by omega) h4) t2)
      · rw [if_neg e]
        have t' := t
        cases t' with
        | cons haf2 hfl2 h02 h12 t2 =>
          refine .cons haf hfl h0 h1 (h02 _ (Int.le_refl _) (by omega)) (SL.merge r (l + 2) (f2, l2) ?_)
          exact .cons (by omega) hfl2 (fun n h3 h4 => h02 n (by omega) h4) h12 t2
theorem SL.merged {P : Int → Prop} {a : Int} {r : List (Int × Int)} (h : SL P a r) : SR P a (mergedL r) := by
  cases r with
  | nil =>
    cases h with
    | nil h => exact .nil h
  | cons s r =>
    have := merge_fold r [] s
    show SR P a (r.foldl merge1 (merge1 [] s))
    rw [show merge1 [] s = [] ++ [s] from rfl, this]
    exact h.merge
/-! ### stretches of numbers one by one -/
def from_ (a : Int) : Nat → List Int
  | 0 => []
  | k + 1 => a :: from_ (a + 1) k
theorem from_eq (a : Int) : ∀ (k : Nat), from_ a k = (List.range k).map fun (i : Nat) => a + (i : Int) := by
  intro k
  induction k generalizing a with
  | zero => rfl
  | succ k ih =>
    rw [List.range_succ_eq_map, List.map_cons, List.map_map]
    unfold from_
    rw [ih]
    congr 1
    · simp
    · refine List.map_congr_left fun i _ => ?_
      show a + 1 + (i : Int) = a + ((i + 1 : Nat) : Int)
      omega
theorem SL.diag {P : Int → Prop} {p : Int → Bool} (hp : ∀ n, P n ↔ p n = true) : ∀ (k : Nat) (a e : Int), a + k = e → (∀ n, e ≤ n → ¬ P n) → SL P a (((from_ a k).filter p).map fun n => (n, n))
  | 0, a, e, he, hn => .nil fun n h => hn n (by omega)
  | k + 1, a, e, he, hn => by
    have ih := SL.diag hp k (a + 1) e (by omega) hn
    unfold from_
    by_cases h : p a = true
    · rw [List.filter_cons_of_pos h, List.map_cons]
      exact .cons (Int.le_refl _) (Int.le_refl _) (fun n h1 h2 => by omega) (fun n h1 h2 => by rw [show n = a by omega]; exact (hp a).mpr h) ih
    · rw [List.filter_cons_of_neg h]
      have np : ¬ P a := fun z => h ((hp a).mp z)
      cases hl : ((from_ (a + 1) k).filter p).map (fun n => (n, n)) with
      | nil =>
        rw [hl] at ih
        cases ih with
        | nil ih =>
          exact .nil fun n h1 => by
            by_cases hna : n = a
            · rw [hna]
              exact np
            · exact ih n (by omega)
      | cons s r =>
        rw [hl] at ih
        obtain ⟨f, l⟩ := s
        cases ih with
        | cons haf hfl h0 h1 t =>
          exact .cons (by omega) hfl (fun n h3 h4 => by
            by_cases hna : n = a
            · rw [hna]
              exact np
            · exact h0 n (by omega) h4) h1 t
/-! ### prices that are held -/
def trip (L : List (Int × Int)) (n : Int) : Int × Int := minPr (cost L n, n) ((L.drop (cnt L n)).map fun p => (n * p.2, p.1))
theorem trip_le_n (L : List (Int × Int)) (n : Int) : (trip L n).1 ≤ cost L n ∧ ((trip L n).1 = cost L n → (trip L n).2 ≤ n) := by
  have h := (minPr_spec ((L.drop (cnt L n)).map fun p => (n * p.2, p.1)) (cost L n, n)).2 _ List.mem_cons_self
  rw [Bool.eq_false_iff, ne_eq, ltPr_iff] at h
  show (minPr _ _).1 ≤ _ ∧ ((minPr _ _).1 = _ → (minPr _ _).2 ≤ _)
  dsimp only at h
  omega
theorem trip_le (R : Right L) {n : Int} {q : Int × Int} (hq : q ∈ L) (h : n < q.1) : (trip L n).1 ≤ n * q.2 ∧ ((trip L n).1 = n * q.2 → (trip L n).2 ≤ q.1) := by
  have h := (minPr_spec ((L.drop (cnt L n)).map fun p => (n * p.2, p.1)) (cost L n, n)).2 _ (List.mem_cons_of_mem _ (List.mem_map.mpr ⟨q, (mem_later R.asc n).mpr ⟨hq, h⟩, rfl⟩))
  rw [Bool.eq_false_iff, ne_eq, ltPr_iff] at h
  show (minPr _ _).1 ≤ _ ∧ ((minPr _ _).1 = _ → (minPr _ _).2 ≤ _)
  dsimp only at h
  omega
theorem trip_is (R : Right L) (n : Int) : trip L n = (cost L n, n) ∨ ∃ q ∈ L, n < q.1 ∧ trip L n = (n * q.2, q.1) := by
  have h := (minPr_spec ((L.drop (cnt L n)).map fun p => (n * p.2, p.1)) (cost L n, n)).1
  rcases List.mem_cons.mp h with h | h
  · exact .inl h
  · obtain ⟨q, hq, e⟩ := List.mem_map.mp h
    obtain ⟨h1, h2⟩ := (mem_later R.asc n).mp hq
    exact .inr ⟨q, h1, h2, e.symm⟩
theorem trip_zero (R : Right L) : trip L 0 = (0, 0) := by
  have c0 : cost L 0 = 0 := Int.zero_mul _
  have h0 := trip_le_n L 0
  rcases trip_is R 0 with h | ⟨q, hq, h1, h⟩
  · rw [h, c0]
  · rw [h, c0, Int.zero_mul] at h0
    have := h0.2 rfl
    dsimp only at this
    omega
theorem law_trip (R : Right L) {n : Int} (hn : 0 ≤ n) : f__law_trip [.d (lad L), .d (.int n)] μ = .ok (.d (stp (trip L n))) μ := by
  have key : wp (f__law_trip [.d (lad L), .d (.int n)] μ) fun u μ' => u = .d (stp (trip L n)) ∧ μ' = μ := by
    have hc := law_cost (μ := μ) R hn
    have h5 := R.len
    refine w_body rfl (by wtm_at "env") ?_
    unfold d__law_trip
    apply s_seq
    · wtm_at "go"
    refine s_seqFor (xs := L) (g := fun s => .d (stp s)) (fun rest ρ' μ' => μ' = μ ∧ ∃ (done : List (Int × Int)) (v k : Int) (x3 x4 : Option U), L = done ++ rest ∧ v ≤ cost L n ∧ (v = cost L n → k = n) ∧ (∀ q ∈ done, n < q.1 → v ≤ n * q.2 ∧ (v = n * q.2 → k ≤ q.1)) ∧ ((v = cost L n ∧ k = n) ∨ ∃ q ∈ done, n < q.1 ∧ v = n * q.2 ∧ k = q.1) ∧ ρ' = [some (.d (lad L)), some (.d (.int n)), some (.d (stp (v, k))), x3, x4]) (by wtm_at "go") ⟨rfl, [], _, _, _, _, rfl, Int.le_refl _, (fun _ => rfl), (fun q h => nomatch h), .inl ⟨rfl, rfl⟩, rfl⟩ ?_ ?_
    · rintro ⟨a, b⟩ rest ρ' μ' ⟨rfl, done, v, k, x3, x4, e, hv0, hv1, hv2, hv3, rfl⟩
      refine ⟨_, rfl, ?_⟩
      have hm : (a, b) ∈ L := by rw [e]; simp
      have b0 := R.p0 _ hm
      have b1 := R.p1 _ hm
      dsimp only at b0 b1
      have hasc : ∀ q ∈ done, q.1 < a := fun q hq => by
        have := R.asc
        rw [e, List.pairwise_append] at this
        exact this.2.2 q hq (a, b) List.mem_cons_self
      have fin : ∀ (v' k' : Int) (y3 y4 : Option U), v' ≤ cost L n → (v' = cost L n → k' = n) → (∀ q ∈ done ++ [(a, b)], n < q.1 → v' ≤ n * q.2 ∧ (v' = n * q.2 → k' ≤ q.1)) → ((v' = cost L n ∧ k' = n) ∨ ∃ q ∈ done ++ [(a, b)], n < q.1 ∧ v' = n * q.2 ∧ k' = q.1) → turn (fun ρ' μ'' => μ'' = μ' ∧ ∃ (done : List (Int × Int)) (v k : Int) (x3 x4 : Option U), L = done ++ rest ∧ v ≤ cost L n ∧ (v = cost L n → k = n) ∧ (∀ q ∈ done, n < q.1 → v ≤ n * q.2 ∧ (v = n * q.2 → k ≤ q.1)) ∧ ((v = cost L n ∧ k = n) ∨ ∃ q ∈ done, n < q.1 ∧ v = n * q.2 ∧ k = q.1) ∧ ρ' = [some (.d (lad L)), some (.d (.int n)), some (.d (stp (v, k))), x3, x4]) (fun _ _ => False) (ends1 fun u μ'' => u = .d (stp (trip L n)) ∧ μ'' = μ')
          (.nx, [some (.d (lad L)), some (.d (.int n)), some (.d (stp (v', k'))), y3, y4]) μ' := fun v' k' y3 y4 h0 h1 h2 h3 => ⟨rfl, done ++ [(a, b)], v', k', y3, y4, by rw [e, List.append_assoc]; rfl, h0, h1, h2, h3, rfl⟩
      have i0 := ixP_stp0 (v, k)
      have ml : mulP (.int n) (.int b) = some (.int (n * b)) := mul_small (.inr ⟨by omega, by omega⟩)
      have keep : ((v = cost L n ∧ k = n) ∨ ∃ q ∈ done ++ [(a, b)], n < q.1 ∧ v = n * q.2 ∧ k = q.1) := hv3.imp id fun ⟨q, hq, h⟩ => ⟨q, List.mem_append_left _ hq, h⟩
      by_cases h1 : a > n
      · by_cases h2 : n * b < v
        · clear keep
          wtm_at "run"
          all_goals exact fin (n * b) a _ _ (by omega) (fun h => by omega) (fun q hq h => by
            rcases List.mem_append.mp hq with hq | hq
            · have := (hv2 q hq h).1
              exact ⟨by omega, fun h => by omega⟩
            · rw [List.mem_singleton.mp hq]
              exact ⟨Int.le_refl _, fun _ => Int.le_refl _⟩) (.inr ⟨(a, b), by simp, h1, rfl, rfl⟩)
        · have kl : k ≤ a := by
            rcases hv3 with ⟨_, h⟩ | ⟨q, hq, _, _, h⟩
            · omega
            · have := hasc q hq
              omega
          wtm_at "run"
          all_goals exact fin v k _ _ hv0 hv1 (fun q hq h => by
            rcases List.mem_append.mp hq with hq | hq
            · exact hv2 q hq h
            · rw [List.mem_singleton.mp hq]
              exact ⟨by show v ≤ n * b; omega, fun _ => kl⟩) keep
      · wtm_at "run"
        all_goals exact fin v k _ _ hv0 hv1 (fun q hq h => by
            rcases List.mem_append.mp hq with hq | hq
            · exact hv2 q hq h
            · rw [List.mem_singleton.mp hq] at h
              exact absurd h (by show ¬ n < a; omega)) keep
    · rintro ρ' μ' ⟨rfl, done, v, k, x3, x4, e, hv0, hv1, hv2, hv3, rfl⟩
      rw [List.append_nil] at e
      subst e
      have ev : (v, k) = trip L n := by
        have m0 := trip_le_n L n
        have m1 : ∀ q ∈ L, n < q.1 → (trip L n).1 ≤ n * q.2 ∧ ((trip L n).1 = n * q.2 → (trip L n).2 ≤ q.1) := fun q hq h => trip_le R hq h
        have hb := trip_is R n
        generalize trip L n = z at m0 m1 hb
        obtain ⟨v0, k0⟩ := z
        dsimp only at m0 m1
        have a1 : v ≤ v0 ∧ (v = v0 → k ≤ k0) := by
          rcases hb with h | ⟨q, hq, h, h'⟩
          · cases h
            exact ⟨hv0, fun h => by have := hv1 h; omega⟩
          · cases h'
            exact hv2 q hq h
        have a2 : v0 ≤ v ∧ (v0 = v → k0 ≤ k) := by
          rcases hv3 with ⟨h, h'⟩ | ⟨q, hq, h, h', h''⟩
          · rw [h, h']
            exact m0
          · rw [h', h'']
            exact m1 q hq h
        have e1 : v = v0 := by omega
        have e2 : k = k0 := Int.le_antisymm (a1.2 e1) (a2.2 e1.symm)
        rw [e1, e2]
      rw [← ev]
      wtm_at "run"
  exact wp_eq key
theorem drop_cnt (R : Right L) {n : Int} (hn : 0 ≤ n) : ∃ i p, L[i]? = some p ∧ p.1 ≤ n ∧ cnt L n = i + 1 ∧ price L n = p.2 ∧ L.drop i = p :: L.drop (cnt L n) := by
  have h1 := cnt_pos R hn
  have h2 := cnt_le L n
  have hl : cnt L n - 1 < L.length := by omega
  have hp := List.getElem?_eq_getElem hl
  refine ⟨cnt L n - 1, _, hp, ?_, by omega, ?_, ?_⟩
  · rcases Int.lt_or_le n (L[cnt L n - 1]).1 with h | h
    · have hm : L[cnt L n - 1] ∈ L.drop (cnt L n) := (mem_later R.asc n).mpr ⟨mem_at hp, h⟩
      obtain ⟨k, hk⟩ := List.getElem?_of_mem hm
      rw [List.getElem?_drop] at hk
      have := asc_lt R hp hk (by omega)
      omega
    · exact h
  · unfold price
    rw [List.getD_eq_getElem?_getD, hp]
    rfl
  · rw [List.drop_eq_getElem_cons hl, show cnt L n - 1 + 1 = cnt L n by omega]
theorem trip_for (R : Right L) {n : Int} (hn : 0 ≤ n) : f_trip_for [.d (lad L), .d (.int n)] μ = .ok (.d (stp (trip L n))) μ := by
  have h5 := R.len
  by_cases h0 : n = 0
  · subst h0
    rw [trip_zero R]
    refine wp_eq (w_body rfl (by wtm_at "env") ?_)
    unfold d_trip_for
    have e0 : eqP (.int 0) (.int 0) = some (.bool true) := rfl
    apply s_seqIteT (r_test (r_opD (r_V rfl) r_C e0))
    refine s_ret (r_tup (u := .d (stp (0, 0))) (r_cons r_C (r_cons r_C r_nil)) (by simp) rfl) ?_
    exact ⟨rfl, rfl⟩
  · obtain ⟨i, p, hp, h1, hc, hpr, hd⟩ := drop_cnt R hn
    have hi := (List.getElem?_eq_some_iff.mp hp).1
    have hst := step_at (μ := μ) R (n := n)
    have e2 : slP (lad L) (some ((cnt L n : Int) - 1)) none = some (lad (L.drop i)) := by
      rw [slP_lad, show (cnt L n : Int) - 1 = (i : Nat) by omega, cut_from]
    have e3 : minP (.list ((L.drop i).map fun q => stp (n * q.2, max n q.1))) = some (stp (trip L n)) := by
      have := minP_stp (cost L n, n) ((L.drop (cnt L n)).map fun p => (n * p.2, p.1))
      rw [List.map_map] at this
      rw [hd, List.map_cons]
      have ec : stp (n * p.2, max n p.1) = stp (cost L n, n) := by
        unfold cost
        rw [hpr, Int.max_eq_left h1]
      rw [ec, show (L.drop (cnt L n)).map (fun q => stp (n * q.2, max n q.1)) = (L.drop (cnt L n)).map (stp ∘ fun p => (n * p.2, p.1)) from List.map_congr_left fun q hq => by
        have := ((mem_later R.asc n).mp hq).2
        show stp (n * q.2, max n q.1) = stp (n * q.2, q.1)
        rw [Int.max_eq_right (by omega)]]
      exact this
    have hm : ∀ q ∈ L.drop i, mulP (.int n) (.int q.2) = some (.int (n * q.2)) ∧ max2P (.int n) (.int q.1) = some (.int (max n q.1)) := fun q hq => by
      have b0 := R.p0 _ (mem_drop hq)
      have b1 := R.p1 _ (mem_drop hq)
      refine ⟨mul_small (.inr ⟨by omega, by omega⟩), ?_⟩
      rw [max2P_int, Int.max_def]
      congr 2
      split <;> split <;> omega
    refine wp_eq (w_body rfl (by wtm_at "env") ?_)
    unfold d_trip_for
    have ne : eqP (.int n) (.int 0) = some (.bool false) := by
      rw [eqP_int]
      simp [h0]
    refine s_pass (r_test (r_opD (r_V rfl) r_C ne)) ?_
    refine s_asg (r_sl (r_V rfl) (r_part (r_call (r_cons (r_V rfl) (r_cons (r_V rfl) r_nil)) rfl hst)) r_no e_peek_d e2) ?_
    refine s_ret (r_un (r_lcA (xs := L.drop i) (g := fun s => .d (stp s)) (h := fun q => stp (n * q.2, max n q.1)) (r_sq (r_V rfl) (seq_lad _)) (by rw [List.length_drop]; omega) fun q hq => ⟨_, rfl, r_tup (r_cons (r_opD (r_V rfl) (r_V rfl) (hm q hq).1) (r_cons (r_opD (r_V rfl) (r_V rfl) (hm q hq).2) r_nil)) (by simp) rfl⟩) e_peek_d e3) ?_
    exact ⟨rfl, rfl⟩
theorem round_trip (R : Right L) {n : Int} (h1 : 0 ≤ n) (h2 : n ≤ 1000000000000000000000000000000) : f_round_trip [.d (lad L), .d (.int n)] μ = .ok (.d (stp (trip L n))) μ := by
  have hn := need_num_ok (μ := μ) h1 h2
  have hl := need_ladder (μ := μ) R
  have hb := trip_for (μ := μ) R h1
  refine wp_eq (w_body rfl (by wtm_at "env") ?_)
  unfold d_round_trip
  wtm_at "run"
/-! ### the lowest price of some steps -/
def low : List (Int × Int) → Int
  | [] => 0
  | p :: r => (r.map fun q => q.2).foldl min p.2
theorem foldl_min_spec : ∀ (l : List Int) (x : Int), (l.foldl min x = x ∨ l.foldl min x ∈ l) ∧ l.foldl min x ≤ x ∧ ∀ y ∈ l, l.foldl min x ≤ y
  | [], x => ⟨.inl rfl, Int.le_refl _, fun y hy => nomatch hy⟩
  | z :: l, x => by
    obtain ⟨h1, h2, h3⟩ := foldl_min_spec l (min x z)
    rw [List.foldl_cons]
    refine ⟨?_, by omega, fun y hy => ?_⟩
    · rcases h1 with h1 | h1
      · rcases Int.le_total x z with h | h
        · exact .inl (by rw [h1]; omega)
        · exact .inr (List.mem_cons.mpr (.inl (by rw [h1]; omega)))
      · exact .inr (List.mem_cons_of_mem _ h1)
    · rcases List.mem_cons.mp hy with rfl | hy
      · omega
      · exact h3 y hy
theorem low_min {l : List (Int × Int)} (h : l ≠ []) : minP (.list (l.map fun q => .int q.2)) = some (.int (low l)) := by
  cases l with
  | nil => exact absurd rfl h
  | cons p r =>
    have := minP_int p.2 (r.map fun q => q.2)
    rw [List.map_map] at this
    exact this
theorem low_le {l : List (Int × Int)} {q : Int × Int} (h : q ∈ l) : low l ≤ q.2 := by
  cases l with
  | nil => cases h
  | cons p r =>
    obtain ⟨h1, h2, h3⟩ := foldl_min_spec (r.map fun q => q.2) p.2
    rcases List.mem_cons.mp h with rfl | h
    · exact h2
    · exact h3 _ (List.mem_map.mpr ⟨q, h, rfl⟩)
theorem low_is {l : List (Int × Int)} (h : l ≠ []) : ∃ q ∈ l, low l = q.2 := by
  cases l with
  | nil => exact absurd rfl h
  | cons p r =>
    obtain ⟨h1, h2, h3⟩ := foldl_min_spec (r.map fun q => q.2) p.2
    rcases h1 with h1 | h1
    · exact ⟨p, List.mem_cons_self, h1⟩
    · obtain ⟨q, hq, e⟩ := List.mem_map.mp h1
      exact ⟨q, List.mem_cons_of_mem _ hq, e.symm⟩
/-! ### stretches that are held -/
def heldIn (L : List (Int × Int)) (i : Nat) : List (Int × Int) := match L[i]?, L[i + 1]? with
  | some p, some q => if low (L.drop i) = p.2 ∨ paid L q.1 = 0 then [] else if max p.1 1 ≤ q.1 - 1 then [(max p.1 1, q.1 - 1)] else []
  | _, _ => []
def heldL (L : List (Int × Int)) : List (Int × Int) := mergedL ((List.range L.length).flatMap (heldIn L))
theorem heldIn_len (L : List (Int × Int)) (i : Nat) : (heldIn L i).length ≤ 1 := by
  unfold heldIn
  split
  · split
    · simp
    · split <;> simp
  · simp
theorem held_in (R : Right L) {i : Nat} (hi : i < L.length) : f_held_in [.d (lad L), .d (.int (i : Int))] μ = .ok (.d (.list ((heldIn L i).map stp))) μ := by
  have hp := List.getElem?_eq_getElem hi
  generalize L[i] = p at hp
  have hix : ixP (lad L) (.int (i : Int)) = some (stp p) := ixP_map (by omega) hp
  have he := ends_of (μ := μ) R
  have h5 := R.len
  have hsl : slP (lad L) (some (i : Int)) none = some (lad (L.drop i)) := by rw [slP_lad, cut_from]
  have hne : L.drop i ≠ [] := fun z => by
    have := congrArg List.length z
    rw [List.length_drop] at this
    simp at this
    omega
  have hmin := low_min hne
  have c1 : dLc (dSq (dSl (dV 0) (dPart (dV 1)) dNo)) (gN 7) dYes (dOp ixP (dV 7) (dC (.int (1)))) [7] [some (.d (lad L)), some (.d (.int (i : Int))), some (.d (.int p.1)), some (.d (.int p.2)), none, none, none, none] μ = .ok (.d (.list ((L.drop i).map fun q => .int q.2))) μ :=
    r_lcA (xs := L.drop i) (g := fun s => .d (stp s)) (h := fun q => .int q.2) (r_sq (r_sl (r_V rfl) (r_part (r_V rfl)) r_no e_peek_d hsl) (seq_lad _)) (by rw [List.length_drop]; omega) fun q hq => ⟨_, rfl, r_opD (r_V rfl) r_C (ixP_stp1 q)⟩
  by_cases hl : i + 1 < L.length
  · have hq := List.getElem?_eq_getElem hl
    generalize L[i + 1] = q at hq
    have hex := ends_ix hq
    have q0 := R.b0 q (mem_at hq)
    have hpd := paid_for (μ := μ) R (show 0 ≤ q.1 - 1 + 1 by omega)
    rw [Int.sub_add_cancel] at hpd
    have hadd : addP (.int (q.1 - 1)) (.int 1) = some (.int q.1) := by rw [addP_int, Int.sub_add_cancel]
    have eg : heldIn L i = if low (L.drop i) = p.2 ∨ paid L q.1 = 0 then [] else if max p.1 1 ≤ q.1 - 1 then [(max p.1 1, q.1 - 1)] else [] := by
      unfold heldIn
      rw [hp, hq]
    rw [eg]
    generalize low (L.drop i) = w at hmin ⊢
    refine wp_eq (w_body rfl (by wtm_at "env") ?_)
    unfold d_held_in
    apply s_seq
    · exact r_unp (r_opD (r_V rfl) (r_V rfl) hix) (by wtm_at "tg")
    apply s_seq
    · exact r_par (r_cons (r_opD (r_call (r_cons (r_V rfl) r_nil) rfl he) (r_V rfl) hex) (r_cons (r_un c1 e_peek_d hmin) r_nil)) rfl (by wtm_at "st")
    have t1 : isNP (.int (q.1 - 1)) .none = some (.bool false) := rfl
    have t2 := eqP_int w p.2
    have t3 := eqP_int (paid L q.1) 0
    have l0 : PyData.list [] = .list (([] : List (Int × Int)).map stp) := rfl
    by_cases hw : w = p.2
    · rw [if_pos (.inl hw)]
      rw [beq_iff_eq.mpr hw] at t2
      refine s_seqIteT (or_F (r_test (r_opD (r_V rfl) r_C t1)) (or_T (r_test (r_opD (r_V rfl) (r_V rfl) t2)))) ?_
      refine s_ret (r_lst (u := .d (.list [])) r_nil (by simp) rfl) ?_
      exact ⟨rfl, rfl⟩
    · rw [beq_eq_false_iff_ne.mpr hw] at t2
      by_cases hM : paid L q.1 = 0
      · rw [if_pos (.inr hM)]
        rw [beq_iff_eq.mpr hM] at t3
        refine s_seqIteT (or_F (r_test (r_opD (r_V rfl) r_C t1)) (or_F (r_test (r_opD (r_V rfl) (r_V rfl) t2)) (r_test (r_opD (r_call (r_cons (r_V rfl) (r_cons (r_opD (r_V rfl) r_C hadd) r_nil)) rfl hpd) r_C t3)))) ?_
        refine s_ret (r_lst (u := .d (.list [])) r_nil (by simp) rfl) ?_
        exact ⟨rfl, rfl⟩
      · rw [if_neg (fun z => z.elim hw hM)]
        rw [beq_eq_false_iff_ne.mpr hM] at t3
        have hmx : max2P (.int p.1) (.int 1) = some (.int (max p.1 1)) := by
          rw [max2P_int, Int.max_def]
          congr 2
          split <;> split <;> omega
        refine s_pass (or_F (r_test (r_opD (r_V rfl) r_C t1)) (or_F (r_test (r_opD (r_V rfl) (r_V rfl) t2)) (r_test (r_opD (r_call (r_cons (r_V rfl) (r_cons (r_opD (r_V rfl) r_C hadd) r_nil)) rfl hpd) r_C t3)))) ?_
        refine s_asg (r_opD (r_V rfl) r_C hmx) ?_
        have t4 := leP_int (max p.1 1) (q.1 - 1)
        by_cases hf : max p.1 1 ≤ q.1 - 1
        · rw [if_pos hf]
          rw [decide_eq_true hf] at t4
          refine s_ret (if_T (r_test (r_opD (r_V rfl) (r_V rfl) t4)) (r_lst (u := .d (.list [stp (max p.1 1, q.1 - 1)])) (r_cons (r_tup (u := .d (stp (max p.1 1, q.1 - 1))) (r_cons (r_V rfl) (r_cons (r_V rfl) r_nil)) (by simp) rfl) r_nil) (by simp) rfl)) ?_
          exact ⟨rfl, rfl⟩
        · rw [if_neg hf]
          rw [decide_eq_false hf] at t4
          refine s_ret (if_F (r_test (r_opD (r_V rfl) (r_V rfl) t4)) (r_lst (u := .d (.list [])) r_nil (by simp) rfl)) ?_
          exact ⟨rfl, rfl⟩
  · have hq : L[i + 1]? = none := List.getElem?_eq_none (by omega)
    have hex := ends_last (L := L) (i := i) (by omega)
    have eg : heldIn L i = [] := by
      unfold heldIn
      rw [hp, hq]
    rw [eg]
    refine wp_eq (w_body rfl (by wtm_at "env") ?_)
    unfold d_held_in
    apply s_seq
    · exact r_unp (r_opD (r_V rfl) (r_V rfl) hix) (by wtm_at "tg")
    apply s_seq
    · exact r_par (r_cons (r_opD (r_call (r_cons (r_V rfl) r_nil) rfl he) (r_V rfl) hex) (r_cons (r_un c1 e_peek_d hmin) r_nil)) rfl (by wtm_at "st")
    have t1 : isNP .none .none = some (.bool true) := rfl
    refine s_seqIteT (or_T (r_test (r_opD (r_V rfl) r_C t1))) ?_
    refine s_ret (r_lst (u := .d (.list [])) r_nil (by simp) rfl) ?_
    exact ⟨rfl, rfl⟩
theorem flat_len {f : Nat → List (Int × Int)} (h : ∀ i, (f i).length ≤ 1) : ∀ l : List Nat, (l.flatMap f).length ≤ l.length
  | [] => by simp
  | a :: l => by
    have h1 := h a
    have h2 := flat_len h l
    rw [List.flatMap_cons, List.length_append, List.length_cons]
    omega
theorem held_gains (R : Right L) : f_held_gains [.d (lad L)] μ = .ok (.d (.list ((heldL L).map stp))) μ := by
  have h5 := R.len
  have hl0 := need_ladder (μ := μ) R
  have hg : ∀ i ∈ List.range ((L.length : Nat) : Int).toNat, f_held_in [.d (lad L), .d (.int (i : Int))] μ = .ok (.d (.list ((heldIn L i).map stp))) μ := fun i hi => held_in R (by simpa using hi)
  have hl : ∀ i, (heldIn L i).length ≤ 1000 := fun i => Nat.le_trans (heldIn_len L i) (by decide)
  have hsum : ((List.range ((L.length : Nat) : Int).toNat).flatMap (heldIn L)).length ≤ 500 := by
    have := flat_len (heldIn_len L) (List.range ((L.length : Nat) : Int).toNat)
    simp at this ⊢
    omega
  have hm := merged_ok (μ := μ) ((List.range ((L.length : Nat) : Int).toNat).flatMap (heldIn L)) hsum
  rw [List.map_flatMap] at hm
  have hgl : heldL L = mergedL ((List.range ((L.length : Nat) : Int).toNat).flatMap (heldIn L)) := rfl
  rw [hgl]
  have hlen : lenP (lad L) = some (.int (L.length : Nat)) := by
    show some (PyData.int ((L.map stp).length : Nat)) = _
    rw [List.length_map]
  refine wp_eq (w_body rfl (by wtm_at "env") ?_)
  unfold d_held_gains
  apply s_drop (r_call (r_cons (r_V rfl) r_nil) rfl hl0)
  apply s_ret
  · wtm_at "go"
  exact ⟨rfl, rfl⟩
/-! ### the stretches in which a held price gains -/
def hgains (L : List (Int × Int)) (n : Int) : Prop := (trip L n).1 < paid L n
theorem cost_step (R : Right L) {i : Nat} {p : Int × Int} {n : Int} (hp : L[i]? = some p) (h1 : p.1 ≤ n) (h2 : ∀ q, L[i + 1]? = some q → n < q.1) : cost L n = n * p.2 := by
  unfold cost
  rw [price_eq R hp h1 h2]
theorem SL.widen {P : Int → Prop} {a b : Int} {r : List (Int × Int)} (h : SL P b r) (hab : a ≤ b) (hn : ∀ n, a ≤ n → n < b → ¬ P n) : SL P a r := by
  cases h with
  | nil h =>
    exact .nil fun n h1 => by
      by_cases hb : n < b
      · exact hn n h1 hb
      · exact h n (by omega)
  | cons haf hfl h0 h1 t =>
    exact .cons (by omega) hfl (fun n h3 h4 => by
      by_cases hb : n < b
      · exact hn n h3 hb
      · exact h0 n (by omega) h4) h1 t
theorem mem_from (R : Right L) {i : Nat} {p r : Int × Int} {n : Int} (hp : L[i]? = some p) (h1 : p.1 ≤ n) (hr : r ∈ L) (h : n < r.1) : r ∈ L.drop i := by
  obtain ⟨j, hj⟩ := List.getElem?_of_mem hr
  rcases Nat.lt_or_ge j i with hij | hij
  · have := asc_lt R hj hp hij
    omega
  · refine List.mem_of_getElem? (i := j - i) ?_
    rw [List.getElem?_drop, show i + (j - i) = j by omega]
    exact hj
theorem drop_ne {i : Nat} {p : Int × Int} (hp : L[i]? = some p) : p ∈ L.drop i ∧ L.drop i ≠ [] := by
  have hm : p ∈ L.drop i := List.mem_of_getElem? (i := 0) (by rw [List.getElem?_drop]; exact hp)
  exact ⟨hm, fun z => by rw [z] at hm; cases hm⟩
/-- the lowest price from here on holds -/
theorem trip_low (R : Right L) {i : Nat} {p : Int × Int} {n : Int} (hp : L[i]? = some p) (h0 : 0 ≤ n) (h1 : p.1 ≤ n) (h2 : ∀ q, L[i + 1]? = some q → n < q.1) : (trip L n).1 = n * low (L.drop i) := by
  have ec := cost_step R hp h1 h2
  obtain ⟨hm, hne⟩ := drop_ne hp
  have a1 : n * low (L.drop i) ≤ (trip L n).1 := by
    rcases trip_is R n with h | ⟨q, hq, h3, h⟩
    · rw [h]
      show _ ≤ cost L n
      rw [ec]
      exact Int.mul_le_mul_of_nonneg_left (low_le hm) h0
    · rw [h]
      exact Int.mul_le_mul_of_nonneg_left (low_le (mem_from R hp h1 hq h3)) h0
  have a2 : (trip L n).1 ≤ n * low (L.drop i) := by
    obtain ⟨q, hq, e⟩ := low_is hne
    rw [e]
    obtain ⟨j, hj⟩ := List.getElem?_of_mem hq
    rw [List.getElem?_drop] at hj
    by_cases hj0 : j = 0
    · subst hj0
      rw [Nat.add_zero, hp] at hj
      cases hj
      rw [← ec]
      exact (trip_le_n L n).1
    · have hl : i + 1 < L.length := by
        have := (List.getElem?_eq_some_iff.mp hj).1
        omega
      have hs := List.getElem?_eq_getElem hl
      have h3 := h2 _ hs
      have h4 : L[i + 1].1 ≤ q.1 := by
        by_cases hj1 : j = 1
        · subst hj1
          rw [hs] at hj
          cases hj
          exact Int.le_refl _
        · exact Int.le_of_lt (asc_lt R hs hj (by omega))
      exact (trip_le R (mem_at hj) (by omega)).1
  omega
theorem held_sl (R : Right L) : ∀ (k i : Nat) (p : Int × Int), i + k = L.length → L[i]? = some p → SL (hgains L) p.1 ((List.range' i k).flatMap (heldIn L))
  | 0, i, p, h, hp => by
    have := (List.getElem?_eq_some_iff.mp hp).1
    omega
  | k + 1, i, p, h, hp => by
    have e : (List.range' i (k + 1)).flatMap (heldIn L) = heldIn L i ++ (List.range' (i + 1) k).flatMap (heldIn L) := by
      rw [List.range'_succ, List.flatMap_cons]
    rw [e]
    have p0 := R.p0 p (mem_at hp)
    have b0 := R.b0 p (mem_at hp)
    obtain ⟨hm, hne⟩ := drop_ne hp
    have wp := low_le hm
    cases hq : L[i + 1]? with
    | none =>
      have hk : k = 0 := by
        have := List.getElem?_eq_none_iff.mp hq
        omega
      subst hk
      have eg : heldIn L i = [] := by
        unfold heldIn
        rw [hp, hq]
      rw [eg]
      refine .nil fun n hn h => ?_
      have h : (trip L n).1 < paid L n := h
      have hw : low (L.drop i) = p.2 := by
        obtain ⟨q, hq', e⟩ := low_is hne
        obtain ⟨j, hj⟩ := List.getElem?_of_mem hq'
        rw [List.getElem?_drop] at hj
        have hjl := (List.getElem?_eq_some_iff.mp hj).1
        have hil := List.getElem?_eq_none_iff.mp hq
        have : j = 0 := by omega
        subst this
        rw [Nat.add_zero, hp] at hj
        cases hj
        exact e
      rw [paid_last R hp hq hn, trip_low R hp (by omega) hn (fun q hq' => by rw [hq] at hq'; cases hq'), hw] at h
      omega
    | some q =>
      have ih := held_sl R k (i + 1) q (by omega) hq
      have hpq := asc_lt R hp hq (Nat.lt_succ_self _)
      have eg : heldIn L i = if low (L.drop i) = p.2 ∨ paid L q.1 = 0 then [] else if max p.1 1 ≤ q.1 - 1 then [(max p.1 1, q.1 - 1)] else [] := by
        unfold heldIn
        rw [hp, hq]
      have hP : ∀ n, p.1 ≤ n → n < q.1 → (hgains L n ↔ n * low (L.drop i) < n * p.2 ∧ n * low (L.drop i) < paid L q.1) := fun n h1 h2 => by
        show (trip L n).1 < paid L n ↔ _
        rw [paid_between R hp hq h1 h2, trip_low R hp (by omega) h1 (fun q' hq' => by rw [hq] at hq'; cases hq'; exact h2)]
        omega
      have plo := paid_lo R (R.b0 q (mem_at hq))
      have w0 : 0 ≤ low (L.drop i) := by
        obtain ⟨r, hr, e⟩ := low_is hne
        rw [e]
        exact R.p0 r (mem_drop hr)
      have far : ∃ r ∈ L.drop i, q.1 ≤ r.1 ∧ paid L q.1 = r.1 * r.2 := by
        rcases paid_is R q.1 with e | ⟨r, hr, h3, e⟩
        · exact ⟨q, mem_from R hp (Int.le_refl _) (mem_at hq) hpq, Int.le_refl _, by rw [e, cost_mem R (mem_at hq)]⟩
        · exact ⟨r, mem_from R hp (Int.le_refl _) hr (by omega), Int.le_of_lt h3, e⟩
      obtain ⟨r, hr, hqr, eM⟩ := far
      have wr := low_le hr
      have r0 := R.p0 r (mem_drop hr)
      rw [eg]
      generalize (List.range' (i + 1) k).flatMap (heldIn L) = Y at ih ⊢
      generalize low (L.drop i) = w at *
      generalize paid L q.1 = M at *
      by_cases hc : w = p.2 ∨ M = 0
      · rw [if_pos hc]
        refine ih.widen (by omega) fun n h1 h2 h3 => ?_
        obtain ⟨h4, h5⟩ := (hP n h1 h2).mp h3
        rcases hc with hc | hc
        · rw [hc] at h4
          omega
        · have := Int.mul_nonneg (show 0 ≤ n by omega) w0
          omega
      · rw [if_neg hc]
        have hw : w < p.2 := by
          rcases Int.lt_or_eq_of_le wp with h | h
          · exact h
          · exact absurd (.inl h) hc
        have hM : 0 < M := by
          rcases Int.lt_or_eq_of_le plo with h | h
          · exact h
          · exact absurd (.inr h.symm) hc
        have hr2 : 0 < r.2 := by
          rcases Int.lt_or_eq_of_le r0 with h | h
          · exact h
          · rw [← h, Int.mul_zero] at eM
            omega
        have yes : ∀ n, 1 ≤ n → p.1 ≤ n → n < q.1 → hgains L n := fun n h0 h1 h2 => by
          refine (hP n h1 h2).mpr ⟨Int.mul_lt_mul_of_pos_left hw (by omega), ?_⟩
          have a1 : n * w ≤ n * r.2 := Int.mul_le_mul_of_nonneg_left wr (by omega)
          have a2 : n * r.2 < r.1 * r.2 := Int.mul_lt_mul_of_pos_right (by omega) hr2
          omega
        have no : ∀ n, n < 1 → p.1 ≤ n → n < q.1 → ¬ hgains L n := fun n h0 h1 h2 h3 => by
          have h4 := ((hP n h1 h2).mp h3).1
          have : n = 0 := by omega
          subst this
          omega
        by_cases hf : max p.1 1 ≤ q.1 - 1
        · rw [if_pos hf]
          refine SL.cons (by omega) hf (fun n h1 h2 => no n (by omega) h1 (by omega)) (fun n h1 h2 => yes n (by omega) (by omega) (by omega)) ?_
          rw [Int.sub_add_cancel]
          exact ih
        · rw [if_neg hf]
          exact ih.widen (by omega) fun n h1 h2 => no n (by omega) h1 h2
theorem held_sr (R : Right L) : SR (hgains L) 0 (heldL L) := by
  cases e : L with
  | nil =>
    have := R.ne
    rw [e] at this
    exact absurd this (by decide)
  | cons p r =>
    have h0 := R.hd p (by rw [e]; rfl)
    have := held_sl R L.length 0 p (by omega) (by rw [e]; rfl)
    rw [h0] at this
    rw [← e]
    unfold heldL
    rw [List.range_eq_range']
    exact this.merged
/-! ### rows of deals -/
def big30 : Int := 1000000000000000000000000000000
structure RowOk (G : List Int) : Prop where
  len : G.length ≤ 30
  nz : ∀ x ∈ G, x ≠ 0
  lo : ∀ x ∈ G, -1000000000000000000000000000000 ≤ x
  hi : ∀ x ∈ G, x ≤ 1000000000000000000000000000000
  sm : ∀ k : Nat, 0 ≤ (G.take k).sum
def rowD (G : List Int) : PyData := .tuple (G.map .int)
def IsRow (v : PyData) : Prop := ∃ G, RowOk G ∧ v = rowD G
def isDeal0 (v : PyData) : Bool := match v with
  | .int i => (decide (-1000000000000000000000000000000 ≤ i) && decide (i ≤ 1000000000000000000000000000000)) && !(i == 0)
  | _ => false
theorem is_deal_any (v : PyData) : f_is_deal [.d v] μ = .ok (.d (.bool (isDeal0 v))) μ := by
  cases v with
  | int i =>
    have hi := is_int_ok (μ := μ) (v := i) (lo := -1000000000000000000000000000000) (hi := 1000000000000000000000000000000)
    have e : isDeal0 (.int i) = ((decide (-1000000000000000000000000000000 ≤ i) && decide (i ≤ 1000000000000000000000000000000)) && !(i == 0)) := rfl
    rw [e]
    refine wp_eq (w_body rfl (by wtm_at "env") ?_)
    unfold d_is_deal
    cases hc : (decide (-1000000000000000000000000000000 ≤ i) && decide (i ≤ 1000000000000000000000000000000)) with
    | true =>
      rw [hc] at hi
      wtm_at "run"
    | false =>
      rw [hc] at hi
      wtm_at "run"
  | _ => rfl
theorem deals_of : ∀ {xs : List PyData}, (∀ x ∈ xs, isDeal0 x = true) → ∃ G : List Int, xs = G.map .int ∧ ∀ x ∈ G, x ≠ 0 ∧ -1000000000000000000000000000000 ≤ x ∧ x ≤ 1000000000000000000000000000000
  | [], _ => ⟨[], rfl, fun _ h => by cases h⟩
  | x :: xs, h => by
    obtain ⟨G, e2, hG⟩ := deals_of (fun y hy => h y (List.mem_cons_of_mem _ hy))
    have hx := h x List.mem_cons_self
    cases x with
    | int i =>
      simp [isDeal0] at hx
      refine ⟨i :: G, by rw [e2]; rfl, fun q hq => ?_⟩
      rcases List.mem_cons.mp hq with rfl | hq
      · omega
      · exact hG q hq
    | _ => cases hx
theorem IsRow.deal {xs : List PyData} (h : IsRow (.tuple xs)) : ∀ x ∈ xs, isDeal0 x = true := fun x hx => by
  obtain ⟨G, R, e⟩ := h
  unfold rowD at e
  injection e with e
  rw [e] at hx
  obtain ⟨p, hp, rfl⟩ := List.mem_map.mp hx
  have h1 := R.nz p hp
  have h2 := R.lo p hp
  have h3 := R.hi p hp
  simp [isDeal0]
  omega
theorem ints_inj : ∀ {G G' : List Int}, G.map PyData.int = G'.map PyData.int → G = G'
  | [], [], _ => rfl
  | [], _ :: _, h => by cases h
  | _ :: _, [], h => by cases h
  | p :: L, q :: L', h => by
    rw [List.map_cons, List.map_cons] at h
    injection h with h1 h2
    injection h1 with h1
    rw [h1, ints_inj h2]
theorem cut_to1 {α : Type} (xs : List α) (k : Nat) : cutL xs none (some ((k : Int) + 1)) = xs.take (k + 1) := by
  rw [show (k : Int) + 1 = ((k + 1 : Nat) : Int) by omega, cut_upto]
theorem row_cut (G : List Int) (k : Nat) : slP (rowD G) none (some ((k : Int) + 1)) = some (rowD (G.take (k + 1))) := by
  have := slP_numsT G none (some ((k : Int) + 1))
  rw [cut_to1] at this
  exact this
theorem row_sum (G : List Int) : sumP (rowD G) = some (.int G.sum) := sum_t G
theorem row_len (G : List Int) : lenP (rowD G) = some (.int (G.length : Nat)) := by
  show some (PyData.int ((G.map PyData.int).length : Nat)) = _
  rw [List.length_map]
local macro_rules | `(tactic| wtm_at "op") => `(tactic| first | with_reducible assumption | with_reducible exact row_cut _ _ | with_reducible exact row_sum _ | with_reducible exact row_len _)
def doneB (p : Int) (G : List Int) : Bool := (List.range ((G.length : Nat) : Int).toNat).all fun k => decide (0 ≤ p + (G.take (k + 1)).sum)
theorem can_be_done (p : Int) (G : List Int) (hl : G.length ≤ 30) : f_can_be_done [.d (.int p), .d (rowD G)] μ = .ok (.d (.bool (doneB p G))) μ := by
  have hall : allP (.list ((List.range ((G.length : Nat) : Int).toNat).map fun k => .bool (decide (0 ≤ p + (G.take (k + 1)).sum)))) = some (.bool (doneB p G)) := by
    have := all_l ((List.range ((G.length : Nat) : Int).toNat).map fun k => decide (0 ≤ p + (G.take (k + 1)).sum))
    rw [List.map_map, List.all_map] at this
    exact this
  have hr : (List.range ((G.length : Nat) : Int).toNat).length ≤ 1000 := by simp; omega
  refine wp_eq (w_body rfl (by wtm_at "env") ?_)
  unfold d_can_be_done
  wtm_at "run"
theorem doneB_iff (G : List Int) : doneB 0 G = true ↔ ∀ k : Nat, 0 ≤ (G.take k).sum := by
  unfold doneB
  rw [List.all_eq_true]
  constructor
  · intro h k
    by_cases h0 : k = 0
    · subst h0
      simp
    · by_cases hk : k ≤ G.length
      · have := of_decide_eq_true (h (k - 1) (List.mem_range.mpr (by simp; omega)))
        rw [show k - 1 + 1 = k by omega, Int.zero_add] at this
        exact this
      · have hG : G.length ≠ 0 ∨ G.length = 0 := by omega
        rw [List.take_of_length_le (by omega)]
        rcases hG with hG | hG
        · have := of_decide_eq_true (h (G.length - 1) (List.mem_range.mpr (by simp; omega)))
          rw [show G.length - 1 + 1 = G.length by omega, List.take_length, Int.zero_add] at this
          exact this
        · rw [List.eq_nil_of_length_eq_zero hG]
          exact Int.le_refl _
  · intro h k hk
    refine decide_eq_true ?_
    rw [Int.zero_add]
    exact h (k + 1)
theorem right_row_any (v : PyData) : ∃ b, f_is_right_row [.d v] μ = .ok (.d (.bool b)) μ ∧ (b = true ↔ IsRow v) := by
  have no : (¬ IsRow v) → f_is_right_row [.d v] μ = .ok (.d (.bool false)) μ → ∃ b, f_is_right_row [.d v] μ = .ok (.d (.bool b)) μ ∧ (b = true ↔ IsRow v) := fun h1 h2 => ⟨false, h2, ⟨fun z => (by cases z), fun z => absurd z h1⟩⟩
  cases v with
  | tuple xs =>
    have hs := fun (x : PyData) => is_deal_any (μ := μ) x
    by_cases hl : xs.length ≤ 30
    · have hl1 : ¬ (30 : Int) < (xs.length : Int) := by omega
      have hl2 : xs.length ≤ 1000 := by omega
      have hall : allP (.list (xs.map fun x => .bool (isDeal0 x))) = some (.bool (xs.all isDeal0)) := by
        have := all_l (xs.map isDeal0)
        rw [List.map_map, List.all_map] at this
        exact this
      by_cases ha : xs.all isDeal0 = true
      · rw [ha] at hall
        obtain ⟨G, rfl, hG⟩ := deals_of (List.all_eq_true.mp ha)
        rw [List.length_map] at hl hl1
        have ll : lenP (.tuple (G.map .int)) = some (.int (G.length : Nat)) := row_len G
        have hd := can_be_done (μ := μ) 0 G hl
        unfold rowD at hd
        have hall' : allP (.list (G.map fun p => .bool (isDeal0 (.int p)))) = some (.bool true) := by
          rw [List.map_map] at hall
          exact hall
        have hs' := fun (i : Int) => is_deal_any (μ := μ) (.int i)
        clear no hs
        refine ⟨doneB 0 G, ?_, ?_⟩
        · clear hG
          refine wp_eq (w_body rfl (by wtm_at "env") ?_)
          unfold d_is_right_row
          wtm_at "run"
        · rw [doneB_iff]
          constructor
          · exact fun h => ⟨G, ⟨hl, fun x hx => (hG x hx).1, fun x hx => (hG x hx).2.1, fun x hx => (hG x hx).2.2, h⟩, rfl⟩
          · rintro ⟨G', R, e⟩
            unfold rowD at e
            injection e with e
            rw [ints_inj e]
            exact R.sm
      · have ha2 : xs.all isDeal0 = false := by simpa using ha
        rw [ha2] at hall
        refine no (fun h => ha (List.all_eq_true.mpr (IsRow.deal h))) ?_
        refine wp_eq (w_body rfl (by wtm_at "env") ?_)
        unfold d_is_right_row
        wtm_at "run"
    · refine no (fun ⟨G, R, e⟩ => hl ?_) ?_
      · unfold rowD at e
        injection e with e
        rw [e, List.length_map]
        exact R.len
      · have hl3 : (30 : Int) < (xs.length : Int) := by omega
        refine wp_eq (w_body rfl (by wtm_at "env") ?_)
        unfold d_is_right_row
        wtm_at "run"
  | _ => exact no (fun ⟨L, _, e⟩ => by cases e) rfl
/-! ### payments -/
def topOf (G : List Int) : Int := ((List.range G.length).map fun k => (G.take (k + 1)).sum).foldl max 0
theorem take_snoc (G : List Int) (x : Int) {k : Nat} (h : k ≤ G.length) : (G ++ [x]).take k = G.take k := by
  rw [List.take_append_of_le_length h]
theorem topOf_snoc (G : List Int) (x : Int) : topOf (G ++ [x]) = max (topOf G) (G.sum + x) := by
  unfold topOf
  rw [List.length_append, List.length_singleton, List.range_succ, List.map_append, List.foldl_append]
  have e : (List.range G.length).map (fun k => ((G ++ [x]).take (k + 1)).sum) = (List.range G.length).map fun k => (G.take (k + 1)).sum := List.map_congr_left fun k hk => by
    rw [take_snoc G x (by have := List.mem_range.mp hk; omega)]
  rw [e]
  simp only [List.map_cons, List.map_nil, List.foldl_cons, List.foldl_nil]
  rw [List.take_of_length_le (by simp)]
  simp
theorem foldl_max (l : List Int) : ∀ a : Int, a ≤ l.foldl max a := by
  induction l with
  | nil => exact fun a => Int.le_refl _
  | cons x l ih =>
    intro a
    have := ih (max a x)
    rw [List.foldl_cons]
    omega
theorem topOf_nn (G : List Int) : 0 ≤ topOf G := foldl_max _ 0
def owedL (L : List (Int × Int)) (h : Bool) (G : List Int) : Int := G.sum * price L (if h = true then topOf G else G.sum)
def payL (L : List (Int × Int)) (h : Bool) (G : List Int) : List Int := (List.range G.length).map fun k => owedL L h (G.take (k + 1)) - owedL L h (G.take k)
theorem RowOk.take {G : List Int} (R : RowOk G) (k : Nat) : RowOk (G.take k) where
  len := by
    have := R.len
    rw [List.length_take]
    omega
  nz := fun x hx => R.nz x (List.mem_of_mem_take hx)
  lo := fun x hx => R.lo x (List.mem_of_mem_take hx)
  hi := fun x hx => R.hi x (List.mem_of_mem_take hx)
  sm := fun j => by
    rw [List.take_take]
    exact R.sm _
theorem RowOk.sum {G : List Int} (R : RowOk G) : 0 ≤ G.sum := by
  have := R.sm G.length
  rwa [List.take_length] at this
theorem pieces_in (G : List Int) (hl : G.length ≤ 30) : f_pieces_in [.d (rowD G)] μ = .ok (.d (stp (G.sum, topOf G))) μ := by
  have hr : (List.range ((G.length : Nat) : Int).toNat).length ≤ 1000 := by simp; omega
  have ha : addP (.list [.int 0]) (.list ((List.range ((G.length : Nat) : Int).toNat).map fun k => .int (G.take (k + 1)).sum)) = some (.list ((0 :: (List.range ((G.length : Nat) : Int).toNat).map fun k => (G.take (k + 1)).sum).map .int)) := by
    rw [addP_l (by simp; omega), List.map_cons, List.map_map]
    rfl
  have hm : maxP (.list ((0 :: (List.range ((G.length : Nat) : Int).toNat).map fun k => (G.take (k + 1)).sum).map .int)) = some (.int (topOf G)) := by
    rw [List.map_cons, maxP_int]
    rfl
  refine wp_eq (w_body rfl (by wtm_at "env") ?_)
  unfold d_pieces_in
  wtm_at "run"
theorem owed_for (R : Right L) {G : List Int} (RG : RowOk G) (h : Bool) : f_owed_for [.d (lad L), .d (.bool h), .d (rowD G)] μ = .ok (.d (.int (owedL L h G))) μ := by
  have hp := pieces_in (μ := μ) G RG.len
  have h1 := RG.sum
  have h2 := topOf_nn G
  have b1 := price_lo R h1
  have b2 := price_hi R h1
  have b3 := price_lo R h2
  have b4 := price_hi R h2
  unfold owedL
  refine wp_eq (w_body rfl (by wtm_at "env") ?_)
  unfold d_owed_for
  cases h with
  | true =>
    rw [if_pos rfl]
    wtm_at "run"
  | false =>
    rw [if_neg Bool.false_ne_true]
    wtm_at "run"
theorem row_upto (G : List Int) (k : Nat) : slP (rowD G) none (some (k : Int)) = some (rowD (G.take k)) := by
  have := slP_numsT G none (some (k : Int))
  rw [cut_upto] at this
  exact this
theorem range_pairs (n : Nat) : (List.range (n + 1)).zip ((List.range (n + 1)).drop 1) = (List.range n).map fun k => (k, k + 1) := by
  apply List.ext_getElem
  · simp
  · intro i h1 h2
    simp at h1 h2 ⊢
    omega
theorem payments_of (R : Right L) {G : List Int} (RG : RowOk G) (h : Bool) : f_payments_of [.d (lad L), .d (.bool h), .d (rowD G)] μ = .ok (.d (.list ((payL L h G).map .int))) μ := by
  have hl := RG.len
  have ho := fun k => owed_for (μ := μ) R (RG.take k) h
  have hu := fun k => row_upto G k
  have hj : (((G.length : Nat) : Int) + 1).toNat = G.length + 1 := by omega
  have hr : (List.range (((G.length : Nat) : Int) + 1).toNat).length ≤ 1000 := by simp; omega
  have c1 : dLc (dR1 (dCons (dOp addP (dUn lenP (dV 2)) (dC (.int (1)))) dNil)) (gN 4) dYes (dCall 3 f_owed_for (dCons (dV 0) (dCons (dV 1) (dCons (dSl (dV 2) dNo (dPart (dV 4))) dNil)))) [4] [some (.d (lad L)), some (.d (.bool h)), some (.d (rowD G)), none, none, none, none] μ = .ok (.d (.list ((List.range (((G.length : Nat) : Int) + 1).toNat).map fun k => .int (owedL L h (G.take k))))) μ := by
    apply r_lcA
    · wtm_at "go"
    · exact hr
    · intro k hk
      apply r_elA
      · wtm_at "tg"
      · apply r_call
        · apply r_cons
          · wtm_at "go"
          · apply r_cons
            · wtm_at "go"
            · apply r_cons
              · apply r_sl
                · wtm_at "go"
                · wtm_at "go"
                · wtm_at "go"
                · wtm_at "go"
                · exact hu k
              · exact r_nil
        · rfl
        · exact ho k
  rw [hj] at c1
  have hcut : slP (.list ((List.range (G.length + 1)).map fun k => .int (owedL L h (G.take k)))) (some 1) none = some (.list (((List.range (G.length + 1)).drop 1).map fun k => .int (owedL L h (G.take k)))) := by
    show some (PyData.list (cutL _ _ _)) = _
    rw [cut_map, cut_tail]
  have hz : zipU [.d (.list ((List.range (G.length + 1)).map fun k => .int (owedL L h (G.take k)))), .d (.list (((List.range (G.length + 1)).drop 1).map fun k => .int (owedL L h (G.take k))))] = some ((List.range G.length).map fun k => .d (.tuple [.int (owedL L h (G.take k)), .int (owedL L h (G.take (k + 1)))])) := by
    show some (zipD _ _) = _
    rw [zip_mapP, range_pairs, List.map_map]
    rfl
  have hr2 : (List.range G.length).length ≤ 1000 := by simp; omega
  have fin : (payL L h G).map PyData.int = (List.range G.length).map fun k => .int (owedL L h (G.take (k + 1)) - owedL L h (G.take k)) := by
    unfold payL
    rw [List.map_map]
    rfl
  rw [fin]
  clear ho hu
  refine wp_eq (w_body rfl (by wtm_at "env") ?_)
  unfold d_payments_of
  apply s_seq
  · apply r_asg c1
    wtm_at "st"
  wtm_at "run"
theorem need_hold_ok {b : Bool} : f_need_hold [.d (.bool b)] μ = .ok (.d .none) μ := by
  refine wp_eq (w_body rfl (by wtm_at "env") ?_)
  unfold d_need_hold
  wtm_at "run"
theorem payments_ok (R : Right L) {G : List Int} (RG : RowOk G) (h : Bool) : f_payments [.d (lad L), .d (.bool h), .d (rowD G)] μ = .ok (.d (.list ((payL L h G).map .int))) μ := by
  have hh := need_hold_ok (μ := μ) (b := h)
  have hp := payments_of (μ := μ) R RG h
  obtain ⟨b, hr, hb⟩ := right_row_any (μ := μ) (rowD G)
  have hb' := hb.mpr ⟨G, RG, rfl⟩
  subst hb'
  clear hb RG
  refine wp_eq (w_body rfl (by wtm_at "env") ?_)
  unfold d_payments
  wtm_at "run"
/-! ### stretches told rightly -/
theorem chain_ok {f f' : PyData → PyData → Option PyData} {a b d : DE} {ρ : Env'} {x y w : PyData} {c c' : Bool} (ha : a ρ μ = .ok (.d x) μ) (hb : b ρ μ = .ok (.d y) μ) (hd : d ρ μ = .ok (.d w) μ) (hf : f x y = some (.bool c)) (hf' : f' y w = some (.bool c')) : dChain f f' a b d ρ μ = .ok (.d (.bool (c && c'))) μ := r_chain2 (w := w) ha hb hd hf hf'
theorem stretches_right {good : List U → M U} {p : Int → Bool} {P : Int → Prop} (hg : ∀ n, 0 ≤ n → good [.d (.int n)] μ = .ok (.d (.bool (p n))) μ) (hP : ∀ n, P n ↔ p n = true) {S : List (Int × Int)} (hS : SR P 0 S) (hl : S.length ≤ 1000) {ns : List Int} (hn : ∀ n ∈ ns, 0 ≤ n) :
    f__law_stretches_right good [.d (.list (S.map stp)), .fn 0, .d (.list (ns.map .int))] μ = .ok (.d (.bool true)) μ := by
  have nP : ∀ n, ¬ P n → p n = false := fun n h => by
    cases e : p n with
    | false => rfl
    | true => exact absurd ((hP n).mpr e) h
  refine wp_eq (w_body rfl (by wtm_at "env") ?_)
  unfold d__law_stretches_right
  apply s_asg (r_un r_C rfl (negP_int _))
  refine s_seqFor (xs := S) (g := fun q => .d (stp q)) (fun rest ρ' μ' => μ' = μ ∧ ∃ (a : Int) (x4 : Option U), SR P a rest ∧ 0 ≤ a ∧ (a = 0 ∨ ¬ P (a - 1)) ∧ ρ' = [some (.d (.list (S.map stp))), some (.fn 0), some (.d (.list (ns.map .int))), some (.d (.int (a - 2))), x4, none, none, none]) (r_sq (r_V rfl) seq_map) ⟨rfl, 0, _, hS, Int.le_refl _, .inl rfl, rfl⟩ ?_ ?_
  · rintro ⟨f, l⟩ rest ρ' μ' ⟨rfl, a, x4, hr, a0, ha, rfl⟩
    refine ⟨_, rfl, ?_⟩
    cases hr with
    | cons haf hfl h0 h1 h2 t =>
      have g1 := hg f (by omega)
      have g2 := hg l (by omega)
      have g3 := hg (l + 1) (by omega)
      rw [(hP f).mp (h1 f (Int.le_refl _) hfl)] at g1
      rw [(hP l).mp (h1 l hfl (Int.le_refl _))] at g2
      rw [nP _ h2] at g3
      have c1 : ltP (.int (a - 2 + 1)) (.int f) = some (.bool true) := by rw [ltP_int, decide_eq_true (by omega)]
      have c2 : leP (.int f) (.int l) = some (.bool true) := by rw [leP_int, decide_eq_true hfl]
      have n2 : neP (.int 2) (.int 2) = some (.bool false) := rfl
      have l2 : lenP (stp (f, l)) = some (.int 2) := rfl
      refine s_pass (or_F (r_not (r_test (r_isa (c := true) (r_V rfl) rfl rfl))) (or_F (r_test (r_opD (r_un (r_V rfl) rfl l2) r_C n2)) (r_not (r_test (chain_ok (r_opD (r_V rfl) r_C (addP_int _ _)) (r_opD (r_V rfl) r_C (ixP_stp0 (f, l))) (r_opD (r_V rfl) r_C (ixP_stp1 (f, l))) c1 c2))))) ?_
      apply s_asg (r_opD (r_V rfl) r_C (ixP_stp1 (f, l)))
      have t4 : dAnd (dTest (dOp gtP (dOp ixP (dV 4) (dC (.int (0)))) (dC (.int (0))))) (dTest (dGood 1 1 good (dCons (dOp subP (dOp ixP (dV 4) (dC (.int (0)))) (dC (.int (1)))) dNil))) [some (.d (.list (S.map stp))), some (.fn 0), some (.d (.list (ns.map .int))), some (.d (.int l)), some (.d (stp (f, l))), none, none, none] μ' = .ok false μ' := by
        by_cases hf0 : f > 0
        · have gt : gtP (.int f) (.int 0) = some (.bool true) := by rw [gtP_int, decide_eq_true hf0]
          have g4 := hg (f - 1) (by omega)
          have nf : ¬ P (f - 1) := by
            by_cases hfa : f - 1 < a
            · rcases ha with ha | ha
              · omega
              · rw [show f - 1 = a - 1 by omega]
                exact ha
            · exact h0 (f - 1) (by omega) (by omega)
          rw [nP _ nf] at g4
          exact and_T (r_test (r_opD (r_opD (r_V rfl) r_C (ixP_stp0 (f, l))) r_C gt)) (r_test (r_good rfl (r_cons (r_opD (r_opD (r_V rfl) r_C (ixP_stp0 (f, l))) r_C (subP_int _ _)) r_nil) rfl g4))
        · have gt : gtP (.int f) (.int 0) = some (.bool false) := by rw [gtP_int, decide_eq_false hf0]
          exact and_F (r_test (r_opD (r_opD (r_V rfl) r_C (ixP_stp0 (f, l))) r_C gt))
      refine s_pass1 (or_F (r_not (r_test (r_good rfl (r_cons (r_opD (r_V rfl) r_C (ixP_stp0 (f, l))) r_nil) rfl g1))) (or_F (r_not (r_test (r_good rfl (r_cons (r_V rfl) r_nil) rfl g2))) (or_F (r_test (r_good rfl (r_cons (r_opD (r_V rfl) r_C (addP_int _ _)) r_nil) rfl g3)) t4))) ?_
      refine ⟨rfl, l + 2, some (.d (stp (f, l))), t, by omega, .inr ?_, ?_⟩
      · rw [show l + 2 - 1 = l + 1 by omega]
        exact h2
      · rw [show l + 2 - 2 = l by omega]
        rfl
  rintro ρ' μ' ⟨rfl, a, x4, _, _, _, rfl⟩
  refine s_seqFor (xs := ns) (g := fun n => .d (.int n)) (fun rest ρ' μ'' => μ'' = μ' ∧ (∀ n ∈ rest, 0 ≤ n) ∧ ∃ x5, ρ' = [some (.d (.list (S.map stp))), some (.fn 0), some (.d (.list (ns.map .int))), some (.d (.int (a - 2))), x4, x5, none, none]) (r_sq (r_V rfl) seq_map) ⟨rfl, hn, _, rfl⟩ ?_ ?_
  · rintro n rest ρ' μ'' ⟨rfl, hn', x5, rfl⟩
    refine ⟨_, rfl, ?_⟩
    have n0 := hn' n List.mem_cons_self
    have g := hg n n0
    have c1 : dLc (dSq (dV 0)) (gT 2 (gsCons (gN 6) (gsCons (gN 7) gsNil))) (dTest (dChain leP leP (dV 6) (dV 5) (dV 7))) (dC (.int (1))) [6, 7] [some (.d (.list (S.map stp))), some (.fn 0), some (.d (.list (ns.map .int))), some (.d (.int (a - 2))), x4, some (.d (.int n)), none, none] μ'' = .ok (.d (.list ((S.filter fun q => decide (q.1 ≤ n) && decide (n ≤ q.2)).map fun _ => .int 1))) μ'' :=
      r_lc (xs := S) (g := fun q => .d (stp q)) (r_sq (r_V rfl) seq_map) hl fun q hq => ⟨_, rfl, r_test (chain_ok (r_V rfl) (r_V rfl) (r_V rfl) (leP_int _ _) (leP_int _ _)), fun _ => r_C⟩
    have hne : neP (.list ((S.filter fun q => decide (q.1 ≤ n) && decide (n ≤ q.2)).map fun _ => PyData.int 1)) (.list []) = some (.bool (p n)) := by
      rw [neP_nilL]
      congr 2
      have hm := hS.mem n n0
      cases e : p n with
      | true =>
        obtain ⟨q, hq, h1, h2⟩ := hm.mp ((hP n).mpr e)
        have : q ∈ S.filter fun q => decide (q.1 ≤ n) && decide (n ≤ q.2) := List.mem_filter.mpr ⟨hq, by simp [h1, h2]⟩
        cases hz : S.filter fun q => decide (q.1 ≤ n) && decide (n ≤ q.2) with
        | nil => rw [hz] at this; cases this
        | cons _ _ => rfl
      | false =>
        have : S.filter (fun q => decide (q.1 ≤ n) && decide (n ≤ q.2)) = [] := List.filter_eq_nil_iff.mpr fun q hq => by
          intro h
          rw [Bool.and_eq_true, decide_eq_true_eq, decide_eq_true_eq] at h
          have := (hP n).mp (hm.mpr ⟨q, hq, h⟩)
          rw [e] at this
          cases this
        rw [this]
        rfl
    have nb : neP (.bool (p n)) (.bool (p n)) = some (.bool false) := by rw [neP_bool]; simp
    apply s_pass1 (r_test (r_opD (r_good rfl (r_cons (r_V rfl) r_nil) rfl g) (r_opD c1 (r_lst r_nil (by simp) rfl) hne) nb))
    exact ⟨rfl, fun m hm => hn' m (List.mem_cons_of_mem _ hm), _, rfl⟩
  · rintro ρ' μ'' ⟨rfl, _, x5, rfl⟩
    apply s_ret r_C
    exact ⟨rfl, rfl⟩
/-! ### list(range(n)) -/
def upto (n : Nat) : List Int := (List.range n).map fun (i : Nat) => (i : Int)
theorem lrg_upto {n : Nat} (h : n ≤ 1000) : lrgP (.int (n : Int)) = some (.list ((upto n).map .int)) := by
  show (if rgOk 0 (n : Int) then some (PyData.list (rgD 0 (n : Int))) else none) = _
  rw [if_pos ⟨by omega, by omega, by omega, by omega, by omega⟩]
  unfold rgD upto
  rw [List.map_map]
  congr 2
  rw [Int.sub_zero, Int.toNat_natCast]
  exact List.map_congr_left fun i _ => by
    show PyData.int (0 + (i : Int)) = PyData.int (i : Int)
    rw [Int.zero_add]
theorem mem_upto {n : Nat} {i : Int} : i ∈ upto n ↔ 0 ≤ i ∧ i < n := by
  unfold upto
  rw [List.mem_map]
  constructor
  · rintro ⟨a, h, rfl⟩
    have := List.mem_range.mp h
    omega
  · rintro ⟨h0, h1⟩
    exact ⟨i.toNat, List.mem_range.mpr (by omega), by omega⟩
theorem upto_len (n : Nat) : (upto n).length = n := by
  unfold upto
  rw [List.length_map, List.length_range]
/-! ### stretches number by number -/
theorem law_stretches {ns : List Int} (hl : ns.length ≤ 900) (hno : μ.all noObj = true) : f__law_stretches [.d (.list (ns.map .int))] μ = .ok (.d (.list ((mergedL (ns.map fun n => (n, n))).map stp))) μ := by
  have key : wp (bodyD 3 1 d__law_stretches [.d (.list (ns.map .int))] μ) fun u μ' => u = .m μ.length ∧ μ' = μ ++ [.lst ((mergedL (ns.map fun n => (n, n))).map stp)] := by
    refine w_body rfl (by wtm_at "env") ?_
    unfold d__law_stretches
    apply s_asg (r_lstM r_nil rfl (by simp))
    refine s_seqFor (xs := ns) (g := fun n => .d (.int n)) (fun rest ρ' μ' => ∃ done x, ns = done ++ rest ∧ μ' = μ ++ [.lst (((done.map fun n => (n, n)).foldl merge1 []).map stp)] ∧ ρ' = [some (.d (.list (ns.map .int))), some (.m μ.length), x]) (r_sq (r_V rfl) seq_map) ⟨[], _, rfl, rfl, rfl⟩ ?_ ?_
    · rintro n rest ρ' μ' ⟨done, x, e, rfl, rfl⟩
      refine ⟨_, rfl, ?_⟩
      have dl : done.length ≤ 900 := by
        rw [e, List.length_append] at hl
        omega
      have fl := folded_len merge1_len (done.map fun n => (n, n)) []
      rw [List.length_map] at fl
      have e3 : ((done ++ [n]).map fun n => (n, n)).foldl merge1 [] = merge1 ((done.map fun n => (n, n)).foldl merge1 []) (n, n) := by
        rw [List.map_append, List.foldl_append]
        rfl
      have I' : ∀ (z : List (Int × Int)), z = merge1 ((done.map fun n => (n, n)).foldl merge1 []) (n, n) → turn (fun ρ' μ' => ∃ done x, ns = done ++ rest ∧ μ' = μ ++ [.lst (((done.map fun n => (n, n)).foldl merge1 []).map stp)] ∧ ρ' = [some (.d (.list (ns.map .int))), some (.m μ.length), x]) (fun _ _ => False) (fun x μ2 => match x with
          | (.nx, ρ') => wp (dRet (dV 1) ρ' μ2) (ends1 fun u μ' => u = .m μ.length ∧ μ' = μ ++ [.lst ((mergedL (ns.map fun n => (n, n))).map stp)])
          | r => ends1 (fun u μ' => u = .m μ.length ∧ μ' = μ ++ [.lst ((mergedL (ns.map fun n => (n, n))).map stp)]) r μ2)
          (.nx, [some (.d (.list (ns.map .int))), some (.m μ.length), some (.d (.int n))]) (μ ++ [.lst (z.map stp)]) := fun z hz => ⟨done ++ [n], _, by rw [e, List.append_assoc]; rfl, by rw [e3, hz], rfl⟩
      generalize (done.map fun n => (n, n)).foldl merge1 [] = f at fl e3 I' ⊢
      have pk : peek (μ ++ [.lst (f.map stp)]) (.m μ.length) = some (.list (f.map stp)) := peek_l last_get
      have ap : ∀ h : f.length ≤ 900, dDrop (dApp (dV 1) (dTup (dCons (dV 2) (dCons (dV 2) dNil)))) [some (.d (.list (ns.map .int))), some (.m μ.length), some (.d (.int n))] (μ ++ [.lst (f.map stp)]) = .ok (.nx, [some (.d (.list (ns.map .int))), some (.m μ.length), some (.d (.int n))]) (μ ++ [.lst ((f ++ [(n, n)]).map stp)]) := fun h => by
        apply r_drop
        refine r_app (k := μ.length) (r_V rfl) last_get (r_tup (r_cons (r_V rfl) (r_cons (r_V rfl) r_nil)) (by simp) rfl) last_get (by simp; omega) ?_
        rw [last_set, List.map_append]
        rfl
      have ap := ap (by simp only [List.length_nil] at fl; omega)
      cases e2 : f.getLast? with
      | none =>
        have f0 : f = [] := List.getLast?_eq_none_iff.mp e2
        have hne : neP (.list (f.map stp)) (.list []) = some (.bool false) := by rw [neP_nilL, f0]; rfl
        apply s_iteF (and_F (r_test (r_op (r_V rfl) (r_lst r_nil (by simp) rfl) pk rfl hne)))
        apply s_one ap
        exact I' _ (by unfold merge1; rw [e2, f0]; rfl)
      | some t =>
        have f0 : f ≠ [] := fun z => by rw [z] at e2; cases e2
        have hne : neP (.list (f.map stp)) (.list []) = some (.bool true) := by
          rw [neP_nilL]
          cases f with
          | nil => exact absurd rfl f0
          | cons _ _ => rfl
        have hix : ixP (.list (f.map stp)) (.int (-1)) = some (stp t) := atI_last (by rw [List.getLast?_map, e2]; rfl)
        have t1 := r_test (r_op (r_V (ρ := [some (.d (.list (ns.map .int))), some (.m μ.length), some (.d (.int n))]) (μ := μ ++ [.lst (f.map stp)]) (i := 1) rfl) (r_lst r_nil (by simp) rfl) pk rfl hne)
        have x1 := r_op (r_V (ρ := [some (.d (.list (ns.map .int))), some (.m μ.length), some (.d (.int n))]) (μ := μ ++ [.lst (f.map stp)]) (i := 1) rfl) (r_un (r_C (x := .int 1)) rfl (negP_int _)) pk rfl hix
        have t2 : dTest (dOp eqP (dOp ixP (dOp ixP (dV 1) (dUn negP (dC (.int 1)))) (dC (.int 1))) (dOp subP (dV 2) (dC (.int 1)))) [some (.d (.list (ns.map .int))), some (.m μ.length), some (.d (.int n))] (μ ++ [.lst (f.map stp)]) = .ok (t.2 == n - 1) (μ ++ [.lst (f.map stp)]) :=
          r_test (r_opD (r_opD x1 r_C (ixP_stp1 t)) (r_opD (r_V rfl) r_C (subP_int _ _)) (eqP_int _ _))
        by_cases ht : t.2 + 1 = n
        · have hb : (t.2 == n - 1) = true := by
            rw [beq_iff_eq]
            omega
          rw [hb] at t2
          apply s_iteT (and_T t1 t2)
          have hq : L2.ixN (f.map stp).length (-1) = some (f.length - 1) := by
            have hl : 1 ≤ f.length := List.length_pos_iff.mpr f0
            unfold L2.ixN
            rw [if_neg (by decide), List.length_map, if_pos (by omega)]
            congr 1
            omega
          have hset : (f.map stp).set (f.length - 1) (stp (t.1, n)) = (f.dropLast ++ [(t.1, n)]).map stp := by
            obtain ⟨f', rfl⟩ := List.getLast?_eq_some_iff.mp e2
            rw [List.dropLast_concat, List.length_append, List.map_append, List.set_append_right _ _ (by simp), List.map_append]
            simp
          have := r_setIx (x := stp (t.1, n)) (e := dTup (dCons (dOp ixP (dOp ixP (dV 1) (dUn negP (dC (.int 1)))) (dC (.int 0))) (dCons (dV 2) dNil))) (eo := dV 1) (ei := dUn negP (dC (.int 1))) (r_tup (r_cons (r_opD x1 r_C (ixP_stp0 t)) (r_cons (r_V rfl) r_nil)) (by simp) rfl) (r_V rfl) (r_un r_C rfl (negP_int _)) last_get hq
          rw [last_set, hset] at this
          apply s_one this
          exact I' _ (by unfold merge1; rw [e2]; simp [ht])
        · have hb : (t.2 == n - 1) = false := by
            rw [beq_eq_false_iff_ne]
            omega
          rw [hb] at t2
          apply s_iteF (and_T t1 t2)
          apply s_one ap
          exact I' _ (by unfold merge1; rw [e2]; simp [ht])
    · rintro ρ' μ' ⟨done, x, e, rfl, rfl⟩
      rw [List.append_nil] at e
      subst e
      apply s_ret (r_V rfl)
      exact ⟨rfl, rfl⟩
  obtain ⟨u, μ', e, rfl, rfl⟩ := wp_ex key
  exact fn_list e (Nat.le_refl _) last_get take_app hno
theorem upto_from (e : Nat) : upto e = from_ 0 e := by
  rw [from_eq]
  unfold upto
  exact List.map_congr_left fun i _ => by rw [Int.zero_add]
/-! ### what is drawn -/
def src (a b : Int) : MO := .lst [.int a, .int b]
theorem pick_ok {s : Nat} {a b many : Int} (hs : μ[s]? = some (src a b)) (hm : 0 < many) (hb : many < 2 ^ 64) :
    ∃ r a' b' : Int, 0 ≤ r ∧ r < many ∧ f__law_pick [.m s, .d (.int many)] μ = .ok (.d (.int r)) (μ.set s (src a' b')) := by
  unfold src at hs ⊢
  by_cases ha : a > 0
  · refine ⟨a % many, a / many, b, Int.emod_nonneg _ (by omega), Int.emod_lt_of_pos _ hm, ?_⟩
    unfold f__law_pick
    simp [d__law_pick, startE, hs, peek, L2.atI, L2.ixN, ha, mod_pos hm, div_pos hm hb, dSetIx, dSet1, get_set hs]
  · have hq : 0 ≤ (b * 44497 + 9973) % 2147483647 := Int.emod_nonneg _ (by decide)
    have hq2 : (b * 44497 + 9973) % 2147483647 < 2147483647 := Int.emod_lt_of_pos _ (by decide)
    refine ⟨(b * 44497 + 9973) % 2147483647 * ((b * 44497 + 9973) % 2147483647) % 2147483399 / 11 % many, a, (b * 44497 + 9973) % 2147483647, Int.emod_nonneg _ (by omega), Int.emod_lt_of_pos _ hm, ?_⟩
    generalize hz : (b * 44497 + 9973) % 2147483647 = z at hq hq2 ⊢
    have m1 : mulP (.int b) (.int 44497) = some (.int (b * 44497)) := mul_small (.inr ⟨by decide, by decide⟩)
    have m2 : mulP (.int z) (.int z) = some (.int (z * z)) := mul_small (.inl ⟨by omega, by omega⟩)
    have d1 : modP (.int (b * 44497 + 9973)) (.int 2147483647) = some (.int z) := by
      rw [mod_pos (by decide), hz]
    have d2 : modP (.int (z * z)) (.int 2147483399) = some (.int (z * z % 2147483399)) := mod_pos (by decide)
    have d3 : divP (.int (z * z % 2147483399)) (.int 11) = some (.int (z * z % 2147483399 / 11)) := div_pos (by decide) (by decide)
    unfold f__law_pick
    simp [d__law_pick, startE, hs, peek, L2.atI, L2.ixN, ha, m1, m2, d1, d2, d3, mod_pos hm, dSetIx, dSet1, get_set hs]
theorem source_ok (ns : List Int) (k : Nat) : ∃ a b : Int, f__law_source [scr ns, .d (.int k)] μ = .ok (.m μ.length) (μ ++ [src a b]) := by
  have hn : ∃ number : Int, dIte (dTest (dOp gtP (dUn lenP (dV 0)) (dV 1))) (dAsg 2 (dUn intP (dOp ixP (dV 0) (dV 1)))) dSkip [some (scr ns), some (.d (.int k)), some (.d (.int 0)), none] μ = .ok (.nx, [some (scr ns), some (.d (.int k)), some (.d (.int number)), none]) μ := by
    by_cases h : k < ns.length
    · refine ⟨ns[k], ?_⟩
      have h1 : (k : Int) < (ns.length : Int) := by omega
      have i1 : L2.atI (ns.map PyData.int) (k : Int) = some (.int ns[k]) := by
        rw [atI_nat (by omega) (by rw [List.length_map]; exact h1), List.getElem?_map]
        have : ((k : Int)).toNat = k := by omega
        rw [this, List.getElem?_eq_getElem h]
        rfl
      simp [scr, h, i1]
    · refine ⟨0, ?_⟩
      simp [scr, h]
  obtain ⟨number, hn⟩ := hn
  have a2 : dAsg 2 (dC (.int (0))) [some (scr ns), some (.d (.int k)), none, none] μ = .ok (.nx, [some (scr ns), some (.d (.int k)), some (.d (.int 0)), none]) μ := rfl
  have m1 : mulP (.int number) (.int 16807) = some (.int (number * 16807)) := mul_small (.inr ⟨by decide, by decide⟩)
  have m2 : mulP (.int 60919) (.int k) = some (.int (60919 * k)) := mul_small (.inl ⟨by decide, by decide⟩)
  have q1 : 0 ≤ (number * 16807 + 60919 * k + 31) % 2147481173 := Int.emod_nonneg _ (by decide)
  have q2 : (number * 16807 + 60919 * k + 31) % 2147481173 < 2147481173 := Int.emod_lt_of_pos _ (by decide)
  generalize hz : (number * 16807 + 60919 * k + 31) % 2147481173 = z at q1 q2
  have d1 : modP (.int (number * 16807 + 60919 * k + 31)) (.int 2147481173) = some (.int z) := by
    rw [mod_pos (by decide), hz]
  have m3 : mulP (.int z) (.int z) = some (.int (z * z)) := mul_small (.inl ⟨by omega, by omega⟩)
  have d2 : modP (.int (z * z)) (.int 2147481151) = some (.int (z * z % 2147481151)) := mod_pos (by decide)
  have m4 : mulP (.int 2) (.int k) = some (.int (2 * k)) := mul_small (.inl ⟨by decide, by decide⟩)
  have a3 : dAsg 3 (dOp modP (dOp addP (dOp addP (dOp mulP (dV 2) (dC (.int (16807)))) (dOp mulP (dC (.int (60919))) (dV 1))) (dC (.int (31)))) (dC (.int (2147481173)))) [some (scr ns), some (.d (.int k)), some (.d (.int number)), none] μ = .ok (.nx, [some (scr ns), some (.d (.int k)), some (.d (.int number)), some (.d (.int z))]) μ := by
    simp [m1, m2, d1]
  have a4 : dAsg 3 (dOp addP (dOp addP (dOp modP (dOp mulP (dV 3) (dV 3)) (dC (.int (2147481151)))) (dOp mulP (dC (.int (2))) (dV 1))) (dC (.int (5)))) [some (scr ns), some (.d (.int k)), some (.d (.int number)), some (.d (.int z))] μ = .ok (.nx, [some (scr ns), some (.d (.int k)), some (.d (.int number)), some (.d (.int (z * z % 2147481151 + 2 * k + 5)))]) μ := by
    simp [m3, d2, m4]
  have p18 : powP (.int 10) (.int 18) = some (.int 1000000000000000000) := by kernel_rfl
  have key : ∃ a : Int, dIf (dTest (dOp geP (dV 2) (dOp powP (dC (.int (10))) (dC (.int (18)))))) (dV 2) (dC (.int (0))) [some (scr ns), some (.d (.int k)), some (.d (.int number)), some (.d (.int (z * z % 2147481151 + 2 * k + 5)))] μ = .ok (.d (.int a)) μ := by
    by_cases h : 1000000000000000000 ≤ number
    · exact ⟨number, by simp [p18, h]⟩
    · exact ⟨0, by simp [p18, h]⟩
  obtain ⟨a, ha⟩ := key
  refine ⟨a, z * z % 2147481151 + 2 * k + 5, ?_⟩
  refine body_ret (n := 2) (ρ' := [some (scr ns), some (.d (.int k)), some (.d (.int number)), some (.d (.int (z * z % 2147481151 + 2 * k + 5)))]) rfl ?_
  show d__law_source [some (scr ns), some (.d (.int k)), none, none] μ = _
  unfold d__law_source
  rw [seq_nx a2, seq_nx hn, seq_nx a3, seq_nx a4]
  refine ret_ok ?_
  unfold dLstM
  rw [e_bnd, e_dCons, ha]
  rfl
theorem chosen_ok {s : Nat} {a b : Int} (hs : μ[s]? = some (src a b)) : ∃ v a' b' : Int, 0 ≤ v ∧ v ≤ 1000000 ∧ f__law_chosen [.m s, .d (.list [.int 9, .int 9, .int 30, .int 1000000])] μ = .ok (.d (.int v)) (μ.set s (src a' b')) := by
  obtain ⟨r, a', b', h0, h1, hp⟩ := pick_ok (many := 4) hs (by decide) (by decide)
  have hr : r = 0 ∨ r = 1 ∨ r = 2 ∨ r = 3 := by omega
  have hv : ∃ v : Int, 0 ≤ v ∧ v ≤ 1000000 ∧ L2.atI [PyData.int 9, .int 9, .int 30, .int 1000000] r = some (.int v) := by
    rcases hr with rfl | rfl | rfl | rfl
    · exact ⟨9, by decide, by decide, rfl⟩
    · exact ⟨9, by decide, by decide, rfl⟩
    · exact ⟨30, by decide, by decide, rfl⟩
    · exact ⟨1000000, by decide, by decide, rfl⟩
  obtain ⟨v, v0, v1, hv⟩ := hv
  refine ⟨v, a', b', v0, v1, ?_⟩
  refine body_ret (n := 2) (ρ' := [some (.m s), some (.d (.list [.int 9, .int 9, .int 30, .int 1000000]))]) rfl ?_
  show d__law_chosen [some (.m s), some (.d (.list [.int 9, .int 9, .int 30, .int 1000000]))] μ = _
  unfold d__law_chosen
  have hc : dCall 2 f__law_pick (dCons (dV 0) (dCons (dUn lenP (dV 1)) dNil)) [some (.m s), some (.d (.list [.int 9, .int 9, .int 30, .int 1000000]))] μ = .ok (.d (.int r)) (μ.set s (src a' b')) := by
    simp [hp]
  exact ret_ok (op_ok (x := .list [.int 9, .int 9, .int 30, .int 1000000]) (μ1 := μ) (by simp) hc hv)
/-! ### the drawn ladder -/
/-- the rows so far: the next border is h, all ends below w a row -/
structure Rows (w h : Int) (L : List (Int × Int)) : Prop where
  b0 : ∀ p ∈ L, 0 ≤ p.1
  lt : ∀ p ∈ L, p.1 < h
  p0 : ∀ p ∈ L, 0 ≤ p.2
  p1 : ∀ p ∈ L, p.2 ≤ 1000000
  hd : ∀ p, L[0]? = some p → p.1 = 0
  asc : L.Pairwise fun p q => p.1 < q.1
  h0 : L = [] → h = 0
  hh : 0 ≤ h
  hw : h ≤ (L.length : Int) * w
theorem Rows.add {w h : Int} (r : Rows w h L) {p r' : Int} (h0 : 0 ≤ p) (h1 : p ≤ 1000000) (h2 : 0 ≤ r') (h3 : r' < w) : Rows w (h + 1 + r') (L ++ [(h, p)]) where
  b0 := fun q hq => by
    rcases List.mem_append.mp hq with hq | hq
    · exact r.b0 q hq
    · rw [List.mem_singleton.mp hq]
      exact r.hh
  lt := fun q hq => by
    rcases List.mem_append.mp hq with hq | hq
    · have := r.lt q hq
      omega
    · rw [List.mem_singleton.mp hq]
      show h < h + 1 + r'
      omega
  p0 := fun q hq => by
    rcases List.mem_append.mp hq with hq | hq
    · exact r.p0 q hq
    · rw [List.mem_singleton.mp hq]
      exact h0
  p1 := fun q hq => by
    rcases List.mem_append.mp hq with hq | hq
    · exact r.p1 q hq
    · rw [List.mem_singleton.mp hq]
      exact h1
  hd := fun q hq => by
    cases hL : L with
    | nil =>
      rw [hL] at hq
      have e : (h, p) = q := Option.some.inj hq
      rw [← e]
      exact r.h0 hL
    | cons a l =>
      rw [hL] at hq
      exact r.hd q (by rw [hL]; exact hq)
  asc := List.pairwise_append.mpr ⟨r.asc, by simp, fun a ha b hb => by
    rw [List.mem_singleton.mp hb]
    exact r.lt a ha⟩
  h0 := fun z => by simp at z
  hh := by
    have := r.hh
    omega
  hw := by
    have := r.hw
    rw [List.length_append, List.length_singleton]
    have e : ((L.length + 1 : Nat) : Int) * w = (L.length : Int) * w + w := by
      rw [Int.natCast_add, Int.add_mul]
      simp
    rw [e]
    omega
theorem Rows.right {w h : Int} (r : Rows w h L) (hn : 1 ≤ L.length) (h5 : L.length ≤ 5) (hw : w ≤ 100000000000) : Right L where
  ne := hn
  len := h5
  b0 := r.b0
  b1 := fun p hp => by
    have h1 := r.lt p hp
    have h2 := r.hw
    have h3 : (L.length : Int) * w ≤ 5 * 100000000000 := by
      by_cases h0 : 0 ≤ w
      · exact Int.mul_le_mul (by omega) hw h0 (by decide)
      · have : (L.length : Int) * w ≤ 0 := Int.mul_nonpos_of_nonneg_of_nonpos (by omega) (by omega)
        omega
    omega
  p0 := r.p0
  p1 := r.p1
  hd := r.hd
  asc := r.asc
/-- the store while a ladder is drawn -/
def St (μ0 : List MO) (s : Nat) (a b : Int) (L : List (Int × Int)) : List MO := μ0.set s (src a b) ++ [.lst (L.map stp)]
theorem st_s {μ0 : List MO} {s : Nat} (hs : s < μ0.length) (a b : Int) (L : List (Int × Int)) : (St μ0 s a b L)[s]? = some (src a b) := by
  unfold St
  rw [List.getElem?_append_left (by rw [List.length_set]; exact hs), List.getElem?_set_self hs]
theorem st_set {μ0 : List MO} {s : Nat} (hs : s < μ0.length) (a b a' b' : Int) (L : List (Int × Int)) : (St μ0 s a b L).set s (src a' b') = St μ0 s a' b' L := by
  unfold St
  rw [List.set_append_left _ _ (by rw [List.length_set]; exact hs), List.set_set]
theorem st_k {μ0 : List MO} {s : Nat} (a b : Int) (L : List (Int × Int)) : (St μ0 s a b L)[μ0.length]? = some (.lst (L.map stp)) := by
  unfold St
  rw [List.getElem?_append_right (by rw [List.length_set]; exact Nat.le_refl _), List.length_set, Nat.sub_self]
  rfl
theorem st_setk {μ0 : List MO} {s : Nat} (a b : Int) (L : List (Int × Int)) (p : Int × Int) : (St μ0 s a b L).set μ0.length (.lst (L.map stp ++ [stp p])) = St μ0 s a b (L ++ [p]) := by
  unfold St
  rw [List.set_append_right _ _ (by rw [List.length_set]; exact Nat.le_refl _), List.length_set, Nat.sub_self, List.map_append]
  rfl
def bodyS : DS := dSeq (dDrop (dApp (dV 3) (dTup (dCons (dV 4) (dCons (dCall 2 f__law_pick (dCons (dV 0) (dCons (dOp addP (dV 2) (dC (.int (1)))) dNil))) dNil))))) (dAsg 4 (dOp addP (dOp addP (dV 4) (dC (.int (1)))) (dCall 2 f__law_pick (dCons (dV 0) (dCons (dV 1) dNil)))))
theorem turnS {μ0 : List MO} {s : Nat} (hs : s < μ0.length) {a b w most h : Int} {x : Option U} (hw0 : 0 < w) (hw1 : w ≤ 100000000000) (hm0 : 0 ≤ most) (hm1 : most ≤ 1000000) (hl : L.length ≤ 5) (r : Rows w h L) :
    ∃ a' b' p r' : Int, Rows w (h + 1 + r') (L ++ [(h, p)]) ∧ bodyS [some (.m s), some (.d (.int w)), some (.d (.int most)), some (.m μ0.length), some (.d (.int h)), x] (St μ0 s a b L) =
      .ok (.nx, [some (.m s), some (.d (.int w)), some (.d (.int most)), some (.m μ0.length), some (.d (.int (h + 1 + r'))), x]) (St μ0 s a' b' (L ++ [(h, p)])) := by
  obtain ⟨p, a1, b1, p0, p1, hp⟩ := pick_ok (many := most + 1) (st_s hs a b L) (by omega) (by omega)
  rw [st_set hs] at hp
  obtain ⟨r', a2, b2, q0, q1, hr⟩ := pick_ok (many := w) (st_s hs a1 b1 (L ++ [(h, p)])) hw0 (by omega)
  rw [st_set hs] at hr
  refine ⟨a2, b2, p, r', r.add p0 (by omega) q0 q1, ?_⟩
  have e1 : dTup (dCons (dV 4) (dCons (dCall 2 f__law_pick (dCons (dV 0) (dCons (dOp addP (dV 2) (dC (.int (1)))) dNil))) dNil)) [some (.m s), some (.d (.int w)), some (.d (.int most)), some (.m μ0.length), some (.d (.int h)), x] (St μ0 s a b L) = .ok (.d (stp (h, p))) (St μ0 s a1 b1 L) := by
    have hb : [U.d (.int h), U.d (.int p)].length ≤ big := show 2 ≤ big by decide
    have hc : dCons (dV 4) (dCons (dCall 2 f__law_pick (dCons (dV 0) (dCons (dOp addP (dV 2) (dC (.int (1)))) dNil))) dNil) [some (.m s), some (.d (.int w)), some (.d (.int most)), some (.m μ0.length), some (.d (.int h)), x] (St μ0 s a b L) = .ok [.d (.int h), .d (.int p)] (St μ0 s a1 b1 L) := by
      simp [hp]
    rw [e_dTup, hc]
    simp only [hb, if_true]
    rfl
  have ap : dApp (dV 3) (dTup (dCons (dV 4) (dCons (dCall 2 f__law_pick (dCons (dV 0) (dCons (dOp addP (dV 2) (dC (.int (1)))) dNil))) dNil))) [some (.m s), some (.d (.int w)), some (.d (.int most)), some (.m μ0.length), some (.d (.int h)), x] (St μ0 s a b L) = .ok (.d .none) (St μ0 s a1 b1 (L ++ [(h, p)])) := by
    unfold dApp
    rw [e_bnd]
    show (match (St μ0 s a b L)[μ0.length]? with
      | some (.lst _) => bnd (dTup (dCons (dV 4) (dCons (dCall 2 f__law_pick (dCons (dV 0) (dCons (dOp addP (dV 2) (dC (.int (1)))) dNil))) dNil)) [some (.m s), some (.d (.int w)), some (.d (.int most)), some (.m μ0.length), some (.d (.int h)), x]) (fun u => bnd (ofO (dData u)) fun x => dApp1 μ0.length x) (St μ0 s a b L)
      | _ => .stuck) = _
    rw [st_k]
    dsimp only
    rw [e_bnd, e1]
    show dApp1 μ0.length (stp (h, p)) (St μ0 s a1 b1 L) = _
    unfold dApp1
    rw [st_k]
    dsimp only
    rw [if_pos (by
      rw [List.length_map]
      exact Nat.lt_of_le_of_lt hl (by decide)), st_setk]
  unfold bodyS
  have dr : dDrop (dApp (dV 3) (dTup (dCons (dV 4) (dCons (dCall 2 f__law_pick (dCons (dV 0) (dCons (dOp addP (dV 2) (dC (.int (1)))) dNil))) dNil)))) [some (.m s), some (.d (.int w)), some (.d (.int most)), some (.m μ0.length), some (.d (.int h)), x] (St μ0 s a b L) = .ok (.nx, [some (.m s), some (.d (.int w)), some (.d (.int most)), some (.m μ0.length), some (.d (.int h)), x]) (St μ0 s a1 b1 (L ++ [(h, p)])) := by
    rw [e_dDrop, ap]
  rw [seq_nx dr]
  have ad : dOp addP (dOp addP (dV 4) (dC (.int (1)))) (dCall 2 f__law_pick (dCons (dV 0) (dCons (dV 1) dNil))) [some (.m s), some (.d (.int w)), some (.d (.int most)), some (.m μ0.length), some (.d (.int h)), x] (St μ0 s a1 b1 (L ++ [(h, p)])) = .ok (.d (.int (h + 1 + r'))) (St μ0 s a2 b2 (L ++ [(h, p)])) :=
    op_ok (x := .int (h + 1)) (y := .int r') (μ1 := St μ0 s a1 b1 (L ++ [(h, p)])) (by simp) (by simp [hr]) (by simp)
  rw [asg_ok ad]
  rfl
theorem loopS {μ0 : List MO} {s : Nat} (hs : s < μ0.length) {w most : Int} (hw0 : 0 < w) (hw1 : w ≤ 100000000000) (hm0 : 0 ≤ most) (hm1 : most ≤ 1000000) : ∀ (us : List U) (L : List (Int × Int)) (a b h : Int) (x : Option U), L.length + us.length ≤ 5 → Rows w h L →
    ∃ a' b' h' L' y, Rows w h' L' ∧ L'.length = L.length + us.length ∧ forD (gN 5).f bodyS us [some (.m s), some (.d (.int w)), some (.d (.int most)), some (.m μ0.length), some (.d (.int h)), x] (St μ0 s a b L) =
      .ok (.nx, [some (.m s), some (.d (.int w)), some (.d (.int most)), some (.m μ0.length), some (.d (.int h')), y]) (St μ0 s a' b' L')
  | [], L, a, b, h, x, _, r => ⟨a, b, h, L, x, r, rfl, rfl⟩
  | u :: us, L, a, b, h, x, hl, r => by
    rw [List.length_cons] at hl
    obtain ⟨a1, b1, p, r', r1, t1⟩ := turnS (a := a) (b := b) (x := some u) hs hw0 hw1 hm0 hm1 (by omega) r
    obtain ⟨a2, b2, h2, L2, y, r2, l2, t2⟩ := loopS hs hw0 hw1 hm0 hm1 us (L ++ [(h, p)]) a1 b1 (h + 1 + r') (some u) (by rw [List.length_append, List.length_singleton]; omega) r1
    refine ⟨a2, b2, h2, L2, y, r2, by rw [l2, List.length_append, List.length_singleton, List.length_cons]; omega, ?_⟩
    rw [forD_cons (ρ1 := [some (.m s), some (.d (.int w)), some (.d (.int most)), some (.m μ0.length), some (.d (.int h)), some u]) _ _ _ rfl, t1]
    exact t2
theorem rng_len (lo : Int) (n : Nat) : (rngU lo n).length = n := by simp [rngU]
theorem noObj_set {s : Nat} {o : MO} (h : μ.all noObj = true) (ho : noObj o = true) : (μ.set s o).all noObj = true := List.all_eq_true.mpr fun x hx => by
  rcases List.mem_or_eq_of_mem_set hx with hx | hx
  · exact List.all_eq_true.mp h x hx
  · rw [hx]
    exact ho
theorem steps_okB {s : Nat} {a b w : Int} (hs : μ[s]? = some (src a b)) (hno : μ.all noObj = true) (hw0 : 0 < w) (hw1 : w ≤ 100000000000) :
    ∃ L a' b', (Right L ∧ ∀ p ∈ L, p.1 ≤ 5 * w) ∧ f__law_steps [.m s, .d (.int w)] μ = .ok (.d (lad L)) (μ.set s (src a' b')) := by
  have hs' : s < μ.length := (List.getElem?_eq_some_iff.mp hs).1
  obtain ⟨most, a1, b1, v0, v1, hc⟩ := chosen_ok hs
  have par : dPar [2, 3, 4] (dCons (dCall 2 f__law_chosen (dCons (dV 0) (dCons (dLst (dCons (dC (.int (9))) (dCons (dC (.int (9))) (dCons (dC (.int (30))) (dCons (dOp powP (dC (.int (10))) (dC (.int (6)))) dNil))))) dNil))) (dCons (dLstM dNil) (dCons (dC (.int (0))) dNil))) [some (.m s), some (.d (.int w)), none, none, none, none] μ =
      .ok (.nx, [some (.m s), some (.d (.int w)), some (.d (.int most)), some (.m μ.length), some (.d (.int 0)), none]) (St μ s a1 b1 []) := by
    have q : dLst (dCons (dC (.int (9))) (dCons (dC (.int (9))) (dCons (dC (.int (30))) (dCons (dOp powP (dC (.int (10))) (dC (.int (6)))) dNil)))) [some (.m s), some (.d (.int w)), none, none, none, none] μ = .ok (.d (.list [.int 9, .int 9, .int 30, .int 1000000])) μ := by kernel_rfl
    have q2 : dCall 2 f__law_chosen (dCons (dV 0) (dCons (dLst (dCons (dC (.int (9))) (dCons (dC (.int (9))) (dCons (dC (.int (30))) (dCons (dOp powP (dC (.int (10))) (dC (.int (6)))) dNil))))) dNil)) [some (.m s), some (.d (.int w)), none, none, none, none] μ = .ok (.d (.int most)) (μ.set s (src a1 b1)) := by
      exact (call_ok (n := 2) (us := [.m s, .d (.list [.int 9, .int 9, .int 30, .int 1000000])]) (μ1 := μ) (cons_ok (μ1 := μ) rfl (cons_ok q rfl)) rfl).trans hc
    have q3 : dLstM dNil [some (.m s), some (.d (.int w)), none, none, none, none] (μ.set s (src a1 b1)) = .ok (.m μ.length) (St μ s a1 b1 []) := by
      show (if ([] : List U).length ≤ big then Res.ok (U.m (μ.set s (src a1 b1)).length) (μ.set s (src a1 b1) ++ [.lst []]) else .stuck) = _
      rw [if_pos (by decide), List.length_set]
      rfl
    rw [e_dPar, e_dCons, q2]
    dsimp only
    rw [e_dCons, q3]
    rfl
  obtain ⟨r, a2, b2, r0, r1, hr⟩ := pick_ok (many := 5) (st_s hs' a1 b1 []) (by decide) (by decide)
  rw [st_set hs'] at hr
  have rg : dR1 (dCons (dOp addP (dC (.int (1))) (dCall 2 f__law_pick (dCons (dV 0) (dCons (dC (.int (5))) dNil)))) dNil) [some (.m s), some (.d (.int w)), some (.d (.int most)), some (.m μ.length), some (.d (.int 0)), none] (St μ s a1 b1 []) = .ok (rngU 0 (1 + r).toNat) (St μ s a2 b2 []) := by
    have q : dOp addP (dC (.int (1))) (dCall 2 f__law_pick (dCons (dV 0) (dCons (dC (.int (5))) dNil))) [some (.m s), some (.d (.int w)), some (.d (.int most)), some (.m μ.length), some (.d (.int 0)), none] (St μ s a1 b1 []) = .ok (.d (.int (1 + r))) (St μ s a2 b2 []) :=
      op_ok (x := .int 1) (y := .int r) (μ1 := St μ s a1 b1 []) rfl (by simp [hr]) rfl
    rw [e_dR1, e_dCons, q]
    show ofO (rng1 [U.d (.int (1 + r))]) (St μ s a2 b2 []) = _
    show ofO (if -(2 ^ 62) ≤ 1 + r ∧ 1 + r < 2 ^ 62 then some (rngU 0 (1 + r).toNat) else none) _ = _
    rw [if_pos ⟨by omega, by omega⟩]
    rfl
  have n1 : (rngU 0 (1 + r).toNat).length = (1 + r).toNat := rng_len _ _
  obtain ⟨a3, b3, h3, L, y, rr, ll, lp⟩ := loopS hs' hw0 hw1 v0 v1 (rngU 0 (1 + r).toNat) [] a2 b2 0 none (by rw [n1]; simp; omega) ⟨by simp, by simp, by simp, by simp, by simp, by simp, fun _ => rfl, Int.le_refl _, by simp⟩
  rw [n1] at ll
  have RL : Right L := rr.right (by rw [ll]; simp; omega) (by rw [ll]; simp; omega) hw1
  refine ⟨L, a3, b3, ⟨RL, fun p hp => ?_⟩, ?_⟩
  · have h1 := rr.lt p hp
    have h2 := rr.hw
    have h5 := RL.len
    have h3 : (L.length : Int) * w ≤ 5 * w := Int.mul_le_mul_of_nonneg_right (by omega) (by omega)
    omega
  have fl : dFor (dR1 (dCons (dOp addP (dC (.int (1))) (dCall 2 f__law_pick (dCons (dV 0) (dCons (dC (.int (5))) dNil)))) dNil)) (gN 5) bodyS [some (.m s), some (.d (.int w)), some (.d (.int most)), some (.m μ.length), some (.d (.int 0)), none] (St μ s a1 b1 []) =
      .ok (.nx, [some (.m s), some (.d (.int w)), some (.d (.int most)), some (.m μ.length), some (.d (.int h3)), y]) (St μ s a3 b3 L) := by
    rw [e_dFor, rg]
    exact lp
  have bd : bodyD 6 2 d__law_steps [.m s, .d (.int w)] μ = .ok (.d (lad L)) (St μ s a3 b3 L) := by
    refine body_ret (n := 2) (ρ' := [some (.m s), some (.d (.int w)), some (.d (.int most)), some (.m μ.length), some (.d (.int h3)), y]) rfl ?_
    show d__law_steps [some (.m s), some (.d (.int w)), none, none, none, none] μ = _
    unfold d__law_steps
    unfold bodyS at fl
    rw [seq_nx par, seq_nx fl]
    refine ret_ok ?_
    rw [e_dUn]
    show (match peek (St μ s a3 b3 L) (.m μ.length) with
      | some x => (match tupP x with
        | some z => Res.ok (U.d z) (St μ s a3 b3 L)
        | none => .stuck)
      | none => .stuck) = _
    have pk : peek (St μ s a3 b3 L) (.m μ.length) = some (.list (L.map stp)) := by
      show (match (St μ s a3 b3 L)[μ.length]? with
        | some (MO.lst ds) => some (PyData.list ds)
        | _ => none) = _
      rw [st_k]
    rw [pk]
    rfl
  have tk : (St μ s a3 b3 L).take μ.length = μ.set s (src a3 b3) := by
    unfold St
    have := List.take_left (l₁ := μ.set s (src a3 b3)) (l₂ := [MO.lst (L.map stp)])
    rw [List.length_set] at this
    exact this
  unfold f__law_steps fnD fr
  rw [bd]
  dsimp only
  rw [tk, if_pos (noObj_set hno rfl)]
  show Res.ok (U.d (lad L)) ((St μ s a3 b3 L).take μ.length) = _
  rw [tk]
theorem steps_ok {s : Nat} {a b w : Int} (hs : μ[s]? = some (src a b)) (hno : μ.all noObj = true) (hw0 : 0 < w) (hw1 : w ≤ 100000000000) :
    ∃ L a' b', Right L ∧ f__law_steps [.m s, .d (.int w)] μ = .ok (.d (lad L)) (μ.set s (src a' b')) := by
  obtain ⟨L, a', b', h, e⟩ := steps_okB hs hno hw0 hw1
  exact ⟨L, a', b', h.1, e⟩
/-! ### draws -/
/-- what has been drawn from the source at s, and nothing else -/
def Dr (μ0 : List MO) (s : Nat) (μ : List MO) : Prop := ∃ a b, μ = μ0.set s (src a b)
theorem Dr.at {μ0 : List MO} {s : Nat} (h : Dr μ0 s μ) (hs : s < μ0.length) : ∃ a b, μ[s]? = some (src a b) := by
  obtain ⟨a, b, rfl⟩ := h
  exact ⟨a, b, List.getElem?_set_self hs⟩
theorem Dr.len {μ0 : List MO} {s : Nat} (h : Dr μ0 s μ) : μ.length = μ0.length := by
  obtain ⟨a, b, rfl⟩ := h
  rw [List.length_set]
theorem Dr.set {μ0 : List MO} {s : Nat} (h : Dr μ0 s μ) (a b : Int) : Dr μ0 s (μ.set s (src a b)) := by
  obtain ⟨c, d, rfl⟩ := h
  exact ⟨a, b, by rw [List.set_set]⟩
theorem Dr.of {s : Nat} {a b : Int} (h : μ[s]? = some (src a b)) : Dr μ s μ := ⟨a, b, by
  obtain ⟨h1, h2⟩ := List.getElem?_eq_some_iff.mp h
  rw [← h2, List.set_getElem_self]⟩
theorem Dr.trans {μ0 μ1 : List MO} {s : Nat} (h : Dr μ0 s μ1) (h2 : Dr μ1 s μ) : Dr μ0 s μ := by
  obtain ⟨a, b, rfl⟩ := h
  obtain ⟨c, d, rfl⟩ := h2
  exact ⟨c, d, by rw [List.set_set]⟩
theorem Dr.no {μ0 : List MO} {s : Nat} (h : Dr μ0 s μ) (hno : μ0.all noObj = true) : μ.all noObj = true := by
  obtain ⟨a, b, rfl⟩ := h
  exact noObj_set hno rfl
theorem Dr.other {μ0 : List MO} {s k : Nat} (h : Dr μ0 s μ) (hk : s ≠ k) : μ[k]? = μ0[k]? := by
  obtain ⟨a, b, rfl⟩ := h
  rw [List.getElem?_set_ne hk]
theorem Dr.cut {μ0 : List MO} {s : Nat} {o : MO} (h : Dr (μ0 ++ [o]) s μ) (hs : s < μ0.length) : Dr μ0 s (μ.take μ0.length) := by
  obtain ⟨a, b, rfl⟩ := h
  exact ⟨a, b, by rw [List.set_append_left _ _ hs]; exact List.take_left' (by rw [List.length_set])⟩
theorem Dr.put {μ0 : List MO} {s : Nat} {o o' : MO} (h : Dr (μ0 ++ [o]) s μ) (hs : s < μ0.length) : Dr (μ0 ++ [o']) s (μ.set μ0.length o') := by
  obtain ⟨a, b, rfl⟩ := h
  refine ⟨a, b, ?_⟩
  rw [List.set_append_left _ _ hs, List.set_append_left _ _ hs, List.set_append_right _ _ (by rw [List.length_set]; exact Nat.le_refl _), List.length_set, Nat.sub_self]
  rfl
theorem Dr.snoc {μ0 : List MO} {s : Nat} {o : MO} (h : Dr μ0 s μ) (hs : s < μ0.length) : Dr (μ0 ++ [o]) s (μ ++ [o]) := by
  obtain ⟨a, b, rfl⟩ := h
  exact ⟨a, b, by rw [List.set_append_left _ _ hs]⟩
theorem Dr.top {μ0 : List MO} {s : Nat} {o : MO} (h : Dr (μ0 ++ [o]) s μ) (hs : s < μ0.length) : μ[μ0.length]? = some o := by
  rw [h.other (by omega)]
  rw [List.getElem?_append_right (Nat.le_refl _), Nat.sub_self]
  rfl
theorem pick_dr {μ0 : List MO} {s : Nat} (h : Dr μ0 s μ) (hs : s < μ0.length) {many : Int} (hm : 0 < many) (hb : many < 2 ^ 64) :
    ∃ r μ', 0 ≤ r ∧ r < many ∧ f__law_pick [.m s, .d (.int many)] μ = .ok (.d (.int r)) μ' ∧ Dr μ0 s μ' := by
  obtain ⟨a, b, h1⟩ := h.at hs
  obtain ⟨r, a', b', h2, h3, h4⟩ := pick_ok h1 hm hb
  exact ⟨r, _, h2, h3, h4, h.set a' b'⟩
theorem chosen_dr {μ0 : List MO} {s : Nat} (h : Dr μ0 s μ) (hs : s < μ0.length) {xs : List PyData} (h1 : xs ≠ []) (h2 : xs.length ≤ 1000) :
    ∃ v μ', v ∈ xs ∧ f__law_chosen [.m s, .d (.list xs)] μ = .ok (.d v) μ' ∧ Dr μ0 s μ' := by
  have hl : 0 < xs.length := List.length_pos_iff.mpr h1
  obtain ⟨r, μ', r0, r1, hp, hd⟩ := pick_dr h hs (many := (xs.length : Nat)) (by omega) (by omega)
  have hr : r.toNat < xs.length := by omega
  have hix : ixP (.list xs) (.int r) = some xs[r.toNat] := by
    show L2.atI xs r = _
    rw [atI_nat r0 (by omega), List.getElem?_eq_getElem hr]
  refine ⟨xs[r.toNat], μ', List.getElem_mem hr, ?_, hd⟩
  refine wp_eq (w_body rfl (by wtm_at "env") ?_)
  unfold d__law_chosen
  wtm_at "run"
theorem steps_dr {μ0 : List MO} {s : Nat} (h : Dr μ0 s μ) (hs : s < μ0.length) (hno : μ0.all noObj = true) {w : Int} (hw0 : 0 < w) (hw1 : w ≤ 100000000000) :
    ∃ L μ', Right L ∧ f__law_steps [.m s, .d (.int w)] μ = .ok (.d (lad L)) μ' ∧ Dr μ0 s μ' := by
  obtain ⟨a, b, h1⟩ := h.at hs
  obtain ⟨L, a', b', R, e⟩ := steps_ok h1 (h.no hno) hw0 hw1
  exact ⟨L, _, R, e, h.set a' b'⟩
theorem steps_drB {μ0 : List MO} {s : Nat} (h : Dr μ0 s μ) (hs : s < μ0.length) (hno : μ0.all noObj = true) {w : Int} (hw0 : 0 < w) (hw1 : w ≤ 100000000000) :
    ∃ L μ', Right L ∧ (∀ p ∈ L, p.1 ≤ 5 * w) ∧ f__law_steps [.m s, .d (.int w)] μ = .ok (.d (lad L)) μ' ∧ Dr μ0 s μ' := by
  obtain ⟨a, b, h1⟩ := h.at hs
  obtain ⟨L, a', b', R, e⟩ := steps_okB h1 (h.no hno) hw0 hw1
  exact ⟨L, _, R.1, R.2, e, h.set a' b'⟩
/-! ### drawn numbers -/
theorem law_numbers {μ0 : List MO} {s : Nat} (h : Dr μ0 s μ) (hs : s < μ0.length) (R : Right L) : ∃ (ns : List Int) (μ' : List MO), f__law_numbers [.m s, .d (lad L)] μ = .ok (.d (.list (ns.map .int))) μ' ∧ (∀ n ∈ ns, 0 ≤ n ∧ n ≤ 1000000000000000000000000000000) ∧ ns.length = 4 + 5 * L.length ∧ Dr μ0 s μ' := by
  have h5 := R.len
  have key : wp (f__law_numbers [.m s, .d (lad L)] μ) fun u μ' => Dr μ0 s μ' ∧ ∃ ns : List Int, u = .d (.list (ns.map .int)) ∧ (∀ n ∈ ns, 0 ≤ n ∧ n ≤ 1000000000000000000000000000000) ∧ ns.length = 4 + 5 * L.length := by
    refine w_body rfl (by wtm_at "env") ?_
    unfold d__law_numbers
    have p9 : powP (.int 10) (.int 9) = some (.int 1000000000) := by kernel_rfl
    have p30 : powP (.int 10) (.int 30) = some (.int 1000000000000000000000000000000) := by kernel_rfl
    obtain ⟨r, μ1, r0, r1, e1, d1⟩ := pick_dr h hs (many := 1000000000) (by decide) (by decide)
    apply s_seq (ρ1 := [some (.m s), some (.d (lad L)), some (.d (.list ([0, 1, 1000000000000000000000000000000, r].map .int))), none, none, none]) (μ1 := μ1)
    · wtm_at "go"
    clear e1 p9 p30
    refine s_seqFor (μ1 := μ1) (xs := L) (g := fun s => .d (stp s)) (fun rest ρ' μ' => Dr μ0 s μ' ∧ ∃ (done : List (Int × Int)) (ns : List Int) (x y z : Option U), L = done ++ rest ∧ ns.length = 4 + 5 * done.length ∧ (∀ n ∈ ns, 0 ≤ n ∧ n ≤ 1000000000000000000000000000000) ∧ ρ' = [some (.m s), some (.d (lad L)), some (.d (.list (ns.map .int))), x, y, z]) (by wtm_at "go") ⟨d1, [], [0, 1, 1000000000000000000000000000000, r], none, none, none, rfl, rfl, fun n hn => ?_, rfl⟩ ?_ ?_
    · simp only [List.mem_cons, List.not_mem_nil, or_false] at hn
      omega
    · rintro p rest ρ' μ' ⟨hd, done, ns, x, y, z, e, hln, hns, rfl⟩
      refine ⟨_, by wtm_at "tg", ?_⟩
      have hpm : p ∈ L := by rw [e]; simp
      have b0 := R.b0 p hpm
      have b1 := R.b1 p hpm
      have hdl : done.length ≤ 5 := by
        rw [e] at h5
        simp at h5
        omega
      obtain ⟨r', μ2, q0, q1, e2, d2⟩ := pick_dr hd hs (many := p.1 + 2) (by omega) (by omega)
      have hmx : ∀ m : Int, max2P (.int 0) (.int m) = some (.int (max 0 m)) := fun m => by
        rw [max2P_int, Int.max_def]
        congr 2
        split <;> split <;> omega
      have c1 : dLc (dSq (dTup (dCons (dUn negP (dC (.int (2)))) (dCons (dUn negP (dC (.int (1)))) (dCons (dC (.int (0))) (dCons (dC (.int (1))) dNil)))))) (gN 5) dYes (dOp max2P (dC (.int (0))) (dOp addP (dV 3) (dV 5))) [5] [some (.m s), some (.d (lad L)), some (.d (.list (ns.map .int))), some (.d (.int p.1)), some (.d (.int p.2)), z] μ' = .ok (.d (.list (([-2, -1, 0, 1] : List Int).map fun m => .int (max 0 (p.1 + m))))) μ' :=
        r_lcA (xs := [-2, -1, 0, 1]) (g := fun m => .d (.int m)) (h := fun m => .int (max 0 (p.1 + m))) (by kernel_rfl) (by decide) fun m hm => ⟨_, rfl, r_opD r_C (r_opD (r_V rfl) (r_V rfl) (addP_int _ _)) (hmx _)⟩
      have a1 : addP (.list (ns.map .int)) (.list (([-2, -1, 0, 1] : List Int).map fun m => .int (max 0 (p.1 + m)))) = some (.list ((ns ++ [-2, -1, 0, 1].map fun m => max 0 (p.1 + m)).map .int)) := by
        rw [addP_l (by simp; omega), List.map_append, List.map_map]
        rfl
      have a2 : addP (.list ((ns ++ [-2, -1, 0, 1].map fun m => max 0 (p.1 + m)).map .int)) (.list [.int r']) = some (.list ((ns ++ ([-2, -1, 0, 1].map fun m => max 0 (p.1 + m)) ++ [r']).map .int)) := by
        rw [addP_l (by simp; omega), List.map_append (l₂ := [r'])]
        rfl
      apply s_one
      · apply r_asg
        · exact r_opD (r_opD (r_V rfl) c1 a1) (by wtm_at "go") a2
        · wtm_at "st"
      refine ⟨d2, done ++ [p], _, _, _, _, by rw [e]; simp, by simp; omega, fun n hn => ?_, rfl⟩
      rcases List.mem_append.mp hn with hn | hn
      · rcases List.mem_append.mp hn with hn | hn
        · exact hns n hn
        · simp only [List.map_cons, List.map_nil, List.mem_cons, List.not_mem_nil, or_false] at hn
          omega
      · rw [List.mem_singleton.mp hn]
        omega
    · rintro ρ' μ' ⟨hd, done, ns, x, y, z, e, hln, hns, rfl⟩
      rw [List.append_nil] at e
      subst e
      apply s_ret
      · wtm_at "go"
      exact ⟨hd, ns, rfl, hns, hln⟩
  obtain ⟨u, μ', e, hd, ns, rfl, h1, h2⟩ := wp_ex key
  exact ⟨ns, μ', e, h1, h2, hd⟩
/-! ### a row that buys and gives back -/
theorem owedL_nil (L : List (Int × Int)) (h : Bool) : owedL L h [] = 0 := by simp [owedL]
def rowT (t : Int × Int) (n : Int) : List Int := if n < t.2 then [t.2, n - t.2] else [t.2]
theorem top1 {n : Int} (h : 0 ≤ n) : topOf [n] = n := by
  show max 0 ([n].sum) = n
  simp
  omega
theorem top2 {a b : Int} (h : 0 ≤ a) (h2 : a + b ≤ a) : topOf [a, b] = a := by
  show max (max 0 [a].sum) [a, b].sum = a
  simp
  omega
theorem row_ok (R : Right L) {n : Int} (h0 : 0 < n) (h1 : n ≤ 1000000000000000000000000000000) : RowOk (rowT (trip L n) n) ∧ (payL L true (rowT (trip L n) n)).sum = (trip L n).1 := by
  rcases trip_is R n with h | ⟨q, hq, h2, h⟩
  · rw [h]
    have er : rowT (cost L n, n) n = [n] := if_neg (by show ¬ n < n; omega)
    rw [er]
    refine ⟨⟨by simp, by simp; omega, by simp; omega, by simp; omega, fun k => ?_⟩, ?_⟩
    · match k with
      | 0 => exact Int.le_refl _
      | k + 1 =>
        rw [List.take_of_length_le (by simp)]
        simp
        omega
    · show ([owedL L true [n] - owedL L true []] : List Int).sum = cost L n
      rw [owedL_nil]
      unfold owedL cost
      rw [if_pos rfl, top1 (by omega)]
      simp
  · rw [h]
    have er : rowT (n * q.2, q.1) n = [q.1, n - q.1] := if_pos h2
    have b1 := R.b1 q hq
    have ep : price L q.1 = q.2 := by
      obtain ⟨i, hi⟩ := List.getElem?_of_mem hq
      exact price_here R hi
    rw [er]
    refine ⟨⟨by simp, by simp; omega, by simp; omega, by simp; omega, fun k => ?_⟩, ?_⟩
    · match k with
      | 0 => exact Int.le_refl _
      | 1 =>
        show 0 ≤ [q.1].sum
        simp
        omega
      | k + 2 =>
        rw [List.take_of_length_le (by simp)]
        simp
        omega
    · show ([owedL L true [q.1] - owedL L true [], owedL L true [q.1, n - q.1] - owedL L true [q.1]] : List Int).sum = n * q.2
      have e2 : owedL L true [q.1, n - q.1] = n * q.2 := by
        unfold owedL
        rw [if_pos rfl, top2 (by omega) (by omega), ep]
        congr 1
        simp
        omega
      rw [owedL_nil, e2]
      simp
      omega
/-! ### told rightly -/
theorem r_lcC {js : List Nat} {mk : List U → DT} {di : DI} {dg : DG} {te : DE} {vs : List Nat} {ρ : Env'} {xs : List PyData} {r : Res U} (h : capsOf js ρ = some xs) (k : dLc di dg (mk (xs.map .d)) te vs ρ μ = r) : dLcC js mk di dg te vs ρ μ = r := by
  unfold dLcC
  rw [h]
  exact k
theorem r_sqL {a : DE} {ρ : Env'} {u : U} {us : List U} {μ1 : List MO} (ha : a ρ μ = .ok u μ1) (hu : lstOnly u = some us) : dSqL a ρ μ = .ok us μ1 := by
  show bnd (a ρ) (fun u => ofO (lstOnly u)) μ = _
  rw [e_bnd, ha]
  dsimp only
  rw [hu]
  rfl
theorem lst_nums (ns : List Int) : lstOnly (.d (.list (ns.map .int))) = some (ns.map fun n => .d (.int n)) := by
  show some ((ns.map PyData.int).map U.d) = _
  rw [List.map_map]
  rfl
theorem law_gains (R : Right L) {n : Int} (hn : 0 ≤ n) : f__law_gains [.d (.int n), .d (lad L)] μ = .ok (.d (.bool (decide ((trip L n).1 < paid L n)))) μ := by
  have q1 := law_trip (μ := μ) R hn
  have q2 := law_bought (μ := μ) R hn
  refine wp_eq (w_body rfl (by wtm_at "env") ?_)
  unfold d__law_gains
  refine s_ret (r_opD (r_opD (r_call (r_cons (r_V rfl) (r_cons (r_V rfl) r_nil)) rfl q1) r_C (ixP_stp0 _)) (r_opD (r_call (r_cons (r_V rfl) (r_cons (r_V rfl) r_nil)) rfl q2) r_C (ixP_stp0 _)) (ltP_int _ _)) ?_
  exact ⟨rfl, rfl⟩
theorem mergedL_len (l : List (Int × Int)) : (mergedL l).length ≤ l.length := by
  have := folded_len merge1_len l []
  simp only [List.length_nil] at this
  show (l.foldl merge1 []).length ≤ _
  omega
theorem heldL_len (R : Right L) : (heldL L).length ≤ 5 := by
  have h1 := mergedL_len ((List.range L.length).flatMap (heldIn L))
  have h3 := flat_len (heldIn_len L) (List.range L.length)
  rw [List.length_range] at h3
  have h5 := R.len
  unfold heldL
  omega
def tail31 : DS := (dSeq (dIte (dNot (dTest (dCallHO [1] 3 (fun cs us => f__law_stretches_right (fun vs => f__law_gains (vs ++ cs)) us) (dCons (dCall 1 f_held_gains (dCons (dV 1) dNil)) (dCons (dV 3) (dCons (dV 4) dNil)))))) (dRet (dC (.bool false))) dSkip) (dSeq (dFor (dSq (dV 4)) (gN 5) (dSeq (dAsg 6 (dCall 2 f_round_trip (dCons (dV 1) (dCons (dV 5) dNil)))) (dSeq (dIte (dTest (dOp neP (dV 6) (dCall 2 f__law_trip (dCons (dV 1) (dCons (dV 5) dNil))))) (dRet (dC (.bool false))) dSkip) (dIte (dTest (dOp gtP (dV 5) (dC (.int (0))))) (dSeq (dAsg 7 (dOp addP (dTup (dCons (dOp ixP (dV 6) (dC (.int (1)))) dNil)) (dIf (dTest (dOp ltP (dV 5) (dOp ixP (dV 6) (dC (.int (1)))))) (dTup (dCons (dOp subP (dV 5) (dOp ixP (dV 6) (dC (.int (1))))) dNil)) (dTup dNil)))) (dIte (dTest (dOp neP (dUn sumP (dCall 3 f_payments (dCons (dV 1) (dCons (dC (.bool true)) (dCons (dV 7) dNil))))) (dOp ixP (dV 6) (dC (.int (0)))))) (dRet (dC (.bool false))) dSkip)) dSkip)))) (dRet (dC (.bool true)))))
theorem tail_ok (R : Right L) {s : Nat} {b : Bool} {ns : List Int} (h1 : ∀ n ∈ ns, 0 ≤ n ∧ n ≤ 1000000000000000000000000000000) : wp (tail31 [some (.m s), some (.d (lad L)), some (.d (.bool b)), some (.fn 0), some (.d (.list (ns.map .int))), none, none, none] μ) fun r μ' => (∃ ρ', r = (.ret (.d (.bool true)), ρ')) ∧ μ' = μ := by
  have gl := heldL_len R
  have q0 := held_gains (μ := μ) R
  have sr := stretches_right (μ := μ) (good := fun vs => f__law_gains (vs ++ [lad L].map U.d)) (p := fun n => decide ((trip L n).1 < paid L n)) (P := hgains L) (fun n hn => law_gains R hn) (fun n => by rw [decide_eq_true_eq]; exact Iff.rfl) (held_sr R) (by omega) (ns := ns) (fun n hn => (h1 n hn).1)
  have ho : dCallHO [1] 3 (fun cs us => f__law_stretches_right (fun vs => f__law_gains (vs ++ cs)) us) (dCons (dCall 1 f_held_gains (dCons (dV 1) dNil)) (dCons (dV 3) (dCons (dV 4) dNil))) [some (.m s), some (.d (lad L)), some (.d (.bool b)), some (.fn 0), some (.d (.list (ns.map .int))), none, none, none] μ = .ok (.d (.bool true)) μ :=
    r_callHO (xs := [lad L]) rfl (r_cons (r_call (r_cons (r_V rfl) r_nil) rfl q0) (r_cons (r_V rfl) (r_cons (r_V rfl) r_nil))) rfl sr
  unfold tail31
  refine s_pass (r_not (r_test ho)) ?_
  refine s_seqFor (xs := ns) (g := fun n => .d (.int n)) (fun rest ρ' μ' => μ' = μ ∧ (∀ n ∈ rest, 0 ≤ n ∧ n ≤ 1000000000000000000000000000000) ∧ ∃ x5 x6 x7, ρ' = [some (.m s), some (.d (lad L)), some (.d (.bool b)), some (.fn 0), some (.d (.list (ns.map .int))), x5, x6, x7]) (r_sq (r_V rfl) seq_map) ⟨rfl, h1, _, _, _, rfl⟩ ?_ ?_
  · rintro n rest ρ' μ' ⟨rfl, hn, x5, x6, x7, rfl⟩
    refine ⟨_, rfl, ?_⟩
    obtain ⟨n0, n1⟩ := hn n List.mem_cons_self
    have q1 := round_trip (μ := μ') R n0 n1
    have q2 := law_trip (μ := μ') R n0
    have q3 : neP (stp (trip L n)) (stp (trip L n)) = some (.bool false) := by rw [neP_stp]; simp
    refine s_asg (r_call (r_cons (r_V rfl) (r_cons (r_V rfl) r_nil)) rfl q1) ?_
    refine s_pass (r_test (r_opD (r_V rfl) (r_call (r_cons (r_V rfl) (r_cons (r_V rfl) r_nil)) rfl q2) q3)) ?_
    have t1 := gtP_int n 0
    by_cases hp : n > 0
    · rw [decide_eq_true hp] at t1
      obtain ⟨ro, rs⟩ := row_ok R hp n1
      have q4 := payments_ok (μ := μ') R ro true
      have q5 : sumP (.list ((payL L true (rowT (trip L n) n)).map .int)) = some (.int (trip L n).1) := by rw [sum_l, rs]
      have q6 : neP (.int (trip L n).1) (.int (trip L n).1) = some (.bool false) := by rw [neP_int]; simp
      have t2 := ltP_int n (trip L n).2
      have er : ∃ z : PyData, addP (.tuple [.int (trip L n).2]) z = some (rowD (rowT (trip L n) n)) ∧ ∀ x5 x6 x7, x5 = some (.d (.int n)) → x6 = some (.d (stp (trip L n))) → dIf (dTest (dOp ltP (dV 5) (dOp ixP (dV 6) (dC (.int (1)))))) (dTup (dCons (dOp subP (dV 5) (dOp ixP (dV 6) (dC (.int (1))))) dNil)) (dTup dNil) [some (.m s), some (.d (lad L)), some (.d (.bool b)), some (.fn 0), some (.d (.list (ns.map .int))), x5, x6, x7] μ' = .ok (.d z) μ' := by
        by_cases ht : n < (trip L n).2
        · rw [decide_eq_true ht] at t2
          refine ⟨.tuple [.int (n - (trip L n).2)], ?_, ?_⟩
          · have : rowT (trip L n) n = [(trip L n).2, n - (trip L n).2] := if_pos ht
            rw [this]
            rfl
          · rintro x5 x6 x7 rfl rfl
            exact if_T (r_test (r_opD (r_V rfl) (r_opD (r_V rfl) r_C (ixP_stp1 _)) t2)) (r_tup (r_cons (r_opD (r_V rfl) (r_opD (r_V rfl) r_C (ixP_stp1 _)) (subP_int _ _)) r_nil) (by simp) rfl)
        · rw [decide_eq_false ht] at t2
          refine ⟨.tuple [], ?_, ?_⟩
          · have : rowT (trip L n) n = [(trip L n).2] := if_neg ht
            rw [this]
            rfl
          · rintro x5 x6 x7 rfl rfl
            exact if_F (r_test (r_opD (r_V rfl) (r_opD (r_V rfl) r_C (ixP_stp1 _)) t2)) (r_tup r_nil (by simp) rfl)
      obtain ⟨z, ez, hz⟩ := er
      have tk : dTup (dCons (dOp ixP (dV 6) (dC (.int (1)))) dNil) [some (.m s), some (.d (lad L)), some (.d (.bool b)), some (.fn 0), some (.d (.list (ns.map .int))), some (.d (.int n)), some (.d (stp (trip L n))), x7] μ' = .ok (.d (.tuple [.int (trip L n).2])) μ' := r_tup (r_cons (r_opD (r_V rfl) r_C (ixP_stp1 _)) r_nil) (by simp) rfl
      generalize rowT (trip L n) n = G at q4 q5 ez
      generalize payL L true G = pG at q4 q5
      refine s_iteT (r_test (r_opD (r_V rfl) r_C t1)) ?_
      refine s_asg (r_opD tk (hz _ _ _ rfl rfl) ez) ?_
      refine s_pass1 (r_test (r_opD (r_un (r_call (r_cons (r_V rfl) (r_cons r_C (r_cons (r_V rfl) r_nil))) rfl q4) rfl q5) (r_opD (r_V rfl) r_C (ixP_stp0 _)) q6)) ?_
      exact ⟨rfl, fun m hm => hn m (List.mem_cons_of_mem _ hm), _, _, _, rfl⟩
    · rw [decide_eq_false hp] at t1
      refine s_pass1 (r_test (r_opD (r_V rfl) r_C t1)) ?_
      exact ⟨rfl, fun m hm => hn m (List.mem_cons_of_mem _ hm), _, _, _, rfl⟩
  · rintro ρ' μ' ⟨rfl, _, x5, x6, x7, rfl⟩
    apply s_ret r_C
    exact ⟨⟨_, rfl⟩, rfl⟩
theorem no_held (R : Right L) {i : Nat} {p : Int × Int} {n : Int} (hp : L[i]? = some p) (hq : L[i + 1]? = none) (hn : p.1 ≤ n) : ¬ hgains L n := fun h => by
  have h : (trip L n).1 < paid L n := h
  have b0 := R.b0 p (mem_at hp)
  obtain ⟨hm, hne⟩ := drop_ne hp
  have hw : low (L.drop i) = p.2 := by
    obtain ⟨q, hq', e⟩ := low_is hne
    obtain ⟨j, hj⟩ := List.getElem?_of_mem hq'
    rw [List.getElem?_drop] at hj
    have hjl := (List.getElem?_eq_some_iff.mp hj).1
    have hil := List.getElem?_eq_none_iff.mp hq
    have : j = 0 := by omega
    subst this
    rw [Nat.add_zero, hp] at hj
    cases hj
    exact e
  rw [paid_last R hp hq hn, trip_low R hp (by omega) hn (fun q hq' => by rw [hq] at hq'; cases hq'), hw] at h
  omega
theorem ladder_right {μ0 : List MO} {s : Nat} (h : Dr μ0 s μ) (hs : s < μ0.length) (hno : μ0.all noObj = true) (R : Right L) (near : Bool) (hB : near = true → ∀ p ∈ L, p.1 ≤ 300) : ∃ μ', f__law_right [.m s, .d (lad L), .d (.bool near)] μ = .ok (.d (.bool true)) μ' ∧ Dr μ0 s μ' := by
  obtain ⟨ns, μ1, e1, h1, l1, d1⟩ := law_numbers h hs R
  have hno1 := d1.no hno
  have key : wp ((dSeq (dAsg 4 (dCall 2 f__law_numbers (dCons (dV 0) (dCons (dV 1) dNil)))) (dSeq (dIte (dTest (dV 2)) (dSeq (dAsg 4 (dUn lrgP (dOp addP (dOp ixP (dOp ixP (dV 1) (dUn negP (dC (.int (1))))) (dC (.int (0)))) (dC (.int (3)))))) (dIte (dTest (dOp neP (dCall 1 f_held_gains (dCons (dV 1) dNil)) (dCall 1 f__law_stretches (dCons (dLcC [1] (fun cs => (fun good => (dTest (dGood 3 1 good (dCons (dV 5) dNil)))) (fun vs => f__law_gains (vs ++ cs))) (dSqL (dV 4)) (gN 5) (dV 5) [5]) dNil)))) (dRet (dC (.bool false))) dSkip)) dSkip) tail31)) [some (.m s), some (.d (lad L)), some (.d (.bool near)), some (.fn 0), none, none, none, none] μ) fun r μ' => (∃ ρ', r = (.ret (.d (.bool true)), ρ')) ∧ μ' = μ1 := by
    refine s_asg (r_call (r_cons (r_V rfl) (r_cons (r_V rfl) r_nil)) rfl e1) ?_
    cases near with
    | false =>
      refine s_pass (r_test (r_V rfl)) ?_
      exact tail_ok R h1
    | true =>
      have hB := hB rfl
      obtain ⟨p, hp⟩ : ∃ p, L.getLast? = some p := by
        cases e : L.getLast? with
        | none =>
          have := R.ne
          rw [List.getLast?_eq_none_iff.mp e] at this
          exact absurd this (by decide)
        | some p => exact ⟨p, rfl⟩
      have hpm : p ∈ L := List.mem_of_getLast? hp
      have b0 := R.b0 p hpm
      have b1 := hB p hpm
      have h5 := R.len
      have hne := R.ne
      obtain ⟨e, he⟩ : ∃ e : Nat, (e : Int) = p.1 + 3 := ⟨(p.1 + 3).toNat, by omega⟩
      have i1 : ixP (lad L) (.int (-1)) = some (stp p) := atI_last (by rw [List.getLast?_map, hp]; rfl)
      have lr : lrgP (.int (p.1 + 3)) = some (.list ((upto e).map .int)) := by
        rw [← he]
        exact lrg_upto (by omega)
      have hnog : ∀ n, (e : Int) ≤ n → ¬ hgains L n := fun n hn => by
        rw [List.getLast?_eq_getElem?] at hp
        exact no_held R hp (List.getElem?_eq_none (by omega)) (by omega)
      have hsr := SL.merged (SL.diag (P := hgains L) (p := fun n => decide ((trip L n).1 < paid L n)) (fun n => by rw [decide_eq_true_eq]; exact Iff.rfl) e 0 (e : Int) (by omega) hnog)
      rw [← upto_from] at hsr
      have hone := (held_sr R).one hsr
      have q1 := held_gains (μ := μ1) R
      have q2 := law_stretches (μ := μ1) (ns := (upto e).filter fun n => decide ((trip L n).1 < paid L n)) (by
        have := List.length_filter_le (fun n => decide ((trip L n).1 < paid L n)) (upto e)
        rw [upto_len] at this
        omega) hno1
      rw [← hone] at q2
      have n1 : neP (.list ((heldL L).map stp)) (.list ((heldL L).map stp)) = some (.bool false) := by rw [neP_prs]; simp
      have c1 : dLcC [1] (fun cs => (fun good => (dTest (dGood 3 1 good (dCons (dV 5) dNil)))) (fun vs => f__law_gains (vs ++ cs))) (dSqL (dV 4)) (gN 5) (dV 5) [5] [some (.m s), some (.d (lad L)), some (.d (.bool true)), some (.fn 0), some (.d (.list ((upto e).map .int))), none, none, none] μ1 = .ok (.d (.list (((upto e).filter fun n => decide ((trip L n).1 < paid L n)).map .int))) μ1 :=
        r_lcC (xs := [lad L]) rfl (r_lc (xs := upto e) (g := fun n => .d (.int n)) (p := fun n => decide ((trip L n).1 < paid L n)) (h := .int) (r_sqL (r_V rfl) (lst_nums _)) (by rw [upto_len]; omega) fun n hn => ⟨_, rfl, r_test (r_good rfl (r_cons (r_V rfl) r_nil) rfl (law_gains R (mem_upto.mp hn).1)), fun _ => r_V rfl⟩)
      refine s_seqIteT (r_test (r_V rfl)) ?_
      apply s_seqSeq
      refine s_asg (r_un (r_opD (r_opD (r_opD (r_V rfl) (r_un r_C rfl (negP_int _)) i1) r_C (ixP_stp0 p)) r_C (addP_int _ _)) rfl lr) ?_
      refine s_pass (r_test (r_opD (r_call (r_cons (r_V rfl) r_nil) rfl q1) (r_call (r_cons c1 r_nil) rfl q2) n1)) ?_
      exact tail_ok R fun n hn => by
        have := mem_upto.mp hn
        omega
  obtain ⟨r, μ', e, ⟨ρ', rfl⟩, rfl⟩ := wp_ex key
  refine ⟨_, r_body rfl rfl (dNdef_ok (i := 3) (ρ := [some (.m s), some (.d (lad L)), some (.d (.bool near)), none, none, none, none, none]) rfl (h.no hno) e (d1.no hno)), d1⟩
/-! ### what is refused -/
def OddL (d : PyData) : Prop := ∀ μ, f_is_right_ladder [.d d] μ = .ok (.d (.bool false)) μ
theorem need_odd {d : PyData} (h : OddL d) : f_need_ladder [.d d] μ = .err (.own 2) μ := by
  have h1 := h μ
  apply r_bodyE rfl (by wtm_at "env")
  unfold d_need_ladder
  refine r_ite (c := !false) (μ1 := μ) ?_ ?_
  · wtm_at "go"
  · rfl
theorem odd_none : OddL .none := fun μ => by kernel_rfl
theorem odd_int (i : Int) : OddL (.int i) := fun μ => by kernel_rfl
theorem odd_list (xs : List PyData) : OddL (.list xs) := fun μ => by kernel_rfl
theorem odd_str (x : Str) : OddL (.str x) := fun μ => by kernel_rfl
theorem odd_nil : OddL (.tuple []) := fun μ => by kernel_rfl
theorem odd_one : OddL (.tuple [stp (1, 5)]) := fun μ => by kernel_rfl
theorem by_two {c e : Nat} {fn : List U → M U} {t : Str} {x y : PyData} (ht : valtab2 c = some fn) (h : fn [.d x, .d y] μ = .err (.own e) μ) (he : errtx e = some t) : f__law_by_two [.fn c, .d x, .d y] μ = .ok (.d (.str t)) μ := by
  refine wp_eq (w_body rfl (by wtm_at "env") ?_)
  unfold d__law_by_two
  apply s_ret
  · exact r_refE (r_callV rfl ht (r_cons (r_V rfl) (r_cons (r_V rfl) r_nil)) rfl h) he
  · exact ⟨rfl, rfl⟩
theorem trip_badL {v w : PyData} (h : OddL v) : f_round_trip [.d v, .d w] μ = .err (.own 2) μ := by
  apply r_bodyE rfl (by wtm_at "env")
  unfold d_round_trip
  exact r_seqE (r_dropE (r_call (r_cons (r_V rfl) r_nil) rfl (need_odd h)))
theorem trip_badN (R : Right L) {v : PyData} (h : isInt0 v 0 1000000000000000000000000000000 = false) : f_round_trip [.d (lad L), .d v] μ = .err (.own 3) μ := by
  apply r_bodyE rfl (by wtm_at "env")
  unfold d_round_trip
  apply r_seq (r_drop (r_call (r_cons (r_V rfl) r_nil) rfl (need_ladder R)))
  exact r_seqE (r_dropE (r_call (r_cons (r_V rfl) (r_cons r_C (r_cons r_C r_nil))) rfl (need_num_bad h)))
theorem held_bad {v : PyData} (h : OddL v) : f_held_gains [.d v] μ = .err (.own 2) μ := by
  apply r_bodyE rfl (by wtm_at "env")
  unfold d_held_gains
  exact r_seqE (r_dropE (r_call (r_cons (r_V rfl) r_nil) rfl (need_odd h)))
theorem refusals (R : Right L) : f__law_refusals [.d (lad L)] μ = .ok (.d (.bool true)) μ := by
  refine wp_eq (w_body rfl (by wtm_at "env") ?_)
  unfold d__law_refusals
  have n1 : neP (.str "number") (.str "number") = some (.bool false) := ne_refl rfl (by decide)
  have n2 : neP (.str "ladder") (.str "ladder") = some (.bool false) := ne_refl rfl (by decide)
  have n3 : eqP (.str "ladder") (.str "ladder") = some (.bool true) := eq_refl rfl (by decide)
  refine s_seqFor (xs := [.none, .int (-1), .int 1000000000000000000000000000001, .bool true]) (g := .d) (fun rest ρ' μ' => μ' = μ ∧ (∀ v ∈ rest, isInt0 v 0 1000000000000000000000000000000 = false) ∧ ∃ x1, ρ' = [some (.d (lad L)), x1]) (by kernel_rfl) ⟨rfl, fun v hv => ?_, _, rfl⟩ ?_ ?_
  · simp only [List.mem_cons, List.not_mem_nil, or_false] at hv
    rcases hv with rfl | rfl | rfl | rfl <;> decide
  · rintro v rest ρ' μ' ⟨rfl, hv, x1, rfl⟩
    refine ⟨_, rfl, ?_⟩
    have q := by_two (μ := μ') (c := 38) (e := 3) (t := "number") rfl (trip_badN R (hv v List.mem_cons_self)) rfl
    refine s_pass1 (r_test (r_opD (r_call (r_cons r_F (r_cons (r_V rfl) (r_cons (r_V rfl) r_nil))) rfl q) r_C n1)) ?_
    exact ⟨rfl, fun u hu => hv u (List.mem_cons_of_mem _ hu), _, rfl⟩
  rintro ρ' μ' ⟨rfl, _, x1, rfl⟩
  have q1 := by_two (μ := μ') (c := 38) (e := 2) (t := "ladder") (y := .none) rfl (trip_badL odd_nil) rfl
  have q2 : dRef errtx "" (dCall 1 f_held_gains (dCons (dTup (dCons (dTup (dCons (dC (.int (1))) (dCons (dC (.int (5))) dNil))) dNil)) dNil)) [some (.d (lad L)), x1] μ' = .ok (.d (.str "ladder")) μ' :=
    r_refE (r_call (us := [.d (.tuple [stp (1, 5)])]) (r_cons (r_tup (u := .d (.tuple [stp (1, 5)])) (r_cons (r_tup (u := .d (stp (1, 5))) (r_cons r_C (r_cons r_C r_nil)) (by simp) rfl) r_nil) (by simp) rfl) r_nil) rfl (held_bad odd_one)) rfl
  refine s_pass (r_test (r_opD (r_call (r_cons r_F (r_cons (r_tup (u := .d (.tuple [])) r_nil (by simp) rfl) (r_cons r_C r_nil))) rfl q1) r_C n2)) ?_
  apply s_ret
  · exact r_opD q2 r_C n3
  exact ⟨rfl, rfl⟩
/-! ### written ladders -/
theorem written31 : f__law_written [] μ = .ok (.d (.bool true)) μ := by
  refine wp_eq (w_body rfl rfl ?_)
  unfold d__law_written
  refine s_seq (μ1 := μ) (ρ1 := [some (.d (lad [(0, 10), (10, 8), (100, 7)])), some (.d (lad [(0, 5), (20, 6)])), some (.d (lad [(0, 9), (5, 0)]))]) (by kernel_rfl) ?_
  refine s_pass (μ1 := μ) (by kernel_rfl) ?_
  refine s_pass (μ1 := μ) (by kernel_rfl) ?_
  refine s_pass (μ1 := μ) (by kernel_rfl) ?_
  refine s_pass (μ1 := μ) (by kernel_rfl) ?_
  refine s_pass (μ1 := μ) (by kernel_rfl) ?_
  refine s_ret (u := .d (.bool true)) (μ1 := μ) (by kernel_rfl) ?_
  exact ⟨rfl, rfl⟩
/-! ### the law -/
theorem bounds (n lo hi : Int) (h1 : 0 ≤ lo ∧ lo ≤ 100) (h2 : hi ≤ 100) : ∃ m j, min2P (.int hi) (.int n) = some (.int m) ∧ max2P (.int lo) (.int m) = some (.int j) ∧ 0 ≤ j ∧ j ≤ 100 := by
  refine ⟨if n < hi then n else hi, if (if n < hi then n else hi) > lo then (if n < hi then n else hi) else lo, rfl, rfl, ?_⟩
  split <;> split <;> omega
theorem lenS (ns : List Int) : lenP (.list (ns.map .int)) = some (.int ns.length) := by
  show some (PyData.int ((ns.map PyData.int).length : Nat)) = _
  rw [List.length_map]
theorem law_ok (ns : List Int) (hl : ns.length ≤ 63) : ∃ μ', f_law [scr ns] [] = .ok (.d (.bool true)) μ' := by
  have key : wp (f_law [scr ns] []) fun u _ => u = .d (.bool true) := by
    obtain ⟨m, j, hm, hj, j0, j1⟩ := bounds ns.length 5 12 (by omega) (by omega)
    have hln := lenS ns
    have p6 : powP (.int 10) (.int 6) = some (.int 1000000) := by kernel_rfl
    have p11 : powP (.int 10) (.int 11) = some (.int 100000000000) := by kernel_rfl
    refine w_body rfl (by wtm_at "env") ?_
    unfold d_law
    refine s_seqFor (xs := List.range j.toNat) (g := fun (k : Nat) => .d (.int (k : Int))) (fun rest ρ' μ' => μ'.all noObj = true ∧ ∃ x1 x2 x3 x4, ρ' = [some (scr ns), x1, x2, x3, x4]) (by wtm_at "go") ⟨rfl, _, _, _, _, rfl⟩ ?_ ?_
    · rintro k rest ρ' μ' ⟨hno, x1, x2, x3, x4, rfl⟩
      refine ⟨_, by wtm_at "tg", ?_⟩
      obtain ⟨a, b, hsrc⟩ := source_ok (μ := μ') ns k
      have hs : μ'.length < (μ' ++ [src a b]).length := by simp
      have hno2 : (μ' ++ [src a b]).all noObj = true := by rw [List.all_append, hno]; rfl
      have d0 : Dr (μ' ++ [src a b]) μ'.length (μ' ++ [src a b]) := Dr.of (a := a) (b := b) (by rw [List.getElem?_append_right (Nat.le_refl _), Nat.sub_self]; rfl)
      apply s_seq
      · wtm_at "go"
      clear hsrc
      generalize μ' ++ [src a b] = B at hs hno2 d0
      generalize μ'.length = s at hs d0
      refine s_for (μ1 := B) (xs := List.range 3) (g := fun (i : Nat) => .d (.int (i : Int))) (fun rest' ρ' μ1 => Dr B s μ1 ∧ ∃ x3 x4, ρ' = [some (scr ns), some (.d (.int (k : Int))), some (.m s), x3, x4]) (by kernel_rfl) ⟨d0, _, _, rfl⟩ ?_ ?_
      · rintro i rest' ρ' μ1 ⟨d1, x3, x4, rfl⟩
        refine ⟨_, by wtm_at "tg", ?_⟩
        obtain ⟨v, μ2, hv, e2, d2⟩ := chosen_dr d1 hs (xs := [.int 3, .int 9, .int 20]) (by simp) (by decide)
        obtain ⟨w, rfl, w0, w1⟩ : ∃ w : Int, v = .int w ∧ 0 < w ∧ w ≤ 20 := by
          simp only [List.mem_cons, List.not_mem_nil, or_false] at hv
          rcases hv with rfl | rfl | rfl
          · exact ⟨_, rfl, by decide, by decide⟩
          · exact ⟨_, rfl, by decide, by decide⟩
          · exact ⟨_, rfl, by decide, by decide⟩
        obtain ⟨L, μ3, R, hB, e3, d3⟩ := steps_drB d2 hs hno2 (w := w) w0 (by omega)
        obtain ⟨μa, q1, d3a⟩ := ladder_right d3 hs hno2 R true (fun _ p hp => by have := hB p hp; omega)
        have q2 := refusals (μ := μa) R
        obtain ⟨v, μ4, hv, e4, d4⟩ := chosen_dr d3a hs (xs := [.int 50, .int 1000000, .int 100000000000]) (by simp) (by decide)
        obtain ⟨w', rfl, w0', w1'⟩ : ∃ w : Int, v = .int w ∧ 0 < w ∧ w ≤ 100000000000 := by
          simp only [List.mem_cons, List.not_mem_nil, or_false] at hv
          rcases hv with rfl | rfl | rfl
          · exact ⟨_, rfl, by decide, by decide⟩
          · exact ⟨_, rfl, by decide, by decide⟩
          · exact ⟨_, rfl, by decide, by decide⟩
        obtain ⟨L2, μ5, R2, e5, d5⟩ := steps_dr d4 hs hno2 (w := w') w0' (by omega)
        obtain ⟨μ6, e6, d6⟩ := ladder_right d5 hs hno2 R2 false (fun z => nomatch z)
        refine s_asg (r_call (r_cons (r_V rfl) (r_cons (r_call (r_cons (r_V rfl) (r_cons (r_lst (r_cons r_C (r_cons r_C (r_cons r_C r_nil))) (by simp) rfl) r_nil)) rfl e2) r_nil)) rfl e3) ?_
        refine s_pass (or_F (r_not (r_test (r_call (r_cons (r_V rfl) (r_cons (r_V rfl) (r_cons r_C r_nil))) rfl q1))) (r_not (r_test (r_call (r_cons (r_V rfl) r_nil) rfl q2)))) ?_
        refine s_pass1 (r_not (r_test (r_call (r_cons (r_V rfl) (r_cons (r_call (r_cons (r_V rfl) (r_cons (r_call (r_cons (r_V rfl) (r_cons (r_lst (r_cons r_C (r_cons (r_opD r_C r_C p6) (r_cons (r_opD r_C r_C p11) r_nil))) (by simp) rfl) r_nil)) rfl e4) r_nil)) rfl e5) (r_cons r_C r_nil))) rfl e6))) ?_
        exact ⟨d6, _, _, rfl⟩
      · rintro ρ' μ1 ⟨d1, x3, x4, rfl⟩
        exact ⟨d1.no hno2, _, _, _, _, rfl⟩
    · rintro ρ' μ' ⟨hno, x1, x2, x3, x4, rfl⟩
      have hw := written31 (μ := μ')
      apply s_ret
      · wtm_at "go"
      rfl
  obtain ⟨v, μ', e, rfl⟩ := wp_ex key
  exact ⟨μ', e⟩
end
end L31

namespace G31
open PySem PySem.Spec PyProof.Rows L2 Evl LamX HotX L2H NdefX DL
/-! ### the facts from the head -/
theorem fx {K : PySem.W.Frag} {h : Heap} {mg : Str → Option Value} {base : Heap} {w : World} (X : K.In base) (G : base.Ns mainGlobals mg) (cX : He.SaysX fl fn [] tf ex w h K) (tb : ∀ p ∈ tf, TabB base mg (He.cT K p).1 (He.cT K p).2) : Fx K mg base := by
  have c := cX.t.d
  have e := cX.more
  unfold ex at e
  simp only [Bool.and_eq_true] at e
  refine ⟨He.free_ok X G (c.fact 0 (f := .free "all") rfl), He.free_ok X G (c.fact 1 (f := .free "bool") rfl), He.free_ok X G (c.fact 2 (f := .free "int") rfl), He.free_ok X G (c.fact 3 (f := .free "isinstance") rfl), He.free_ok X G (c.fact 4 (f := .free "len") rfl), He.free_ok X G (c.fact 5 (f := .free "list") rfl), He.free_ok X G (c.fact 6 (f := .free "max") rfl), He.free_ok X G (c.fact 7 (f := .free "min") rfl), He.free_ok X G (c.fact 8 (f := .free "range") rfl), He.free_ok X G (c.fact 9 (f := .free "sum") rfl), He.free_ok X G (c.fact 10 (f := .free "tuple") rfl), He.free_ok X G (c.fact 11 (f := .free "zip") rfl), He.int_ok X G (c.fact 12 (f := .int "MOST_BORDER" (1000000000000)) rfl), He.int_ok X G (c.fact 13 (f := .int "MOST_DEALS" (30)) rfl), He.int_ok X G (c.fact 14 (f := .int "MOST_NUMBER" (1000000000000000000000000000000)) rfl), He.int_ok X G (c.fact 15 (f := .int "MOST_PRICE" (1000000)) rfl), He.int_ok X G (c.fact 16 (f := .int "MOST_STEPS" (5)) rfl), He.glo_ok X G (c.fact 17 (f := .glo "InvalidBills") rfl), He.glo_ok X G (c.fact 18 (f := .glo "InvalidDeal") rfl), He.glo_ok X G (c.fact 19 (f := .glo "InvalidGroup") rfl), He.glo_ok X G (c.fact 20 (f := .glo "InvalidHold") rfl), He.glo_ok X G (c.fact 21 (f := .glo "InvalidIndex") rfl), He.glo_ok X G (c.fact 22 (f := .glo "InvalidLadder") rfl), He.glo_ok X G (c.fact 23 (f := .glo "InvalidNumber") rfl), He.glo_ok X G (c.fact 24 (f := .glo "InvalidPrices") rfl), He.glo_ok X G (c.fact 25 (f := .glo "InvalidRow") rfl), He.glo_ok X G (c.fact 26 (f := .glo "InvalidText") rfl), He.glo_ok X G (c.fact 27 (f := .glo "NoLadder") rfl), He.glo_ok X G (c.fact 28 (f := .glo "NothingToUndo") rfl), He.glo_ok X G (c.fact 29 (f := .glo "RebateError") rfl), He.glo_ok X G (c.fact 30 (f := .glo "TooMany") rfl), He.glo_ok X G (c.fact 31 (f := .glo "Unlike") rfl), He.glo_ok X G (c.fact 32 (f := .glo "_law_by_two") rfl), He.glo_ok X G (c.fact 33 (f := .glo "_law_chosen") rfl), He.glo_ok X G (c.fact 34 (f := .glo "_law_cost") rfl), He.glo_ok X G (c.fact 35 (f := .glo "_law_error") rfl), He.glo_ok X G (c.fact 36 (f := .glo "_law_numbers") rfl), He.glo_ok X G (c.fact 37 (f := .glo "_law_paid") rfl), He.glo_ok X G (c.fact 38 (f := .glo "_law_pick") rfl), He.glo_ok X G (c.fact 39 (f := .glo "_law_price") rfl), He.glo_ok X G (c.fact 40 (f := .glo "_law_refusals") rfl), He.glo_ok X G (c.fact 41 (f := .glo "_law_refused") rfl), He.glo_ok X G (c.fact 42 (f := .glo "_law_right") rfl), He.glo_ok X G (c.fact 43 (f := .glo "_law_source") rfl), He.glo_ok X G (c.fact 44 (f := .glo "_law_steps") rfl), He.glo_ok X G (c.fact 45 (f := .glo "_law_stretches") rfl), He.glo_ok X G (c.fact 46 (f := .glo "_law_stretches_right") rfl), He.glo_ok X G (c.fact 47 (f := .glo "_law_trip") rfl), He.glo_ok X G (c.fact 48 (f := .glo "_law_written") rfl), He.glo_ok X G (c.fact 49 (f := .glo "bought_for") rfl), He.glo_ok X G (c.fact 50 (f := .glo "can_be_done") rfl), He.glo_ok X G (c.fact 51 (f := .glo "cost_of") rfl), He.glo_ok X G (c.fact 52 (f := .glo "ends_of") rfl), He.glo_ok X G (c.fact 53 (f := .glo "held_gains") rfl), He.glo_ok X G (c.fact 54 (f := .glo "held_in") rfl), He.glo_ok X G (c.fact 55 (f := .glo "is_deal") rfl), He.glo_ok X G (c.fact 56 (f := .glo "is_int") rfl), He.glo_ok X G (c.fact 57 (f := .glo "is_right_ladder") rfl), He.glo_ok X G (c.fact 58 (f := .glo "is_right_row") rfl), He.glo_ok X G (c.fact 59 (f := .glo "is_step") rfl), He.glo_ok X G (c.fact 60 (f := .glo "law") rfl), He.glo_ok X G (c.fact 61 (f := .glo "merged") rfl), He.glo_ok X G (c.fact 62 (f := .glo "need_hold") rfl), He.glo_ok X G (c.fact 63 (f := .glo "need_ladder") rfl), He.glo_ok X G (c.fact 64 (f := .glo "need_number") rfl), He.glo_ok X G (c.fact 65 (f := .glo "owed_for") rfl), He.glo_ok X G (c.fact 66 (f := .glo "paid_for") rfl), He.glo_ok X G (c.fact 67 (f := .glo "payments") rfl), He.glo_ok X G (c.fact 68 (f := .glo "payments_of") rfl), He.glo_ok X G (c.fact 69 (f := .glo "pieces_in") rfl), He.glo_ok X G (c.fact 70 (f := .glo "price_at") rfl), He.glo_ok X G (c.fact 71 (f := .glo "round_trip") rfl), He.glo_ok X G (c.fact 72 (f := .glo "step_at") rfl), He.glo_ok X G (c.fact 73 (f := .glo "trip_for") rfl), He.exc_ok (c.fact 74 (f := .exc "InvalidLadder") rfl), He.exc_ok (c.fact 75 (f := .exc "InvalidNumber") rfl), He.exc_ok (c.fact 76 (f := .exc "InvalidHold") rfl), He.exc_ok (c.fact 77 (f := .exc "InvalidRow") rfl), fun c hc => excB_ok (List.all_eq_true.mp e.1.1 c hc), fun c hc j hj => kitB_ok (List.all_eq_true.mp (List.all_eq_true.mp e.1.2 c hc) j hj), ?exm, tb, fun i d hd => c.def_ i hd, e.2⟩
  intro i hi
  simp only [errIds, List.mem_cons, List.not_mem_nil, or_false] at hi
  rcases hi with rfl | rfl | rfl | rfl
  · exact He.exm_ok (c.fact 78 (f := .exm "InvalidLadder" "RebateError" true) rfl)
  · exact He.exm_ok (c.fact 79 (f := .exm "InvalidNumber" "RebateError" true) rfl)
  · exact He.exm_ok (c.fact 80 (f := .exm "InvalidHold" "RebateError" true) rfl)
  · exact He.exm_ok (c.fact 81 (f := .exm "InvalidRow" "RebateError" true) rfl)
theorem at_law {w : World} {K : PySem.W.Frag} {h : Heap} {mg : Str → Option Value} {f : Addr} (hlaw : ∀ ns : List Int, ns.length ≤ 63 → (∀ z ∈ ns, Builtin.Int.intBits z ≤ 1048576) → ∃ μ', f_law [scr ns] [] = .ok (.d (.bool true)) μ')
    (X : K.In h) (G : h.Ns mainGlobals mg) (hfa : mg ("law" : Str) = some (.ref f)) (c : He.SaysX fl fn [] tf ex w h K) : LawAtS PySem.Challenge.rw_wholerebates_k31_whole_prices_that_are_h w K (L2N.CX PySem.Challenge.rw_wholerebates_k31_whole_prices_that_are_h.prog w) 14 63 "script" mg f h := by
  obtain ⟨fd, F⟩ := c.t.d.defs (d := dd_law) (by simp [fn])
  have e := hfa.symm.trans (He.glo_ok X G (c.t.d.facts (f := .glo "law") (by simp [fl])))
  have e : f = He.ga K "law" := by
    cases e
    rfl
  subst e
  refine ⟨fd, tf.map fun p => He.cT K p, spD ⟨K, fa K .non, T K ⟨[], fun _ => True, fun _ _ _ _ => trivial⟩⟩ 1 f_law, fun p hp => ?_, fun p hp => ?_, fun p hp => ?_, fun s u => ?_, fun H a ns hl hb ht hS => ?_, fun base KB GB tb => ?_⟩
  · obtain ⟨q, hq, rfl⟩ := List.mem_map.mp hp
    exact c.empty q hq
  · obtain ⟨q, hq, rfl⟩ := List.mem_map.mp hp
    exact c.out q hq
  · obtain ⟨q, hq, rfl⟩ := List.mem_map.mp hp
    exact PySem.W.codeHd_of_K X (c.hd q hq)
  · exact FunD.bindsA (ps := ["script"]) F (fun _ _ _ _ _ _ us hl => match us, hl with | [_], _ => rfl) s [u] rfl
  · refine law_sp (fun p hp => ?_) ⟨rfl, fun _ => trivial⟩ hS (hlaw ns hl hb)
    simp only [T, Tt, List.mem_cons, List.not_mem_nil, or_false] at hp
    rcases hp with rfl | rfl | rfl
    · exact TabS.nil (ht _ (List.mem_map.mpr ⟨("_law_by_two", none), by simp [tf], rfl⟩))
    · exact TabS.nil (ht _ (List.mem_map.mpr ⟨("_law_right", none), by simp [tf], rfl⟩))
    · exact TabS.nil (ht _ (List.mem_map.mpr ⟨("_law_refusals", none), by simp [tf], rfl⟩))
  · have Fs : Fx K mg base := fx KB GB c fun p hp => tb _ (List.mem_map.mpr ⟨p, hp, rfl⟩)
    exact (fn_of_body (k := 13) (ds := d_law) F S_law rfl rfl fun cdv A outer s H E hc hr => b_law Fs hr)

end G31

open PySem PySem.W PySem.Calls PyProof.Rows in
theorem G31_head (hlaw : ∀ ns : List Int, ns.length ≤ 63 → (∀ z ∈ ns, Builtin.Int.intBits z ≤ 1048576) → ∃ μ', G31.f_law [DL.scr ns] [] = .ok (.d (.bool true)) μ') : PySem.Challenge.rw_wholerebates_k31_whole_prices_that_are_h.Holds := by
  w_on; o_law
  refine HandSHeadRun.head_any (r := OpenLaw.row PySem.Challenge.rw_wholerebates_k31_whole_prices_that_are_h) (q := view (OpenLaw.row PySem.Challenge.rw_wholerebates_k31_whole_prices_that_are_h).prog [66]) (H := G31.hk) (ob := G31.ob) (M := 15000) (loose := G31.loose) (d := HandSHeadRun.topDef (OpenLaw.row PySem.Challenge.rw_wholerebates_k31_whole_prices_that_are_h).prog 66) (kwd := []) G31.ob_eq
    (by kernel_rfl) (fun s => by kernel_rfl) G31.run (by kernel_rfl) (by kernel_rfl) (by kernel_rfl) (by rfl) (by first | assumption | decide +kernel) (by decide +kernel) ⟨rfl, rfl, rfl, rfl, rfl, by decide +kernel⟩ ?hw ?hc
  case hw => w_witness2
  case hc =>
    refine LamX.walk_ofTsE (l := PySem.Challenge.rw_wholerebates_k31_whole_prices_that_are_h) (n := 63) (k := 14) (x := "script") (CX := L2N.CX PySem.Challenge.rw_wholerebates_k31_whole_prices_that_are_h.prog) rfl (by decide) (by kernel_rfl) ⟨rfl, by decide, by decide⟩ ?F (fun _ _ _ _ _ z => by
      obtain ⟨_, _, _, _, _, _, _, _, _, _, _, _, z⟩ := z
      exact z)
    intro w mg fa h Y G hmg0
    obtain ⟨K, KX, c⟩ := Y
    refine ⟨K, KX, ?_⟩
    have hmg : mg ("law" : PySem.Str) = some (.ref fa) := by
      have e : (HandSHeadRun.topDef (OpenLaw.row PySem.Challenge.rw_wholerebates_k31_whole_prices_that_are_h).prog 66).name = ("law" : PySem.Str) := by kernel_rfl
      rw [← e]
      exact hmg0
    exact G31.at_law hlaw KX G hmg c


theorem PySem.Challenge.cw_wholerebates_k31_whole_prices_that_are_h_holds : PySem.Challenge.rw_wholerebates_k31_whole_prices_that_are_h.Holds := by
  exact G31_head fun ns hl _ => L31.law_ok ns hl
