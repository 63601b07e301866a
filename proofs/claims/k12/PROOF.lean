import PyProof.Rows.All
import Wide.All
import OpenK.AllK
import Wide.FinOn
import KE.KDictZip
import HandS.Zip
import HandS.TupMul
import PyProof.Draws
import KE.GoesMore
import HandS.Dict
import HandS.ForMost
import HandS.Exc
import HandS.TryOnly
import HandS.Wide
import KE.SortData
import HandS.Text
import HandS.Deep
import KE.DataEq
import HandS.Lambda
import HandS.TupAny
import HandS.TupLe
import HandS.Style
import PyProof.Rows.SeqMore
import HandS.IsInst
import HandS.ExcOwn
import HandS.Flow
import HandS.Nested
import HandS.Property
import HandS.Walk
import HandS.WordsExc
import HandS.Star
import HandS.Conv
import KE.DataFind
import HandS.Head0
import HandS.Head1
import HandS.Head2
import HandS.HeadEnd
import HandS.HeadHook1
import HandS.HeadHook2
import HandS.HeadHook4
import HandS.HeadWalk
import HandS.EndTab
import PySem.Challenge.RW_dealtkeys_k12_whole_shares_of_dealings
set_option Elab.async false
set_option linter.all false
set_option maxRecDepth 100000
set_option maxHeartbeats 4000000
/-! Ev, part N1: zip of two things that draw, by loops and by dict(..). -/
namespace EvZip
open PySem PySem.Spec PyProof.Rows L2
/-- the parts of a zip stand apart -/
structure Apart (z TI TO i1 i2 : Addr) (fp1 fp2 : List Addr) : Prop where
  TIz : TI ≠ z
  TOz : TO ≠ z
  TITO : TI ≠ TO
  z1 : z ∉ fp1
  z2 : z ∉ fp2
  I1 : TI ∉ fp1
  I2 : TI ∉ fp2
  O1 : TO ∉ fp1
  O2 : TO ∉ fp2
  m1 : i1 ∈ fp1
  m2 : i2 ∈ fp2
  a12 : i1 ∉ fp2
  a21 : i2 ∉ fp1
section
variable {prog : Program} {w : World} {A : Around} {E : Value → Shared → Prop} {s : Shared} {z TI TO i1 i2 T : Addr} {fp1 fp2 : List Addr} {n1 n2 k1 k2 : Nat} {P1 P2 : Nat → Value → Prop} {St1 St2 : Nat → Heap → Prop} {a b : Value} {f : Bool} {oT : Obj}
theorem ne1 {x y : Addr} {fp : List Addr} (h : x ∉ fp) (m : y ∈ fp) : x ≠ y := fun e => h (e ▸ m)
theorem keepF {it : Addr} {fp : List Addr} {n : Nat} {P : Nat → Value → Prop} {St : Nat → Heap → Prop} (D : Draws prog w A it fp n P St) {k : Nat} {c : Addr} {h h' : Heap} (hc : c ∉ fp) (hs : Heap.SameBut c h h') (st : St k h) : St k h' :=
  D.frame _ _ _ st fun b hb o e => hs.extBut b o (fun q => hc (q ▸ hb)) e
theorem next_item (D1 : Draws prog w A i1 fp1 n1 P1 St1) (D2 : Draws prog w A i2 fp2 n2 P2 St2) (D : Apart z TI TO i1 i2 fp1 fp2) (hz : IsZip s.heap z TI TO .none) (hTI : IsPair s.heap TI (.ref i1) (.ref i2)) (hTO : IsPair s.heap TO a b)
    (st1 : St1 k1 s.heap) (st2 : St2 k2 s.heap) (l1 : k1 < n1) (l2 : k2 < n2) {Q : Value → Shared → Prop}
    (hQ : ∀ x y h' tk, P1 k1 x → P2 k2 y → IsZip h' z TI TO (rawInt s.heap.objs.size) → IsPair h' TO x y → St1 (k1 + 1) h' → St2 (k2 + 1) h' → IsPair h' s.heap.objs.size x y → h'.objs.size = s.heap.objs.size + 1 →
      (∀ c o, c ≠ z → c ≠ TO → c ≠ i1 → c ≠ i2 → s.heap.get? c = some o → h'.get? c = some o) → Q (.ref s.heap.objs.size) { s with heap := h', toks := tk }) :
    wpAny (model prog w) A (Builtin.«zip.__next__» ⟨[.ref z], []⟩) (fun fin s' => ∃ v, fin = .done (.ret v) ∧ Q v s') E s := by
  have i1z : i1 ≠ z := fun e => D.z1 (e ▸ D.m1)
  have i2z : i2 ≠ z := fun e => D.z2 (e ▸ D.m2)
  have i12 : i1 ≠ i2 := fun e => D.a12 (e ▸ D.m2)
  have TOi1 : TO ≠ i1 := fun e => D.O1 (e ▸ D.m1)
  have TOi2 : TO ≠ i2 := fun e => D.O2 (e ▸ D.m2)
  show wpAny _ _ (field (.ref z) 2 >>= _) _ _ _
  refine wpAny_bind (wpAny_field hz rfl (x := .bool false) rfl ?_)
  show wpAny _ _ (field (.ref z) 3 >>= _) _ _ _
  refine wpAny_bind (wpAny_field hz rfl (x := .ref TI) rfl ?_)
  refine wpAny_bind (wpAny_seqItems hTI rfl ?_)
  show wpAny _ _ (Builtin.SmallTypes.ownedTupleIsFree (.ref z) >>= _) _ _ _
  refine wpAny_bind ?_
  unfold Builtin.SmallTypes.ownedTupleIsFree
  refine wpAny_bind (wpAny_field hz rfl (x := .none) rfl (wpAny_pure ?_))
  simp only [if_true]
  refine wpAny_bind (wpAny_rule ?_)
  refine wpAny_bind (wpAny_field hz rfl (x := .ref TO) rfl ?_)
  refine wpAny_bind (wpAny_setField_rec hz (by simp) fun h₁ hz₁ hs₁ => ?_)
  replace hz₁ : IsZip h₁ z TI TO .ellipsis := hz₁
  refine wpAny_bind ?_
  simp only [List.zipIdx_cons, List.zipIdx_nil, List.forIn_cons, List.forIn_nil]
  refine wpAny_bind (wpAny_bind (wpAny_onRaise ?_))
  show wpAny _ _ (Builtin.SmallTypes.nextOf (.ref i1) >>= _) _ _ _
  refine wpAny_bind (D1.item k1 _ _ _ l1 (keepF D1 D.z1 hs₁ st1) fun x h₂ tk p1 st1₂ hs₂ => wpAny_pure ?_)
  have hTO₂ : IsPair h₂ TO a b := hs₂.extBut _ _ TOi1 (hs₁.extBut _ _ D.TOz hTO)
  refine wpAny_bind (wpAny_seqItems hTO₂ rfl ?_)
  refine wpAny_bind (wpAny_updateSeq_pair hTO₂ fun h₃ hTO₃ hs₃ => ?_)
  replace hTO₃ : IsPair h₃ TO x b := hTO₃
  refine wpAny_bind (wpAny_letGo (wpAny_pure ?_))
  refine wpAny_bind (wpAny_bind (wpAny_onRaise ?_))
  show wpAny _ _ (Builtin.SmallTypes.nextOf (.ref i2) >>= _) _ _ _
  refine wpAny_bind (D2.item k2 _ _ _ l2 (keepF D2 D.O2 hs₃ (keepF D2 D.a12 hs₂ (keepF D2 D.z2 hs₁ st2))) fun y h₄ tk2 p2 st2₄ hs₄ => wpAny_pure ?_)
  have hTO₄ : IsPair h₄ TO x b := hs₄.extBut _ _ TOi2 hTO₃
  refine wpAny_bind (wpAny_seqItems hTO₄ rfl ?_)
  refine wpAny_bind (wpAny_updateSeq_pair hTO₄ fun h₅ hTO₅ hs₅ => ?_)
  replace hTO₅ : IsPair h₅ TO x y := hTO₅
  refine wpAny_bind (wpAny_letGo (wpAny_pure (wpAny_pure ?_)))
  refine wpAny_bind (wpAny_seqItems hTO₅ rfl ?_)
  refine wpAny_bind (wpAny_newTuple ?_)
  have hsz : h₅.objs.size = s.heap.objs.size := by rw [hs₅.1, hs₄.1, hs₃.1, hs₂.1, hs₁.1]
  have hz₅ : IsZip h₅ z TI TO .ellipsis := hs₅.extBut _ _ D.TOz.symm (hs₄.extBut _ _ i2z.symm (hs₃.extBut _ _ D.TOz.symm (hs₂.extBut _ _ i1z.symm hz₁)))
  have hk₅ : ∀ c o, c ≠ z → c ≠ TO → c ≠ i1 → c ≠ i2 → s.heap.get? c = some o → h₅.get? c = some o := fun c o c1 c2 c3 c4 e =>
    hs₅.extBut _ _ c2 (hs₄.extBut _ _ c4 (hs₃.extBut _ _ c2 (hs₂.extBut _ _ c3 (hs₁.extBut _ _ c1 e))))
  have h1₅ : St1 (k1 + 1) h₅ := keepF D1 D.O1 hs₅ (keepF D1 D.a21 hs₄ (keepF D1 D.O1 hs₃ st1₂))
  have h2₅ : St2 (k2 + 1) h₅ := keepF D2 D.O2 hs₅ st2₄
  have hzlt : z < h₅.objs.size := Heap.lt_size hz₅
  show wpAny _ _ (Builtin.SmallTypes.ownedTupleHandOut (.ref z) (.ref h₅.objs.size) >>= _) _ _ _
  refine wpAny_bind ?_
  unfold Builtin.SmallTypes.ownedTupleHandOut
  have hz₆ : IsZip (h₅.push { cls := .type "tuple", data := .seq #[x, y] }) z TI TO .ellipsis := Heap.get?_push_of_some _ hz₅
  refine wpAny_bind (wpAny_setField_rec hz₆ (by simp) fun h₇ hz₇ hs₇ => ?_)
  replace hz₇ : IsZip h₇ z TI TO (rawInt h₅.objs.size) := hz₇
  refine wpAny_setField_rec hz₇ (by simp) fun h₈ hz₈ hs₈ => ?_
  replace hz₈ : IsZip h₈ z TI TO (rawInt h₅.objs.size) := hz₈
  have up : ∀ c o, c ≠ z → h₅.get? c = some o → h₈.get? c = some o := fun c o c1 e => hs₈.extBut _ _ c1 (hs₇.extBut _ _ c1 (Heap.get?_push_of_some _ e))
  have hT₈ : IsPair h₈ h₅.objs.size x y := hs₈.extBut _ _ (Nat.ne_of_gt hzlt) (hs₇.extBut _ _ (Nat.ne_of_gt hzlt) (Heap.get?_push_size _ rfl))
  have hz8 : h₈.objs.size = h₅.objs.size + 1 := by rw [hs₈.1, hs₇.1, Heap.size_push]
  rw [hsz] at hz₈ hT₈ hz8
  refine wpAny_pure ⟨_, rfl, ?_⟩
  show Q (.ref h₅.objs.size) _
  rw [hsz]
  exact hQ x y h₈ tk2 p1 p2 hz₈ (up _ _ D.TOz hTO₅) (D1.frame _ _ _ h1₅ fun c hc o e => up c o (fun q => D.z1 (q ▸ hc)) e) (D2.frame _ _ _ h2₅ fun c hc o e => up c o (fun q => D.z2 (q ▸ hc)) e) hT₈ hz8 fun c o c1 c2 c3 c4 e => up c o c1 (hk₅ c o c1 c2 c3 c4 e)
theorem next_end (D1 : Draws prog w A i1 fp1 n1 P1 St1) (D2 : Draws prog w A i2 fp2 n2 P2 St2) (D : Apart z TI TO i1 i2 fp1 fp2) (hz : IsZip s.heap z TI TO .none) (hTI : IsPair s.heap TI (.ref i1) (.ref i2)) (hTO : IsPair s.heap TO a b)
    {k : Nat} (st1 : St1 k s.heap) (st2 : St2 k s.heap) (hend : k = n1 ∧ k ≤ n2 ∨ k < n1 ∧ k = n2) {Q : Fin → Shared → Prop}
    (hE : ∀ h' tk e, (∀ c o, c ≠ z → c ≠ TO → c ≠ i1 → c ≠ i2 → s.heap.get? c = some o → h'.get? c = some o) → (∃ o, h'.get? e = some o ∧ o.cls = .type "StopIteration") → E (.ref e) { s with heap := h', toks := tk }) :
    wpAny (model prog w) A (Builtin.«zip.__next__» ⟨[.ref z], []⟩) Q E s := by
  have i1z : i1 ≠ z := fun e => D.z1 (e ▸ D.m1)
  have i2z : i2 ≠ z := fun e => D.z2 (e ▸ D.m2)
  have i12 : i1 ≠ i2 := fun e => D.a12 (e ▸ D.m2)
  have TOi1 : TO ≠ i1 := fun e => D.O1 (e ▸ D.m1)
  have TOi2 : TO ≠ i2 := fun e => D.O2 (e ▸ D.m2)
  show wpAny _ _ (field (.ref z) 2 >>= _) _ _ _
  refine wpAny_bind (wpAny_field hz rfl (x := .bool false) rfl ?_)
  show wpAny _ _ (field (.ref z) 3 >>= _) _ _ _
  refine wpAny_bind (wpAny_field hz rfl (x := .ref TI) rfl ?_)
  refine wpAny_bind (wpAny_seqItems hTI rfl ?_)
  show wpAny _ _ (Builtin.SmallTypes.ownedTupleIsFree (.ref z) >>= _) _ _ _
  refine wpAny_bind ?_
  unfold Builtin.SmallTypes.ownedTupleIsFree
  refine wpAny_bind (wpAny_field hz rfl (x := .none) rfl (wpAny_pure ?_))
  simp only [if_true]
  refine wpAny_bind (wpAny_rule ?_)
  refine wpAny_bind (wpAny_field hz rfl (x := .ref TO) rfl ?_)
  refine wpAny_bind (wpAny_setField_rec hz (by simp) fun h₁ hz₁ hs₁ => ?_)
  replace hz₁ : IsZip h₁ z TI TO .ellipsis := hz₁
  refine wpAny_bind ?_
  simp only [List.zipIdx_cons, List.zipIdx_nil, List.forIn_cons, List.forIn_nil]
  refine wpAny_bind (wpAny_bind (wpAny_onRaise ?_))
  show wpAny _ _ (Builtin.SmallTypes.nextOf (.ref i1) >>= _) _ _ _
  rcases hend with ⟨rfl, _⟩ | ⟨l1, rfl⟩
  · refine wpAny_bind (D1.done _ _ _ (keepF D1 D.z1 hs₁ st1) fun h₂ e hs₂ he => ?_)
    obtain ⟨oe, hoe, hce⟩ := he
    have hz₂ : IsZip h₂ z TI TO .ellipsis := hs₂ _ _ i1z.symm hz₁
    have hez : e ≠ z := fun x => by subst x; rw [hz₂] at hoe; cases hoe; simp at hce
    refine wpAny_setField_rec hz₂ (by simp) fun h₃ _ hs₃ => hE h₃ _ e (fun c o c1 _ c3 _ x => hs₃.extBut _ _ c1 (hs₂ _ _ c3 (hs₁.extBut _ _ c1 x))) ⟨oe, hs₃.extBut _ _ hez hoe, hce⟩
  · refine wpAny_bind (D1.item k _ _ _ l1 (keepF D1 D.z1 hs₁ st1) fun x h₂ tk p1 st1₂ hs₂ => wpAny_pure ?_)
    have hTO₂ : IsPair h₂ TO a b := hs₂.extBut _ _ TOi1 (hs₁.extBut _ _ D.TOz hTO)
    refine wpAny_bind (wpAny_seqItems hTO₂ rfl ?_)
    refine wpAny_bind (wpAny_updateSeq_pair hTO₂ fun h₃ hTO₃ hs₃ => ?_)
    refine wpAny_bind (wpAny_letGo (wpAny_pure ?_))
    refine wpAny_bind (wpAny_bind (wpAny_onRaise ?_))
    show wpAny _ _ (Builtin.SmallTypes.nextOf (.ref i2) >>= _) _ _ _
    refine wpAny_bind (D2.done _ _ _ (keepF D2 D.O2 hs₃ (keepF D2 D.a12 hs₂ (keepF D2 D.z2 hs₁ st2))) fun h₄ e hs₄ he => ?_)
    obtain ⟨oe, hoe, hce⟩ := he
    have hz₄ : IsZip h₄ z TI TO .ellipsis := hs₄ _ _ i2z.symm (hs₃.extBut _ _ D.TOz.symm (hs₂.extBut _ _ i1z.symm hz₁))
    have hez : e ≠ z := fun x => by subst x; rw [hz₄] at hoe; cases hoe; simp at hce
    refine wpAny_setField_rec hz₄ (by simp) fun h₅ _ hs₅ => hE h₅ _ e (fun c o c1 c2 c3 c4 x => hs₅.extBut _ _ c1 (hs₄ _ _ c4 (hs₃.extBut _ _ c2 (hs₂.extBut _ _ c3 (hs₁.extBut _ _ c1 x))))) ⟨oe, hs₅.extBut _ _ hez hoe, hce⟩
theorem pyNext_item (D1 : Draws prog w A.in1 i1 fp1 n1 P1 St1) (D2 : Draws prog w A.in1 i2 fp2 n2 P2 St2) (D : Apart z TI TO i1 i2 fp1 fp2) (hz : IsZip s.heap z TI TO .none) (hTI : IsPair s.heap TI (.ref i1) (.ref i2)) (hTO : IsPair s.heap TO a b)
    (st1 : St1 k1 s.heap) (st2 : St2 k2 s.heap) (l1 : k1 < n1) (l2 : k2 < n2) {Q : Option Value → Shared → Prop}
    (hQ : ∀ x y h' tk, P1 k1 x → P2 k2 y → IsZip h' z TI TO (rawInt s.heap.objs.size) → IsPair h' TO x y → St1 (k1 + 1) h' → St2 (k2 + 1) h' → IsPair h' s.heap.objs.size x y → h'.objs.size = s.heap.objs.size + 1 →
      (∀ c o, c ≠ z → c ≠ TO → c ≠ i1 → c ≠ i2 → s.heap.get? c = some o → h'.get? c = some o) → Q (some (.ref s.heap.objs.size)) { s with heap := h', toks := tk }) :
    wpAny (model prog w) A (pyNext (.ref z)) Q E s := by
  have hT : s.TypeIs (.ref z) "zip" := ⟨_, hz, rfl⟩
  unfold pyNext
  exact wpAny_bind (wpAny_attempt (wpAny_callSpecial?_slot (name := Str.ofString "__next__") hT F.slot_zip_next
    (wpAny_call_entry F.slot_zip_next hT F.entry_zip_next
      (next_item D1 D2 D hz hTI hTO st1 st2 l1 l2 fun x y h' tk b1 b2 a1 a2 a3 a4 a5 a6 a7 => wpAny_pure (hQ x y h' tk b1 b2 a1 a2 a3 a4 a5 a6 a7)) (F.args_zip_next_1 _))))
theorem pyNext_end (D1 : Draws prog w A.in1 i1 fp1 n1 P1 St1) (D2 : Draws prog w A.in1 i2 fp2 n2 P2 St2) (D : Apart z TI TO i1 i2 fp1 fp2) (hz : IsZip s.heap z TI TO .none) (hTI : IsPair s.heap TI (.ref i1) (.ref i2)) (hTO : IsPair s.heap TO a b)
    {k : Nat} (st1 : St1 k s.heap) (st2 : St2 k s.heap) (hend : k = n1 ∧ k ≤ n2 ∨ k < n1 ∧ k = n2) {Q : Option Value → Shared → Prop}
    (hQ : ∀ h' tk, (∀ c o, c ≠ z → c ≠ TO → c ≠ i1 → c ≠ i2 → s.heap.get? c = some o → h'.get? c = some o) → Q none { s with heap := h', toks := tk }) : wpAny (model prog w) A (pyNext (.ref z)) Q E s := by
  have hT : s.TypeIs (.ref z) "zip" := ⟨_, hz, rfl⟩
  unfold pyNext
  refine wpAny_bind (wpAny_attempt (wpAny_callSpecial?_slot (name := Str.ofString "__next__") hT F.slot_zip_next
    (wpAny_call_entry F.slot_zip_next hT F.entry_zip_next (next_end D1 D2 D hz hTI hTO st1 st2 hend fun h' tk e hk he => ?_) (F.args_zip_next_1 _))))
  obtain ⟨o, ho, hc⟩ := he
  refine wpAny_bind (wpAny_isInstance (T := "StopIteration") (b := true) ⟨o, ho, hc⟩ isSubtype_stop ?_)
  exact wpAny_pure (hQ _ _ hk)
end
end EvZip
set_option Elab.async false
set_option linter.all false
set_option maxRecDepth 100000
set_option maxHeartbeats 4000000
/-! Ev, part N2: zip of a list or tuple with a list or tuple. -/
namespace EvZip
open PySem PySem.Spec PyProof.Rows L2
/-- a tuple (t), a list -/
def SQ (t : Bool) (h : Heap) (a : Addr) (its : Array Value) : Prop := if t = true then h.IsTuple a its else h.IsList a its
def SI (t : Bool) (h : Heap) (it a : Addr) (k : Nat) : Prop := if t = true then h.IsTupleIter it a k else h.IsListIter it a k
def SX (t : Bool) (K : PySem.W.Frag) (H : Hp) (a : Addr) (xs : List V) : Prop := if t = true then SqT K H a xs else SqL K H a xs
def itO (t : Bool) (a : Addr) : Obj := if t = true then { cls := .type "tuple_iterator", data := .fields #[.ref a, .int 0 0] } else { cls := .type "list_iterator", data := .fields #[.ref a, .int 0 0] }
theorem SQ.at {t : Bool} {h h' : Heap} {a : Addr} {its : Array Value} (x : SQ t h a its) (k : ∀ o, h.get? a = some o → h'.get? a = some o) : SQ t h' a its := by
  cases t with
  | true => exact Heap.IsTuple.at x k
  | false => exact Heap.IsList.at x k
theorem SI.at {t : Bool} {h h' : Heap} {it a : Addr} {k : Nat} (x : SI t h it a k) (q : ∀ o, h.get? it = some o → h'.get? it = some o) : SI t h' it a k := by
  cases t with
  | true => exact Heap.IsTupleIter.at x q
  | false => exact Heap.IsListIter.at x q
theorem SQ.ob {t : Bool} {h : Heap} {a : Addr} {its : Array Value} (x : SQ t h a its) : ∃ o, h.get? a = some o := by
  cases t with
  | true => obtain ⟨o, e, _⟩ := (show h.IsTuple a its from x); exact ⟨o, e⟩
  | false => obtain ⟨o, e, _⟩ := (show h.IsList a its from x); exact ⟨o, e⟩
theorem SI.ob {t : Bool} {h : Heap} {it a : Addr} {k : Nat} (x : SI t h it a k) : ∃ o, h.get? it = some o ∧ ∀ v, o.data ≠ .cell v := by
  cases t with
  | true => obtain ⟨o, e, _, d⟩ := (show h.IsTupleIter it a k from x); exact ⟨o, e, fun v q => by rw [d] at q; cases q⟩
  | false => obtain ⟨o, e, _, d⟩ := (show h.IsListIter it a k from x); exact ⟨o, e, fun v q => by rw [d] at q; cases q⟩
theorem draws {prog : Program} {w : World} {A : Around} (t : Bool) (hh : A.handled = none) (it a : Addr) (hne : a ≠ it) (its : Array Value) :
    Draws prog w A it [it, a] its.size (fun i v => its[i]? = some v) (fun i h => SI t h it a i ∧ SQ t h a its) := by
  cases t with
  | true => exact Draws.tuple hh it a hne its
  | false => exact Draws.list hh it a hne its
theorem begins (t : Bool) (a : Addr) (its : Array Value) : Begins (.ref a) (itO t a) fun h => SQ t h a its := by
  cases t with
  | true => exact begins_tuple a its
  | false => exact begins_list a its
theorem itO_is (t : Bool) {h : Heap} {it a : Addr} (e : h.get? it = some (itO t a)) : SI t h it a 0 := by
  cases t with
  | true => exact ⟨_, e, rfl, rfl⟩
  | false => exact ⟨_, e, rfl, rfl⟩
theorem apart {z TI TO i1 i2 a b : Addr} (D : ZipApart z TI TO i1 i2 a b) (aI : a ≠ TI) (bI : b ≠ TI) : Apart z TI TO i1 i2 [i1, a] [i2, b] where
  TIz := D.TIz
  TOz := D.TOz
  TITO := D.TITO
  z1 := by simp [Ne.symm D.i1z, Ne.symm D.l1z]
  z2 := by simp [Ne.symm D.i2z, Ne.symm D.l2z]
  I1 := by simp [D.TIi1, Ne.symm aI]
  I2 := by simp [D.TIi2, Ne.symm bI]
  O1 := by simp [D.TOi1, Ne.symm D.l1TO]
  O2 := by simp [D.TOi2, Ne.symm D.l2TO]
  m1 := by simp
  m2 := by simp
  a12 := by simp [D.i12, Ne.symm D.l2i1]
  a21 := by simp [Ne.symm D.i12, Ne.symm D.l1i2]
def ItzX (K : PySem.W.Frag) (t u : Bool) (a b : Addr) : It :=
  ⟨fun i H => ∃ (xs ys : List V) (x y : V), SX t K H a xs ∧ SX u K H b ys ∧ xs[i]? = some x ∧ ys[i]? = some y,
    fun i H v H' => ∃ T x y, v = .ref T ∧ H T = none ∧ H' = upd H T (.tup [x, y]) ∧ (∀ xs, SX t K H a xs → xs[i]? = some x) ∧ ∀ ys, SX u K H b ys → ys[i]? = some y,
    fun i H => ∃ xs ys : List V, SX t K H a xs ∧ SX u K H b ys ∧ i = min xs.length ys.length⟩
section
variable {X : Cx} {pins : List (Addr × Obj)} {σ : L2.St} {H : Hp} {s : Shared}
theorem sx_get (I : Inv X pins σ H s) {t : Bool} {a : Addr} {xs : List V} (h : SX t X.K H a xs) : ∃ its, Vals xs its ∧ SQ t s.heap a its.toArray ∧ a < s.heap.objs.size := by
  cases t with
  | true =>
    obtain ⟨its, rv, p, _⟩ := I.tuple (show SqT X.K H a xs from h)
    obtain ⟨o, e, _⟩ := id p
    exact ⟨its, rv, p, Heap.lt_size e⟩
  | false =>
    obtain ⟨its, rv, p, _⟩ := I.list (show SqL X.K H a xs from h)
    exact ⟨its, rv, p.isList, p.lt⟩
theorem sx_inj (I : Inv X pins σ H s) {t : Bool} {a : Addr} {xs ys : List V} (h : SX t X.K H a xs) (h' : SX t X.K H a ys) : xs = ys := by
  cases t with
  | true => exact I.tuple_inj h h'
  | false => exact I.list_inj h h'
end
theorem turn_zipX {P : Program} {w : World} {K : PySem.W.Frag} {elts : List Expr} {kk : Nat} {tpos : Pos} {t u : Bool} {a b z TI TO i1 i2 : Addr} (D : ZipApart z TI TO i1 i2 a b) (aI : a ≠ TI) (bI : b ≠ TI) :
    Turn P w K (.Tuple elts kk tpos) (ItzX K t u a b) [z, TI, TO, i1, i2] z (fun i h => IsZip h z TI TO .none ∧ IsPair h TI (.ref i1) (.ref i2) ∧ (∃ x y, IsPair h TO x y) ∧ SI t h i1 a i ∧ SI u h i2 b i) where
  mem := by simp
  obj := fun i h st c hc => by
    obtain ⟨hz, hTI, ⟨x, y, hTO⟩, h1, h2⟩ := st
    have e' : c = z ∨ c = TI ∨ c = TO ∨ c = i1 ∨ c = i2 := by simpa using hc
    rcases e' with q | q | q | q | q
    · rw [q]; exact ⟨_, hz, fun v q => nomatch q⟩
    · rw [q]; exact ⟨_, hTI, fun v q => nomatch q⟩
    · rw [q]; exact ⟨_, hTO, fun v q => nomatch q⟩
    · rw [q]; exact h1.ob
    · rw [q]; exact h2.ob
  keep := fun i h h' st k => by
    obtain ⟨hz, hTI, ⟨x, y, hTO⟩, h1, h2⟩ := st
    exact ⟨k z (by simp) _ hz, k TI (by simp) _ hTI, ⟨x, y, k TO (by simp) _ hTO⟩, h1.at fun o q => k i1 (by simp) o q, h2.at fun o q => k i2 (by simp) o q⟩
  item := by
    intro X hP hw hK hc i pins s σ H E I hf st hg
    subst hP hw hK
    obtain ⟨hz, hTI, ⟨x0, y0, hTO⟩, h1, h2⟩ := st
    obtain ⟨xs, ys, x, y, hqx, hqy, hx, hy⟩ := hg
    obtain ⟨its, rv, p, _⟩ := sx_get I hqx
    obtain ⟨its2, rv2, p2, _⟩ := sx_get I hqy
    obtain ⟨u1, hu, ru⟩ := rv.get hx
    obtain ⟨u2, hu2, ru2⟩ := rv2.get hy
    have hzl : z < s.heap.objs.size := Heap.lt_size hz
    have l1 : i < its.toArray.size := by have := (List.getElem?_eq_some_iff.mp hu).1; simpa using this
    have l2 : i < its2.toArray.size := by have := (List.getElem?_eq_some_iff.mp hu2).1; simpa using this
    have hh : X.A.in1.handled = none := I.ok.hd hc
    refine pyNext_item (draws t hh i1 a D.l1i1 its.toArray) (draws u hh i2 b D.l2i2 its2.toArray) (apart D aI bI) hz hTI hTO ⟨h1, p⟩ ⟨h2, p2⟩ l1 l2 fun x' y' h' tk p1 p2' z' TO' h1' h2' hT hsz hk => ?_
    have ex : x' = u1 := by
      have p1 : its[i]? = some x' := by simpa using p1
      rw [hu] at p1; exact (Option.some.inj p1).symm
    have ey : y' = u2 := by
      have p2' : its2[i]? = some y' := by simpa using p2'
      rw [hu2] at p2'; exact (Option.some.inj p2').symm
    subst ex ey
    refine ⟨_, rfl, wpAny_letOwnedTupleGo_zip (s := { s with heap := h', toks := tk }) z' fun h'' z'' sb => ?_⟩
    have hT2 : h''.get? s.heap.objs.size = some { cls := .type "tuple", data := .seq #[x', y'] } := (sb.2 _ (Nat.ne_of_gt hzl)).trans hT
    have new : ObjOk X.prog X.w (upd H s.heap.objs.size (.tup [x, y])) h'' s.heap.objs.size (.tup [x, y]) :=
      ⟨by show 2 ≤ sizeLine; decide, [x', y'], .cons ru (.cons ru2 .nil), ⟨_, hT2, rfl, _, rfl⟩⟩
    have I1 : Inv X pins σ (upd H s.heap.objs.size (.tup [x, y])) { s with heap := h'', toks := tk } :=
      I.turnedNew (t' := tk) (ch := [z, TI, TO, i1, i2]) (fun c o hb q => (sb.2 c (fun q' => hb (by simp [q']))).trans (hk c o (fun q' => hb (by simp [q'])) (fun q' => hb (by simp [q'])) (fun q' => hb (by simp [q'])) (fun q' => hb (by simp [q'])) q)) hf (Nat.le_refl _) new
    refine ⟨.ref s.heap.objs.size, _, I1, rfl, ⟨_, x, y, rfl, I.hok.fresh (Nat.le_refl _), rfl, fun l hl => by rw [sx_inj I hl hqx]; exact hx, fun l hl => by rw [sx_inj I hl hqy]; exact hy⟩, ⟨z'', ?_, ⟨x', y', ?_⟩, ?_, ?_⟩, fun c hcm => ?_⟩
    · exact (sb.2 _ D.TIz).trans (hk _ _ D.TIz D.TITO D.TIi1 D.TIi2 hTI)
    · exact (sb.2 _ D.TOz).trans TO'
    · exact h1'.1.at fun o q => (sb.2 _ D.i1z).trans q
    · exact h2'.1.at fun o q => (sb.2 _ D.i2z).trans q
    · have hlt : c < s.heap.objs.size := by
        have e' : c = z ∨ c = TI ∨ c = TO ∨ c = i1 ∨ c = i2 := by simpa using hcm
        rcases e' with q | q | q | q | q
        · rw [q]; exact hzl
        · rw [q]; exact Heap.lt_size hTI
        · rw [q]; exact Heap.lt_size hTO
        · rw [q]; obtain ⟨_, e1, _⟩ := h1.ob; exact Heap.lt_size e1
        · rw [q]; obtain ⟨_, e2, _⟩ := h2.ob; exact Heap.lt_size e2
      rw [upd_ne (Nat.ne_of_lt hlt)]
      exact (hf c hcm).1
  done := by
    intro X hP hw hK hc i pins s σ H E I hf st hg
    subst hP hw hK
    obtain ⟨hz, hTI, ⟨x0, y0, hTO⟩, h1, h2⟩ := st
    obtain ⟨xs, ys, hqx, hqy, hend⟩ := hg
    obtain ⟨its, rv, p, _⟩ := sx_get I hqx
    obtain ⟨its2, rv2, p2, _⟩ := sx_get I hqy
    have l1 := rv.length
    have l2 := rv2.length
    have hh : X.A.in1.handled = none := I.ok.hd hc
    refine pyNext_end (k := i) (draws t hh i1 a D.l1i1 its.toArray) (draws u hh i2 b D.l2i2 its2.toArray) (apart D aI bI) hz hTI hTO ⟨h1, p⟩ ⟨h2, p2⟩ (by simp; omega) fun h' tk hk => ⟨rfl, I.turnedL (t' := tk) (ch := [z, TI, TO, i1, i2]) (fun c o hb q =>
      hk c o (fun q' => hb (by simp [q'])) (fun q' => hb (by simp [q'])) (fun q' => hb (by simp [q'])) (fun q' => hb (by simp [q'])) q) hf⟩
  self := fun A i s Q E st h => wpAny_pyIter_zip st.1 h
/-! ### zip(a, b) -/
theorem meets_zip {v1 v2 : Value} {o1 o2 : Obj} {H1 H2 : Heap → Prop} (B1 : Begins v1 o1 H1) (B2 : Begins v2 o2 H2) :
    Meets (Builtin.«zip.__new__» ⟨[.type "zip", v1, v2], []⟩) (fun _ R s => H1 s.heap ∧ H2 s.heap ∧
      R (.ok (.ret (.ref (s.heap.objs.size + 4)))) { s with heap := ((((s.heap.push o1).push o2).push { cls := .type "tuple", data := .seq #[.ref s.heap.objs.size, .ref (s.heap.objs.size + 1)] }).push { cls := .type "tuple", data := .seq #[.none, .none] }).push { cls := .type "zip", data := .fields #[.none, .bool false, .bool false, .ref (s.heap.objs.size + 2), .ref (s.heap.objs.size + 3)] } }) :=
  .of_wp fun prog w A R s h => by
    obtain ⟨hp, g, d, tk, os⟩ := s; obtain ⟨hl1, hl2, h⟩ := h
    have hsub := sub_zip
    have h2' : H2 (hp.push o1) := B2.keeps _ _ hl2 fun b o' e => Heap.get?_push_of_some _ e
    have e1 : (hp.push o1).objs.size = hp.objs.size + 1 := Heap.size_push ..
    have e2 : ((hp.push o1).push o2).objs.size = hp.objs.size + 2 := by rw [Heap.size_push, e1]
    have e3 : (((hp.push o1).push o2).push { cls := .type "tuple", data := .seq #[.ref hp.objs.size, .ref (hp.objs.size + 1)] }).objs.size = hp.objs.size + 3 := by rw [Heap.size_push, e2]
    have e4 : ((((hp.push o1).push o2).push { cls := .type "tuple", data := .seq #[.ref hp.objs.size, .ref (hp.objs.size + 1)] }).push { cls := .type "tuple", data := .seq #[.none, .none] }).objs.size = hp.objs.size + 4 := by rw [Heap.size_push, e3]
    have b1 : ∀ {A' : Around} {E : Value → Shared → Prop} {Q : Value → Shared → Prop}, Q (.ref hp.objs.size) ⟨hp.push o1, g, d, tk, os⟩ → wpAny (model prog w) A' (pyIter v1) Q E ⟨hp, g, d, tk, os⟩ :=
      fun q => B1.iter prog w _ _ ⟨hp, g, d, tk, os⟩ _ hl1 q
    have b2 : ∀ {A' : Around} {E : Value → Shared → Prop} {Q : Value → Shared → Prop}, Q (.ref (hp.objs.size + 1)) ⟨(hp.push o1).push o2, g, d, tk, os⟩ → wpAny (model prog w) A' (pyIter v2) Q E ⟨hp.push o1, g, d, tk, os⟩ :=
      fun q => B2.iter prog w _ _ ⟨hp.push o1, g, d, tk, os⟩ _ h2' (by rw [e1]; exact q)
    wp_walk using b1, b2
    refine ⟨_, rfl, ?_⟩
    have h5 : R (.ok (.ret (.ref ((((hp.push o1).push o2).push { cls := .type "tuple", data := .seq #[.ref hp.objs.size, .ref (hp.objs.size + 1)] }).push { cls := .type "tuple", data := .seq #[.none, .none] }).objs.size)))
        ⟨((((hp.push o1).push o2).push { cls := .type "tuple", data := .seq #[.ref hp.objs.size, .ref (hp.objs.size + 1)] }).push { cls := .type "tuple", data := .seq #[.none, .none] }).push { cls := .type "zip", data := .fields #[.none, .bool false, .bool false, .ref (hp.objs.size + 2), .ref (((hp.push o1).push o2).push { cls := .type "tuple", data := .seq #[.ref hp.objs.size, .ref (hp.objs.size + 1)] }).objs.size] }, g, d, tk, os⟩ := by
      rw [e3, e4]; exact h
    rw [e2]
    exact h5
section
variable {prog : Program} {w : World} {A : Around} {E : Value → Shared → Prop} {s : Shared}
theorem call_zip {t u : Bool} {a b : Addr} {xs ys : Array Value} {Q : Value → Shared → Prop} (hl1 : SQ t s.heap a xs) (hl2 : SQ u s.heap b ys)
    (h : ∀ h', IsZip h' (s.heap.objs.size + 4) (s.heap.objs.size + 2) (s.heap.objs.size + 3) .none → IsPair h' (s.heap.objs.size + 2) (.ref s.heap.objs.size) (.ref (s.heap.objs.size + 1)) →
      IsPair h' (s.heap.objs.size + 3) .none .none → SI t h' s.heap.objs.size a 0 → SI u h' (s.heap.objs.size + 1) b 0 →
      (∀ c o, s.heap.get? c = some o → h'.get? c = some o) → Q (.ref (s.heap.objs.size + 4)) { s with heap := h' }) :
    wpAny (model prog w) A (call (.type "zip") [.ref a, .ref b]) Q E s := by
  refine callType_new F.called_zip (by decide) (F.typeCall_zip_2 _ _) (F.newCall_zip_2 _ _) (fun obj => F.args_object_init_3 obj _ _) F.entry_zip_new (meets_zip (begins t a xs) (begins u b ys)) ⟨hl1, hl2, ?_⟩
  have e1 : (s.heap.push (itO t a)).objs.size = s.heap.objs.size + 1 := Heap.size_push ..
  have e2 : ((s.heap.push (itO t a)).push (itO u b)).objs.size = s.heap.objs.size + 2 := by rw [Heap.size_push, e1]
  have e3 : (((s.heap.push (itO t a)).push (itO u b)).push { cls := .type "tuple", data := .seq #[.ref s.heap.objs.size, .ref (s.heap.objs.size + 1)] }).objs.size = s.heap.objs.size + 3 := by rw [Heap.size_push, e2]
  have e4 : ((((s.heap.push (itO t a)).push (itO u b)).push { cls := .type "tuple", data := .seq #[.ref s.heap.objs.size, .ref (s.heap.objs.size + 1)] }).push { cls := .type "tuple", data := .seq #[.none, .none] }).objs.size = s.heap.objs.size + 4 := by rw [Heap.size_push, e3]
  have g5 := Heap.get?_push_size ((((s.heap.push (itO t a)).push (itO u b)).push { cls := .type "tuple", data := .seq #[.ref s.heap.objs.size, .ref (s.heap.objs.size + 1)] }).push { cls := .type "tuple", data := .seq #[.none, .none] }) (o := { cls := .type "zip", data := .fields #[.none, .bool false, .bool false, .ref (s.heap.objs.size + 2), .ref (s.heap.objs.size + 3)] }) rfl
  rw [e4] at g5
  have g4 := Heap.get?_push_size (((s.heap.push (itO t a)).push (itO u b)).push { cls := .type "tuple", data := .seq #[.ref s.heap.objs.size, .ref (s.heap.objs.size + 1)] }) (o := { cls := .type "tuple", data := .seq #[.none, .none] }) rfl
  rw [e3] at g4
  have g3 := Heap.get?_push_size ((s.heap.push (itO t a)).push (itO u b)) (o := { cls := .type "tuple", data := .seq #[.ref s.heap.objs.size, .ref (s.heap.objs.size + 1)] }) rfl
  rw [e2] at g3
  have g2 := Heap.get?_push_size (s.heap.push (itO t a)) (o := itO u b) (by cases u <;> rfl)
  rw [e1] at g2
  have g1 := Heap.get?_push_size s.heap (o := itO t a) (by cases t <;> rfl)
  refine ⟨⟨_, g5, rfl⟩, h _ g5 (Heap.get?_push_of_some _ (Heap.get?_push_of_some _ g3)) (Heap.get?_push_of_some _ g4) (itO_is t ?_) (itO_is u ?_) fun c o e => ?_⟩
  · exact Heap.get?_push_of_some _ (Heap.get?_push_of_some _ (Heap.get?_push_of_some _ (Heap.get?_push_of_some _ g1)))
  · exact Heap.get?_push_of_some _ (Heap.get?_push_of_some _ (Heap.get?_push_of_some _ g2))
  · exact Heap.get?_push_of_some _ (Heap.get?_push_of_some _ (Heap.get?_push_of_some _ (Heap.get?_push_of_some _ (Heap.get?_push_of_some _ e))))
end
def iZipX (K : PySem.W.Frag) (ta : TA) : TI := fun σ H R => ta σ H fun vs H1 => ∃ t u a b xs ys, vs = [.ref a, .ref b] ∧ SX t K H1 a xs ∧ SX u K H1 b ys ∧ R (ItzX K t u a b) H1
theorem pi_zipX {X : Cx} {e e2 : Expr} {ta : TA} {p pos tpos : Pos} {elts : List Expr} {kk : Nat} (hg : Gl X "zip") (hm : X.mg "zip" = none) (ha : PA X [e, e2] ta)
    (hs : starEach [e, e2] X.env = (false, eval e X.env) :: starEach [e2] X.env := by rfl) (hpl : (backTo pos (starEach [e2] X.env)).any (·.1) = false := by rfl) :
    PI X (.Tuple elts kk tpos) (.Call (.Name "zip" p) [e, e2] [] pos) (iZipX X.K ta) := by
  refine ⟨fun pins s σ H R I h => ?_⟩
  refine Call_ (ld_blt I hg hm PyProof.Rows.boot_zip (PyProof.Rows.callWith_type1 (thn (ha.run pos pins s σ H _ I h) fun us s1 ⟨vs, H1, I1, r1, q1⟩ => ?_) hs hpl))
  obtain ⟨t, u, a, b, xs, ys, ex, hqx, hqy, q⟩ := q1
  subst ex
  cases r1 with
  | cons r rr =>
    cases rr with
    | cons r' rr =>
      cases rr
      cases r
      cases r'
      have fresh5 : ∀ c, c ∈ [s1.heap.objs.size + 4, s1.heap.objs.size + 2, s1.heap.objs.size + 3, s1.heap.objs.size, s1.heap.objs.size + 1] → FpOk X pins H1 c := fun c hcm => by
        have hle : s1.heap.objs.size ≤ c := by
          simp only [List.mem_cons, List.not_mem_nil, or_false] at hcm
          rcases hcm with z | z | z | z | z <;> rw [z] <;> first | exact Nat.le_add_right _ _ | exact Nat.le_refl _
        exact I1.fpOk hle (I1.hok.fresh hle)
      obtain ⟨its, rv, p1, l1⟩ := sx_get I1 hqx
      obtain ⟨its2, rv2, p2, l2⟩ := sx_get I1 hqy
      refine call_zip p1 p2 fun h' hz hTI hTO h1 h2 hk => wpAny_pyIter_zip hz ?_
      have I2 : Inv X pins σ H1 { s1 with heap := h' } := I1.kept (t' := s1.toks) hk
      exact ⟨s1.heap.objs.size + 4, [s1.heap.objs.size + 4, s1.heap.objs.size + 2, s1.heap.objs.size + 3, s1.heap.objs.size, s1.heap.objs.size + 1], _, _, H1, rfl, I2,
        turn_zipX (PySem.W.ktu_apart s1.heap.objs.size a b l1 l2) (Nat.ne_of_lt (Nat.lt_add_right 2 l1)) (Nat.ne_of_lt (Nat.lt_add_right 2 l2)), ⟨hz, hTI, ⟨_, _, hTO⟩, h1, h2⟩, fresh5, q⟩
end EvZip
set_option Elab.async false
set_option linter.all false
set_option maxRecDepth 100000
set_option maxHeartbeats 4000000
/-! Ev, part N3: dict(zip(a, b)); a tuple once, a tuple not at all. -/
namespace EvZip
open PySem PySem.Spec PyProof.Rows L2
section
variable {prog : Program} {w : World} {A : Around} {E : Value → Shared → Prop} {s : Shared} {z TI TO i1 i2 T : Addr} {fp1 fp2 : List Addr} {n1 n2 k1 k2 : Nat} {P1 P2 : Nat → Value → Prop} {St1 St2 : Nat → Heap → Prop} {a b : Value} {f : Bool} {oT : Obj}
theorem held_item (D1 : Draws prog w A i1 fp1 n1 P1 St1) (D2 : Draws prog w A i2 fp2 n2 P2 St2) (D : Apart z TI TO i1 i2 fp1 fp2) (hz : IsZipHeld s.heap z TI TO T f) (hT : s.heap.get? T = some oT) (hTI : IsPair s.heap TI (.ref i1) (.ref i2))
    (st1 : St1 k1 s.heap) (st2 : St2 k2 s.heap) (l1 : k1 < n1) (l2 : k2 < n2) {Q : Value → Shared → Prop}
    (hQ : ∀ x y h' tk, P1 k1 x → P2 k2 y → IsZipHeld h' z TI TO T true → St1 (k1 + 1) h' → St2 (k2 + 1) h' → IsPair h' s.heap.objs.size x y → h'.objs.size = s.heap.objs.size + 1 →
      (∀ c o, c ≠ z → c ≠ i1 → c ≠ i2 → s.heap.get? c = some o → h'.get? c = some o) → Q (.ref s.heap.objs.size) { s with heap := h', toks := tk }) :
    wpAny (model prog w) A (Builtin.«zip.__next__» ⟨[.ref z], []⟩) (fun fin s' => ∃ v, fin = .done (.ret v) ∧ Q v s') E s := by
  have i1z : i1 ≠ z := fun e => D.z1 (e ▸ D.m1)
  have i2z : i2 ≠ z := fun e => D.z2 (e ▸ D.m2)
  show wpAny _ _ (field (.ref z) 2 >>= _) _ _ _
  refine wpAny_bind (wpAny_field hz rfl (x := .bool false) rfl ?_)
  show wpAny _ _ (field (.ref z) 3 >>= _) _ _ _
  refine wpAny_bind (wpAny_field hz rfl (x := .ref TI) rfl ?_)
  refine wpAny_bind (wpAny_seqItems hTI rfl ?_)
  show wpAny _ _ (Builtin.SmallTypes.ownedTupleIsFree (.ref z) >>= _) _ _ _
  refine wpAny_bind (wpAny_tupleHeld_zip hz hT fun h₁ hz₁ hs₁ => ?_)
  simp only [Bool.false_eq_true, if_false]
  refine wpAny_bind ?_
  rw [← Array.forIn_toList]
  simp only [List.forIn_cons, List.forIn_nil]
  refine wpAny_bind (wpAny_bind (wpAny_holding ?_))
  show wpAny _ _ (Builtin.SmallTypes.nextOf (.ref i1) >>= _) _ _ _
  refine wpAny_bind (D1.item k1 _ _ _ l1 (keepF D1 D.z1 hs₁ st1) fun x h₂ tk p1 st1₂ hs₂ => wpAny_pure ?_)
  refine wpAny_pure ?_
  refine wpAny_bind (wpAny_bind (wpAny_holding ?_))
  show wpAny _ _ (Builtin.SmallTypes.nextOf (.ref i2) >>= _) _ _ _
  refine wpAny_bind (D2.item k2 _ _ _ l2 (keepF D2 D.a12 hs₂ (keepF D2 D.z2 hs₁ st2)) fun y h₃ tk2 p2 st2₃ hs₃ => wpAny_pure ?_)
  refine wpAny_pure (wpAny_pure ?_)
  show wpAny _ _ (newTuple [x, y] >>= _) _ _ _
  refine wpAny_bind (wpAny_newTuple ?_)
  have hsz : h₃.objs.size = s.heap.objs.size := by rw [hs₃.1, hs₂.1, hs₁.1]
  have hz₃ : IsZipHeld h₃ z TI TO T true := hs₃.extBut _ _ i2z.symm (hs₂.extBut _ _ i1z.symm hz₁)
  have hk : ∀ c o, c ≠ z → c ≠ i1 → c ≠ i2 → s.heap.get? c = some o → h₃.get? c = some o := fun c o c1 c2 c3 e => hs₃.extBut _ _ c3 (hs₂.extBut _ _ c2 (hs₁.extBut _ _ c1 e))
  have h1₃ : St1 (k1 + 1) h₃ := keepF D1 D.a21 hs₃ st1₂
  refine wpAny_pure ⟨_, rfl, ?_⟩
  show Q (.ref h₃.objs.size) _
  have hp : IsPair (h₃.push { cls := .type "tuple", data := .seq #[x, y] }) h₃.objs.size x y := Heap.get?_push_size _ rfl
  have hz4 : (h₃.push { cls := .type "tuple", data := .seq #[x, y] }).objs.size = h₃.objs.size + 1 := Heap.size_push ..
  rw [hsz] at hp hz4 ⊢
  exact hQ x y _ tk2 p1 p2 (Heap.get?_push_of_some _ hz₃) (D1.frame _ _ _ h1₃ fun _ _ o e => Heap.get?_push_of_some _ e) (D2.frame _ _ _ st2₃ fun _ _ o e => Heap.get?_push_of_some _ e) hp hz4 fun c o c1 c2 c3 e => Heap.get?_push_of_some _ (hk c o c1 c2 c3 e)
theorem held_end (D1 : Draws prog w A i1 fp1 n1 P1 St1) (D2 : Draws prog w A i2 fp2 n2 P2 St2) (D : Apart z TI TO i1 i2 fp1 fp2) (hz : IsZipHeld s.heap z TI TO T f) (hT : s.heap.get? T = some oT) (hTI : IsPair s.heap TI (.ref i1) (.ref i2))
    {k : Nat} (st1 : St1 k s.heap) (st2 : St2 k s.heap) (hend : k = n1 ∧ k ≤ n2 ∨ k < n1 ∧ k = n2) {Q : Fin → Shared → Prop}
    (hE : ∀ h' tk e, (∀ c o, c ≠ z → c ≠ i1 → c ≠ i2 → s.heap.get? c = some o → h'.get? c = some o) → (∃ o, h'.get? e = some o ∧ o.cls = .type "StopIteration") → E (.ref e) { s with heap := h', toks := tk }) :
    wpAny (model prog w) A (Builtin.«zip.__next__» ⟨[.ref z], []⟩) Q E s := by
  show wpAny _ _ (field (.ref z) 2 >>= _) _ _ _
  refine wpAny_bind (wpAny_field hz rfl (x := .bool false) rfl ?_)
  show wpAny _ _ (field (.ref z) 3 >>= _) _ _ _
  refine wpAny_bind (wpAny_field hz rfl (x := .ref TI) rfl ?_)
  refine wpAny_bind (wpAny_seqItems hTI rfl ?_)
  show wpAny _ _ (Builtin.SmallTypes.ownedTupleIsFree (.ref z) >>= _) _ _ _
  refine wpAny_bind (wpAny_tupleHeld_zip hz hT fun h₁ hz₁ hs₁ => ?_)
  simp only [Bool.false_eq_true, if_false]
  refine wpAny_bind ?_
  rw [← Array.forIn_toList]
  simp only [List.forIn_cons, List.forIn_nil]
  refine wpAny_bind (wpAny_bind (wpAny_holding ?_))
  show wpAny _ _ (Builtin.SmallTypes.nextOf (.ref i1) >>= _) _ _ _
  rcases hend with ⟨rfl, _⟩ | ⟨l1, rfl⟩
  · refine wpAny_bind (D1.done _ _ _ (keepF D1 D.z1 hs₁ st1) fun h₂ e hs₂ he => ?_)
    exact hE h₂ _ e (fun c o c1 c2 _ x => hs₂ _ _ c2 (hs₁.extBut _ _ c1 x)) he
  · refine wpAny_bind (D1.item k _ _ _ l1 (keepF D1 D.z1 hs₁ st1) fun x h₂ tk p1 st1₂ hs₂ => wpAny_pure ?_)
    refine wpAny_pure ?_
    refine wpAny_bind (wpAny_bind (wpAny_holding ?_))
    show wpAny _ _ (Builtin.SmallTypes.nextOf (.ref i2) >>= _) _ _ _
    refine wpAny_bind (D2.done _ _ _ (keepF D2 D.a12 hs₂ (keepF D2 D.z2 hs₁ st2)) fun h₃ e hs₃ he => ?_)
    exact hE h₃ _ e (fun c o c1 c2 c3 x => hs₃ _ _ c3 (hs₂.extBut _ _ c2 (hs₁.extBut _ _ c1 x))) he
theorem pyHeld_item (D1 : Draws prog w A.in1 i1 fp1 n1 P1 St1) (D2 : Draws prog w A.in1 i2 fp2 n2 P2 St2) (D : Apart z TI TO i1 i2 fp1 fp2) (hz : IsZipHeld s.heap z TI TO T f) (hT : s.heap.get? T = some oT) (hTI : IsPair s.heap TI (.ref i1) (.ref i2))
    (st1 : St1 k1 s.heap) (st2 : St2 k2 s.heap) (l1 : k1 < n1) (l2 : k2 < n2) {Q : Option Value → Shared → Prop}
    (hQ : ∀ x y h' tk, P1 k1 x → P2 k2 y → IsZipHeld h' z TI TO T true → St1 (k1 + 1) h' → St2 (k2 + 1) h' → IsPair h' s.heap.objs.size x y → h'.objs.size = s.heap.objs.size + 1 →
      (∀ c o, c ≠ z → c ≠ i1 → c ≠ i2 → s.heap.get? c = some o → h'.get? c = some o) → Q (some (.ref s.heap.objs.size)) { s with heap := h', toks := tk }) :
    wpAny (model prog w) A (pyNext (.ref z)) Q E s := by
  have hTy : s.TypeIs (.ref z) "zip" := ⟨_, hz, rfl⟩
  unfold pyNext
  exact wpAny_bind (wpAny_attempt (wpAny_callSpecial?_slot (name := Str.ofString "__next__") hTy F.slot_zip_next
    (wpAny_call_entry F.slot_zip_next hTy F.entry_zip_next
      (held_item D1 D2 D hz hT hTI st1 st2 l1 l2 fun x y h' tk b1 b2 a1 a3 a4 a5 a6 a7 => wpAny_pure (hQ x y h' tk b1 b2 a1 a3 a4 a5 a6 a7)) (F.args_zip_next_1 _))))
theorem pyHeld_end (D1 : Draws prog w A.in1 i1 fp1 n1 P1 St1) (D2 : Draws prog w A.in1 i2 fp2 n2 P2 St2) (D : Apart z TI TO i1 i2 fp1 fp2) (hz : IsZipHeld s.heap z TI TO T f) (hT : s.heap.get? T = some oT) (hTI : IsPair s.heap TI (.ref i1) (.ref i2))
    {k : Nat} (st1 : St1 k s.heap) (st2 : St2 k s.heap) (hend : k = n1 ∧ k ≤ n2 ∨ k < n1 ∧ k = n2) {Q : Option Value → Shared → Prop}
    (hQ : ∀ h' tk, (∀ c o, c ≠ z → c ≠ i1 → c ≠ i2 → s.heap.get? c = some o → h'.get? c = some o) → Q none { s with heap := h', toks := tk }) : wpAny (model prog w) A (pyNext (.ref z)) Q E s := by
  have hTy : s.TypeIs (.ref z) "zip" := ⟨_, hz, rfl⟩
  unfold pyNext
  refine wpAny_bind (wpAny_attempt (wpAny_callSpecial?_slot (name := Str.ofString "__next__") hTy F.slot_zip_next
    (wpAny_call_entry F.slot_zip_next hTy F.entry_zip_next (held_end D1 D2 D hz hT hTI st1 st2 hend fun h' tk e hk he => ?_) (F.args_zip_next_1 _))))
  obtain ⟨o, ho, hc⟩ := he
  refine wpAny_bind (wpAny_isInstance (T := "StopIteration") (b := true) ⟨o, ho, hc⟩ isSubtype_stop ?_)
  exact wpAny_pure (hQ _ _ hk)
end
theorem pairArg {prog : Program} {w : World} (t u : Bool) (z TI TO i1 i2 l1 l2 : Addr) (D : ZipApart z TI TO i1 i2 l1 l2) (aI : l1 ≠ TI) (bI : l2 ≠ TI) (xs ys : Array Value) :
    PairArg prog w "zip" z [z, TI, TO, i1, i2, l1, l2] [z, TO, i1, i2] (min xs.size ys.size) (fun i k v => xs[i]? = some k ∧ ys[i]? = some v)
      (fun h => IsZip h z TI TO .none ∧ IsPair h TI (.ref i1) (.ref i2) ∧ (∃ a b, IsPair h TO a b) ∧ SI t h i1 l1 0 ∧ SI u h i2 l2 0 ∧ SQ t h l1 xs ∧ SQ u h l2 ys) where
  type := fun s ok => ⟨_, ok.1, rfl⟩
  notDict := by decide
  keep := fun h h' ok hk => by
    obtain ⟨hz, hTI, ⟨a, b, hTO⟩, h1, h2, hl1, hl2⟩ := ok
    exact ⟨hk _ _ hz, hk _ _ hTI, ⟨a, b, hk _ _ hTO⟩, h1.at fun o e => hk _ o e, h2.at fun o e => hk _ o e, hl1.at fun o e => hk _ o e, hl2.at fun o e => hk _ o e⟩
  there := fun h ok b hb => by
    obtain ⟨hz, hTI, ⟨a, c, hTO⟩, h1, h2, hl1, hl2⟩ := ok
    simp only [List.mem_cons, List.not_mem_nil, or_false] at hb
    rcases hb with rfl | rfl | rfl | rfl | rfl | rfl | rfl
    · exact ⟨_, hz⟩
    · exact ⟨_, hTI⟩
    · exact ⟨_, hTO⟩
    · exact let ⟨o, e, _⟩ := h1.ob; ⟨o, e⟩
    · exact let ⟨o, e, _⟩ := h2.ob; ⟨o, e⟩
    · exact hl1.ob
    · exact hl2.ob
  sub := fun b hb => by simp at hb ⊢; rcases hb with rfl | rfl | rfl | rfl <;> simp
  noKeys := fun A s Q E hA ok h => getAttrOr_miss_zip ok.1 rfl rfl rfl zip_no_keys (by decide +kernel) hA h
  iter := fun A s d Q E hA ok hd hdf h => by
    obtain ⟨hz, hTI, ⟨a, b, hTO⟩, h1, h2, hl1, hl2⟩ := ok
    simp only [List.mem_cons, List.not_mem_nil, or_false, not_or] at hdf
    obtain ⟨dz, dTI, dTO, di1, di2, dl1, dl2⟩ := hdf
    have hA1 : A.in1.handled = none := hA
    refine wpAny_pyIter_zip hz (h z [z, TO, i1, i2] (fun i h => IsPair h TI (.ref i1) (.ref i2) ∧ SI t h i1 l1 i ∧ SI u h i2 l2 i ∧ SQ t h l1 xs ∧ SQ u h l2 ys ∧
      ((IsZip h z TI TO .none ∧ ∃ a b, IsPair h TO a b) ∨ ∃ T f oT, IsZipHeld h z TI TO T f ∧ h.get? T = some oT ∧ T ≠ z ∧ T ≠ i1 ∧ T ≠ i2 ∧ T ≠ d)) s.heap s.toks ?_
      ⟨hTI, h1, h2, hl1, hl2, .inl ⟨hz, a, b, hTO⟩⟩ (fun _ _ e => e) fun b hb => .inl hb)
    exact {
      off := fun hm => by
        simp only [List.mem_cons, List.not_mem_nil, or_false] at hm
        rcases hm with e | e | e | e
        · exact dz e
        · exact dTO e
        · exact di1 e
        · exact di2 e
      frame := fun i h₁ h₂ st hk => by
        obtain ⟨hTI, h1, h2, hl1, hl2, hz⟩ := st
        refine ⟨hk _ _ (Ne.symm dTI) hTI, h1.at fun o e => hk _ o (Ne.symm di1) e, h2.at fun o e => hk _ o (Ne.symm di2) e, hl1.at fun o e => hk _ o (Ne.symm dl1) e, hl2.at fun o e => hk _ o (Ne.symm dl2) e, ?_⟩
        rcases hz with ⟨hz, a, b, hTO⟩ | ⟨T, f, oT, hz, hT, r1, r2, r3, r4⟩
        · exact .inl ⟨hk _ _ (Ne.symm dz) hz, a, b, hk _ _ (Ne.symm dTO) hTO⟩
        · exact .inr ⟨T, f, oT, hk _ _ (Ne.symm dz) hz, hk _ _ r4 hT, r1, r2, r3, r4⟩
      item := fun i s₁ Q₁ E₁ hi st hds hQ => by
        obtain ⟨hTI, h1, h2, hl1, hl2, hz⟩ := st
        have hix : i < xs.size := Nat.lt_of_lt_of_le hi (Nat.min_le_left ..)
        have hiy : i < ys.size := Nat.lt_of_lt_of_le hi (Nat.min_le_right ..)
        have lt : ∀ {c o}, s₁.heap.get? c = some o → s₁.heap.objs.size ≠ c := fun e => Nat.ne_of_gt (Heap.lt_size e)
        have n1 : s₁.heap.objs.size ≠ i1 := let ⟨_, e, _⟩ := h1.ob; lt e
        have n2 : s₁.heap.objs.size ≠ i2 := let ⟨_, e, _⟩ := h2.ob; lt e
        rcases hz with ⟨hz, a, b, hTO⟩ | ⟨T, f, oT, hz, hT, r1, r2, r3, r4⟩
        · refine pyNext_item (draws t hA1 i1 l1 D.l1i1 xs) (draws u hA1 i2 l2 D.l2i2 ys) (apart D aI bI) hz hTI hTO ⟨h1, hl1⟩ ⟨h2, hl2⟩ hix hiy fun x y h' tk ex ey a1 a2 a3 a4 a5 a6 hk => ?_
          exact hQ s₁.heap.objs.size _ _ h' tk ⟨ex, ey⟩ (.inl ⟨_, a5, rfl, _, rfl⟩)
            ⟨hk _ _ D.TIz D.TITO D.TIi1 D.TIi2 hTI, a3.1, a4.1, a3.2, a4.2, .inr ⟨s₁.heap.objs.size, false, _, a1, a5, lt hz, n1, n2, Nat.ne_of_gt hds⟩⟩
            fun c o hc e => hk c o (fun x => hc (by simp [x])) (fun x => hc (by simp [x])) (fun x => hc (by simp [x])) (fun x => hc (by simp [x])) e
        · refine pyHeld_item (draws t hA1 i1 l1 D.l1i1 xs) (draws u hA1 i2 l2 D.l2i2 ys) (apart D aI bI) hz hT hTI ⟨h1, hl1⟩ ⟨h2, hl2⟩ hix hiy fun x y h' tk ex ey a1 a3 a4 a5 a6 hk => ?_
          exact hQ s₁.heap.objs.size _ _ h' tk ⟨ex, ey⟩ (.inl ⟨_, a5, rfl, _, rfl⟩)
            ⟨hk _ _ D.TIz D.TIi1 D.TIi2 hTI, a3.1, a4.1, a3.2, a4.2, .inr ⟨T, true, oT, a1, hk _ _ r1 r2 r3 hT, r1, r2, r3, r4⟩⟩
            fun c o hc e => hk c o (fun x => hc (by simp [x])) (fun x => hc (by simp [x])) (fun x => hc (by simp [x])) e
      done := fun s₁ Q₁ E₁ st hQ => by
        obtain ⟨hTI, h1, h2, hl1, hl2, hz⟩ := st
        have hend : min xs.size ys.size = xs.size ∧ min xs.size ys.size ≤ ys.size ∨ min xs.size ys.size < xs.size ∧ min xs.size ys.size = ys.size := by omega
        rcases hz with ⟨hz, a, b, hTO⟩ | ⟨T, f, oT, hz, hT, r1, r2, r3, r4⟩
        · exact pyNext_end (draws t hA1 i1 l1 D.l1i1 xs) (draws u hA1 i2 l2 D.l2i2 ys) (apart D aI bI) hz hTI hTO ⟨h1, hl1⟩ ⟨h2, hl2⟩ hend fun h' tk hk => hQ h' tk fun c o hc e => hk c o (fun x => hc (by simp [x])) (fun x => hc (by simp [x])) (fun x => hc (by simp [x])) (fun x => hc (by simp [x])) e
        · exact pyHeld_end (draws t hA1 i1 l1 D.l1i1 xs) (draws u hA1 i2 l2 D.l2i2 ys) (apart D aI bI) hz hT hTI ⟨h1, hl1⟩ ⟨h2, hl2⟩ hend fun h' tk hk => hQ h' tk fun c o hc e => hk c o (fun x => hc (by simp [x])) (fun x => hc (by simp [x])) (fun x => hc (by simp [x])) e }
/-- the keys by the values -/
def zipK (ks : List Key) (vs : List V) : List (Key × V) := ks.zip vs
theorem kv_zip : ∀ {ks : List Key} {vs : List V} {us ws : List Value}, Vals (ks.map kV) us → Vals vs ws → KV (ks.zip vs) (ks.zip ws)
  | [], _, _, _, _, _ => .nil
  | _ :: _, [], _, _, _, .nil => .nil
  | k :: ks, v :: vs, _, _, r, .cons h t => by
    rw [List.map_cons] at r
    cases r with
    | cons h0 t0 => exact .cons ⟨rfl, h⟩ (kv_zip t0 t)
def tDzip (K : PySem.W.Frag) (ta : TA) : TE := fun σ H Q => ta σ H fun vs H1 => ∃ (t u : Bool) (a b : Addr) (ks : List Key) (ys : List V), vs = [.ref a, .ref b] ∧ SX t K H1 a (ks.map kV) ∧ SX u K H1 b ys ∧ ks.Nodup ∧ ks.length ≤ sizeLine ∧ ∀ p, H1 p = none → Q (.ref p) (upd H1 p (.dK (ks.zip ys)))
theorem nodup_zip {ks : List Key} {α : Type} {ys : List α} (h : ks.Nodup) : ((ks.zip ys).map (·.1)).Nodup := by
  have e : (ks.zip ys).map (·.1) = ks.take ys.length := by
    induction ks generalizing ys with
    | nil => simp
    | cons k ks ih =>
      cases ys with
      | nil => simp
      | cons y ys => simp; simpa using ih (List.nodup_cons.mp h).2
  rw [e]
  exact (List.take_sublist _ _).nodup h
theorem pe_dzip {X : Cx} {e e2 : Expr} {ta : TA} {p q pos pos2 : Pos} (hc : X.calm = true) (hg : Gl X "zip") (hm : X.mg "zip" = none) (hg2 : Gl X "dict") (hm2 : X.mg "dict" = none) (ha : PA X [e, e2] ta)
    (hs : starEach [e, e2] X.env = (false, eval e X.env) :: starEach [e2] X.env) (hpl : (backTo pos2 (starEach [e2] X.env)).any (·.1) = false) :
    PE X (.Call (.Name "dict" p) [.Call (.Name "zip" q) [e, e2] [] pos2] [] pos) (tDzip X.K ta) := by
  refine ⟨fun pins s σ H Q I h => ?_⟩
  refine Call_ (ld_blt I hg2 hm2 boot_dict ?_)
  refine PyProof.Rows.callWith_type1 (PyProof.Rows.args_cons ?_ rfl) rfl rfl
  refine Call_ (ld_blt I hg hm PyProof.Rows.boot_zip (PyProof.Rows.callWith_type1 (thn (ha.run pos2 pins s σ H _ I h) fun us s1 ⟨vs, H1, I1, r1, q1⟩ => ?_) hs hpl))
  obtain ⟨t, u, a, b, ks, ys, ex, hqx, hqy, hnd, hlen, q⟩ := q1
  subst ex
  cases r1 with
  | cons r rr =>
  cases rr with
  | cons r' rr =>
  cases rr
  cases r
  cases r'
  obtain ⟨its, rv, p1, l1⟩ := sx_get I1 hqx
  obtain ⟨its2, rv2, p2, l2⟩ := sx_get I1 hqy
  refine call_zip p1 p2 fun h' hz hTI hTO h1 h2 hk => PyProof.Rows.args_nil ?_
  have D := PySem.W.ktu_apart s1.heap.objs.size a b l1 l2
  have hl1 := rv.length
  rw [List.length_map] at hl1
  refine call_dict_pairs (knd := mixKind X.prog X.w) (kvs := ks.zip its2) (s := { s1 with heap := h' }) (pairArg (prog := X.prog) (w := X.w) t u (s1.heap.objs.size + 4) (s1.heap.objs.size + 2) (s1.heap.objs.size + 3) s1.heap.objs.size (s1.heap.objs.size + 1) a b D (Nat.ne_of_lt (Nat.lt_add_right 2 l1)) (Nat.ne_of_lt (Nat.lt_add_right 2 l2)) its.toArray its2.toArray)
    (I1.ok.hd hc) ⟨hz, hTI, ⟨_, _, hTO⟩, h1, h2, p1.at fun o e => hk _ o e, p2.at fun o e => hk _ o e⟩ ⟨?_, fun i key v hr => ?_⟩ ?_ fun h'' tk dd keep => ?_
  · rw [List.length_zip, hl1]; simp
  · obtain ⟨e1, e2⟩ := hr
    have e1 : its[i]? = some key := by simpa using e1
    have e2 : its2[i]? = some v := by simpa using e2
    have hi : i < ks.length := by rw [hl1]; exact (List.getElem?_eq_some_iff.mp e1).1
    have ek : (ks.map kV)[i]? = some (kV ks[i]) := by rw [List.getElem?_map, List.getElem?_eq_getElem hi]; rfl
    obtain ⟨u2, eu, ru⟩ := rv.get ek
    rw [e1] at eu
    cases eu
    exact ⟨ks[i], by rw [List.getElem?_zip_eq_some]; exact ⟨List.getElem?_eq_getElem hi, e2⟩, kV_is ru⟩
  · simp; omega
  · have em : merged [] (ks.zip its2) = ks.zip its2 := merged_nil_of_nodup _ (nodup_zip hnd)
    rw [em] at dd
    have lt0 : ∀ c o, s1.heap.get? c = some o → h''.get? c = some o := fun c o e => keep c o (fun hm => by
      have hlt := Heap.lt_size e
      simp only [List.mem_cons, List.not_mem_nil, or_false] at hm
      rcases hm with z | z | z | z <;> rw [z] at hlt
      · exact absurd hlt (Nat.not_lt.mpr (Nat.le_add_right _ _))
      · exact absurd hlt (Nat.not_lt.mpr (Nat.le_add_right _ _))
      · exact absurd hlt (Nat.lt_irrefl _)
      · exact absurd hlt (Nat.not_lt.mpr (Nat.le_add_right _ _))) (hk c o e)
    have hsz : s1.heap.objs.size ≤ h'.objs.size := by
      exact Nat.le_trans (Nat.le_add_right _ 4) (Nat.le_of_lt (Heap.lt_size hz))
    exact ⟨.ref h'.objs.size, _, I1.laid (a := h'.objs.size) (o := .dK (ks.zip ys)) (t' := tk) lt0 hsz (dk_new (by rw [List.length_zip]; omega) (beq_eq_false_iff_ne.mpr (Ne.symm (Nat.ne_of_lt (Nat.lt_of_lt_of_le I1.big hsz)))) (kv_zip rv rv2) dd), rfl, q _ (I1.hok.fresh hsz)⟩
/-! ### a tuple once, a tuple not at all -/
theorem tuple_mul1 (l : Addr) (items : Array Value) (n : Nat) (dd : Option Addr) (sl : Array (Option Value)) (u : Tok) :
    Meets (Builtin.«tuple.__mul__» ⟨[.ref l, .int 1 u], []⟩) (fun _ R s => s.heap.get? l = some { cls := .type "tuple", dict := dd, data := .seq items n, slots := sl } ∧ R (.ok (.ret (Value.ref l))) s) :=
  .of_wp fun prog w A R s h => by
    obtain ⟨hp, g, d, tk, os⟩ := s
    obtain ⟨hl, h⟩ := h
    have f1 := AutoSeq1.idx_int
    wp_walk using wpAny_loadPart' hl
    all_goals first | exact ⟨_, rfl, h⟩ | skip
theorem tuple_mul0 (l : Addr) (items : Array Value) (n : Nat) (dd : Option Addr) (sl : Array (Option Value)) (u : Tok) (hne : items.isEmpty = false) :
    Meets (Builtin.«tuple.__mul__» ⟨[.ref l, .int 0 u], []⟩) (fun _ R s => s.heap.get? l = some { cls := .type "tuple", dict := dd, data := .seq items n, slots := sl } ∧
      R (.ok (.ret (Value.ref s.heap.objs.size))) { s with heap := s.heap.push { cls := Value.type "tuple", data := Data.seq #[] }, toks := s.toks }) :=
  .of_wp fun prog w A R s h => by
    obtain ⟨hp, g, d, tk, os⟩ := s
    obtain ⟨hl, h⟩ := h
    have f1 := AutoSeq1.idx_int
    wp_walk using wpAny_loadPart' hl
    all_goals first | exact ⟨_, rfl, h⟩ | skip
section
variable {X : Cx}
def rRepT1 (K : PySem.W.Frag) : R2 := fun x y H Q => ∃ l k xs, x = .ref l ∧ y = .int k ∧ SqT K H l xs ∧ xs ≠ [] ∧ ((k = 1 ∧ Q (.ref l) H) ∨ (k = 0 ∧ ∀ p, H p = none → Q (.ref p) (upd H p (.tup []))))
theorem op_repT1 : OpR X (binaryOp .Mult) (rRepT1 X.K) := by
  intro pins s σ H x y v u Q I rx ry h
  obtain ⟨l, k, xs, rfl, rfl, hT, hne, q⟩ := h
  cases rx
  obtain ⟨t, rfl⟩ := ry
  obtain ⟨its, r, ⟨⟨cls, dd, data, sl⟩, ho, hc, n, hd⟩, hs⟩ := I.tuple hT
  simp only at hc hd
  subst hc hd
  have hle : its.length = xs.length := r.length.symm
  have hi : its.toArray.isEmpty = false := by
    cases its with
    | nil => exact absurd (List.eq_nil_of_length_eq_zero hle.symm) hne
    | cons a b => rfl
  rcases q with ⟨rfl, q⟩ | ⟨rfl, q⟩
  · exact wpAny_binaryOp_repeat_ref (T := "tuple") (U := "int") (by decide) ⟨_, ho, rfl⟩ (fun s' => typeIs_int s' _ t) noFill_tuple_mul F.fills_int_mul F.slot_int_rmul repeat_tuple F.slot_int_index.lookup
      (call_meets F.slot_int_rmul (typeIs_int s _ t) F.entry_int_rmul (F.args_int_rmul_2 _ _) (int_rmul_tuple _ t l its.toArray n dd sl)
        ⟨ho, rfl, ⟨_, ho, rfl⟩, call_meets F.slot_tuple_mul ⟨_, ho, rfl⟩ F.entry_tuple_mul (F.args_tuple_mul_2 _ _) (tuple_mul1 l its.toArray n dd sl t) ⟨ho, ⟨.ref l, H, I, rfl, q⟩⟩⟩)
  · exact wpAny_binaryOp_repeat_ref (T := "tuple") (U := "int") (by decide) ⟨_, ho, rfl⟩ (fun s' => typeIs_int s' _ t) noFill_tuple_mul F.fills_int_mul F.slot_int_rmul repeat_tuple F.slot_int_index.lookup
      (call_meets F.slot_int_rmul (typeIs_int s _ t) F.entry_int_rmul (F.args_int_rmul_2 _ _) (int_rmul_tuple _ t l its.toArray n dd sl)
        ⟨ho, rfl, ⟨_, ho, rfl⟩, call_meets F.slot_tuple_mul ⟨_, ho, rfl⟩ F.entry_tuple_mul (F.args_tuple_mul_2 _ _) (tuple_mul0 l its.toArray n dd sl t hi) ⟨ho,
          ⟨.ref s.heap.objs.size, _, I.laid (t' := s.toks) (o := .tup []) (fun b ob q => Heap.get?_push_of_some _ q) (Nat.le_refl _) ⟨Nat.zero_le _, [], .nil, IsTup.new s.heap #[]⟩, rfl, q _ (I.hok.fresh (Nat.le_refl _))⟩⟩⟩)
end
end EvZip
set_option Elab.async false
set_option linter.all false
/-! Ev, part A: data, the answers' monad, the small syntax, its meaning. -/
namespace Ev
open PySem

/-! ### the small syntax -/
inductive Bo | add | sub | mul | fdiv | mod | pow | band | bor | bxor | shl | shr deriving DecidableEq
inductive Co | eq | ne | lt | le | gt | ge | inn | nin | is | isn deriving DecidableEq
/-- built-in functions, classes called -/
inductive Bl | len | abs | max2 | min2 | max | min | sum | all | any | int | bool | str | tuple | list | sorted | divmod | isinst | set | repr deriving DecidableEq
/-- methods of built-in classes (read) -/
inductive Mt | split | join | upper | replace | index | count | get | items deriving DecidableEq
/-- written constants -/
inductive Ct | non | bl (b : Bool) | int (i : Int) | str (x : Str)
/-- targets -/
inductive Tg | nm (i : Nat) | tp (l : List Tg) | hs (i k : Nat)
mutual
inductive E where
  | var (i : Nat)
  | cst (d : Ct)
  | glb (x : Str)
  | bty (x : Str) (n : String)
  | bop (o : Bo) (a b : E)
  | neg (a : E)
  | cmp (o : Co) (a b : E)
  | cm2 (o o' : Co) (a b c : E)
  | and (a b : E)
  | or (a b : E)
  | not (a : E)
  | ite (c a b : E)
  | tup (es : Es)
  | lst (es : Es)
  | hnew (es : Es)
  | lrng (es : Es)
  | idx (a i : E)
  | sl (a : E) (lo hi : Eo)
  | call (f : Str) (es : Es)
  | call0 (f : Str)
  | callk (f : Str) (es : Es) (ks : List Str) (kes : Es) (pm : List Nat)
  | callv (i : Nat) (es : Es)
  | blt (b : Bl) (es : Es)
  | comp (elt : E) (t : Tg) (it : It) (c : Eo)
  | comp2 (elt : E) (t : Tg) (it : It) (c : Eo) (t2 : Tg) (it2 : It) (c2 : Eo)
  | mth (m : Mt) (a : E) (es : Es)
  | dzip (es : Es)
  | fld (a : E) (c x : Str)
  | prop (a : E) (c x : Str)
  | mk (c : Str) (es : Es)
  | isc (a : E) (c : Str)
  | calll (f : Str) (es : Es) (n : Nat) (b : E) (fv : List Nat) (ex : List Str)
inductive Es where
  | nil
  | cons (e : E) (r : Es)
  | star (e : E) (r : Es)
inductive Eo where
  | no
  | so (e : E)
/-- what is walked -/
inductive It where
  | val (e : E)
  | rng (es : Es)
  | enum (es : Es)
  | zip (es : Es)
end
mutual
inductive S where
  | expr (e : E)
  | ret (e : E)
  | retN
  | set (t : Tg) (e : E)
  | own (i : Nat) (e : E)
  | par (l : List (Nat × Bool)) (es : Es)
  | setitem (i : Nat) (k e : E)
  | append (i : Nat) (e : E)
  | remove (i : Nat) (e : E)
  | apop (i j : Nat) (e : E)
  | ifs (c : E) (a b : Ss)
  | for_ (t : Tg) (it : It) (b : Ss)
  | forw (t : Tg) (i : Nat) (b : Ss)
  | while_ (c : E) (b : Ss)
  | pass
  | brk
  | cont
  | bad
inductive Ss where
  | nil
  | cons (s : S) (r : Ss)
end

/-- data, as an evaluation sees it: lists are values (they never change while they are seen so) -/
inductive D where
  | non
  | bl (b : Bool)
  | int (i : Int)
  | str (x : Str)
  | tup (xs : List D)
  | lst (xs : List D)
  | obj (c : Str) (fs : List (Str × D))
  | set (xs : List D)
  | dic (ks vs : List D)
  | hnd
  | fn (x : Str)
  | ty (n : String)
  | slf
  | clo (n m : Nat) (b : E) (env : List D)
  deriving Inhabited

def Ct.d : Ct → D
  | .non => .non
  | .bl b => .bl b
  | .int i => .int i
  | .str x => .str x

/-- an exception: its class's name, its one field -/
structure Xn where
  cls : Str
  val : Option (Str × D)

/-- what holds behind: of a value, of an exception -/
structure M (α : Type) where
  w : (α → Prop) → (Xn → Prop) → Prop
  mono : ∀ {Q Q' : α → Prop} {R R' : Xn → Prop}, (∀ a, Q a → Q' a) → (∀ x, R x → R' x) → w Q R → w Q' R'

section
variable {α : Type}
def ret (a : α) : M α := ⟨fun Q _ => Q a, fun h _ q => h a q⟩
/-- no answer: nothing is said of it -/
def stuck : M α := ⟨fun _ _ => False, fun _ _ q => q⟩
def thr (x : Xn) : M α := ⟨fun _ R => R x, fun _ h q => h x q⟩
end
namespace M
variable {α β γ : Type}
def bind (m : M α) (f : α → M β) : M β := ⟨fun Q R => m.w (fun a => (f a).w Q R) R, fun h h' q => m.mono (fun a q => (f a).mono h h' q) h' q⟩
/-- any value of which P holds -/
def any (P : α → Prop) : M α := ⟨fun Q _ => ∀ a, P a → Q a, fun h _ q a p => h a (q a p)⟩
/-- what raises counts as no answer -/
def nox (m : M α) : M α := ⟨fun Q _ => m.w Q (fun _ => False), fun h _ q => m.mono h (fun _ z => z) q⟩
/-- what holds is to be shown -/
def must (P : Prop) (m : M α) : M α := ⟨fun Q R => P ∧ m.w Q R, fun h h' q => ⟨q.1, m.mono h h' q.2⟩⟩
def ofO : Option α → M α
  | some a => ret a
  | none => stuck
/-- what is raised, caught by k (none: goes on) -/
def catch_ (m : M α) (k : Xn → Option (M α)) : M α :=
  ⟨fun Q R => m.w Q (fun x => match k x with | some n => n.w Q R | none => R x),
   fun h h' q => m.mono h (fun x q => by
     cases e : k x with
     | none => rw [e] at q; exact h' x q
     | some n => rw [e] at q; exact n.mono h h' q) q⟩
@[ext] theorem ext' {m n : M α} (h : ∀ Q R, m.w Q R = n.w Q R) : m = n := by
  obtain ⟨w, _⟩ := m; obtain ⟨w', _⟩ := n
  have e : w = w' := by funext Q R; exact h Q R
  subst e; rfl
@[simp] theorem ret_bind (a : α) (f : α → M β) : bind (ret a) f = f a := id rfl
@[simp] theorem bind_ret (m : M α) : bind m ret = m := id rfl
@[simp] theorem stuck_bind (f : α → M β) : bind stuck f = stuck := id rfl
@[simp] theorem thr_bind (x : Xn) (f : α → M β) : bind (thr x) f = thr x := id rfl
@[simp] theorem bind_assoc (m : M α) (f : α → M β) (g : β → M γ) : bind (bind m f) g = bind m fun a => bind (f a) g := id rfl
@[simp] theorem nox_ret (a : α) : nox (ret a) = ret a := id rfl
@[simp] theorem ofO_some (a : α) : ofO (some a) = ret a := id rfl
@[simp] theorem ofO_none : ofO (none : Option α) = stuck := id rfl
theorem must_true {P : Prop} (h : P) (m : M α) : must P m = m := ext' fun Q R => by show (P ∧ m.w Q R) = m.w Q R; simp [h]
@[simp] theorem w_ret (a : α) (Q : α → Prop) (R : Xn → Prop) : (ret a).w Q R = Q a := id rfl
@[simp] theorem w_bind (m : M α) (f : α → M β) (Q : β → Prop) (R : Xn → Prop) : (bind m f).w Q R = m.w (fun a => (f a).w Q R) R := id rfl
@[simp] theorem w_must (P : Prop) (m : M α) (Q : α → Prop) (R : Xn → Prop) : (must P m).w Q R = (P ∧ m.w Q R) := id rfl
@[simp] theorem w_nox (m : M α) (Q : α → Prop) (R : Xn → Prop) : (nox m).w Q R = m.w Q (fun _ => False) := id rfl
@[simp] theorem w_any (P : α → Prop) (Q : α → Prop) (R : Xn → Prop) : (any P).w Q R = ∀ a, P a → Q a := id rfl
@[simp] theorem w_stuck (Q : α → Prop) (R : Xn → Prop) : (stuck : M α).w Q R = False := id rfl
@[simp] theorem w_thr (x : Xn) (Q : α → Prop) (R : Xn → Prop) : (thr x : M α).w Q R = R x := id rfl
/-- each of a list, in order -/
def mapM (f : α → M β) : List α → M (List β)
  | [] => ret []
  | a :: l => bind (f a) fun b => bind (mapM f l) fun bs => ret (b :: bs)
@[simp] theorem mapM_nil (f : α → M β) : mapM f [] = ret [] := id rfl
@[simp] theorem mapM_cons (f : α → M β) (a : α) (l : List α) : mapM f (a :: l) = bind (f a) fun b => bind (mapM f l) fun bs => ret (b :: bs) := id rfl
theorem mapM_ret (f : α → M β) (g : α → β) : ∀ {l : List α}, (∀ a ∈ l, f a = ret (g a)) → mapM f l = ret (l.map g)
  | [], _ => rfl
  | a :: l, h => by
    rw [mapM_cons, h a List.mem_cons_self, ret_bind, mapM_ret f g fun b hb => h b (List.mem_cons_of_mem _ hb)] <;> rfl
end M

/-! ### data: kinds, equality -/
namespace D
/-- no list, no object within: nothing that could be another's -/
def flat : D → Bool
  | .non => true
  | .bl _ => true
  | .int _ => true
  | .str _ => true
  | .hnd => true
  | .fn _ => true
  | .ty _ => true
  | .slf => true
  | _ => false
mutual
/-- no list, no object within -/
def nol : D → Bool
  | .tup xs => nolL xs
  | .non => true
  | .bl _ => true
  | .int _ => true
  | .str _ => true
  | .hnd => true
  | .fn _ => true
  | .ty _ => true
  | .slf => true
  | _ => false
def nolL : List D → Bool
  | [] => true
  | x :: xs => nol x && nolL xs
end
mutual
/-- no object within that is being made -/
def nos : D → Bool
  | .tup xs => nosL xs
  | .lst xs => nosL xs
  | .obj _ fs => nosF fs
  | .dic ks vs => nosL ks && nosL vs
  | .slf => false
  | _ => true
def nosL : List D → Bool
  | [] => true
  | x :: xs => nos x && nosL xs
def nosF : List (Str × D) → Bool
  | [] => true
  | (_, x) :: xs => nos x && nosF xs
end
mutual
/-- no lambda within -/
def noc : D → Bool
  | .tup xs => nocL xs
  | .lst xs => nocL xs
  | .obj _ fs => nocF fs
  | .dic ks vs => nocL ks && nocL vs
  | .clo _ _ _ _ => false
  | .slf => false
  | _ => true
def nocL : List D → Bool
  | [] => true
  | x :: xs => noc x && nocL xs
def nocF : List (Str × D) → Bool
  | [] => true
  | (_, x) :: xs => noc x && nocF xs
end
mutual
/-- how deep, none for what is no plain data -/
def dep : D → Option Nat
  | .non => some 0
  | .bl _ => some 0
  | .int _ => some 0
  | .str _ => some 0
  | .tup xs => (depL xs).map (· + 1)
  | .lst xs => (depL xs).map (· + 1)
  | _ => none
def depL : List D → Option Nat
  | [] => some 0
  | x :: xs => match dep x, depL xs with
    | some a, some b => some (max a b)
    | _, _ => none
end
mutual
def toPy : D → PyData
  | .bl b => .bool b
  | .int i => .int i
  | .str x => .str x
  | .tup xs => .tuple (toPyL xs)
  | .lst xs => .list (toPyL xs)
  | _ => .none
def toPyL : List D → List PyData
  | [] => []
  | x :: xs => toPy x :: toPyL xs
end
mutual
/-- == of plain data -/
def eq : D → D → Bool
  | .non, .non => true
  | .bl a, .bl b => a == b
  | .bl a, .int j => (if a then 1 else 0) == j
  | .int i, .bl b => i == (if b then 1 else 0)
  | .int i, .int j => i == j
  | .str x, .str y => x == y
  | .lst xs, .lst ys => eqL xs ys
  | .tup xs, .tup ys => eqL xs ys
  | _, _ => false
def eqL : List D → List D → Bool
  | [], [] => true
  | x :: xs, y :: ys => eq x y && eqL xs ys
  | _, _ => false
end
/-- plain data of at most so many levels -/
class Sh (d : D) (n : Nat) : Prop where
  h : ∃ k, d.dep = some k ∧ k ≤ n
end D
/-- no lambda comes out -/
def Xn.noc (x : Xn) : Bool := match x.val with
  | none => true
  | some p => p.2.noc
def M.noc (m : M D) : M D := ⟨fun Q R => m.w (fun d => d.noc = true ∧ Q d) (fun x => x.noc = true ∧ R x), fun h h' q => m.mono (fun a q => ⟨q.1, h a q.2⟩) (fun a q => ⟨q.1, h' a q.2⟩) q⟩
@[simp] theorem M.noc_ret {d : D} (h : d.noc = true) : M.noc (ret d) = ret d := M.ext' fun Q R => by show (d.noc = true ∧ Q d) = Q d; simp [h]
@[simp] theorem M.w_noc (m : M D) (Q : D → Prop) (R : Xn → Prop) : (M.noc m).w Q R = m.w (fun d => d.noc = true ∧ Q d) (fun x => x.noc = true ∧ R x) := id rfl
end Ev
set_option Elab.async false
set_option linter.all false
/-! Ev, part B: the meaning. -/
namespace Ev
open PySem

abbrev Vw := List (Option D)
def look : Vw → Nat → M D
  | [], _ => stuck
  | some d :: _, 0 => ret d
  | none :: _, 0 => stuck
  | _ :: r, i + 1 => look r i

namespace D
mutual
/-- < of ints, texts, tuples -/
def lt : D → D → Bool
  | .int i, .int j => decide (i < j)
  | .str x, .str y => decide (x.cps.toList < y.cps.toList)
  | .tup xs, .tup ys => ltL xs ys
  | _, _ => false
def ltL : List D → List D → Bool
  | [], [] => false
  | [], _ :: _ => true
  | _ :: _, [] => false
  | x :: xs, y :: ys => if eq x y = true then ltL xs ys else lt x y
end
mutual
/-- they can be compared by <, place by place -/
def cmb : D → D → Bool
  | .int _, .int _ => true
  | .str _, .str _ => true
  | .tup xs, .tup ys => cmbL xs ys
  | _, _ => false
def cmbL : List D → List D → Bool
  | [], _ => true
  | _ :: _, [] => true
  | x :: xs, y :: ys => cmb x y && cmbL xs ys
end
/-- plain data on both sides, not both very deep -/
def eqOk (a b : D) : Prop := ∃ i j, a.dep = some i ∧ b.dep = some j ∧ min i j ≤ 64
/-- the name of a value's type among the built-in ones -/
def tyName : D → Option String
  | .non => some "NoneType"
  | .bl _ => some "bool"
  | .int _ => some "int"
  | .str _ => some "str"
  | .tup _ => some "tuple"
  | .lst _ => some "list"
  | _ => none
/-- whether a built-in type is, or stands under, another one; none where it isn't told -/
def tyIn (t n : String) : Option Bool :=
  if n = "int" then some (t == "int" || t == "bool")
  else if n = "bool" then some (t == "bool")
  else if n = "str" then some (t == "str")
  else if n = "tuple" then some (t == "tuple")
  else if n = "list" then some (t == "list")
  else if n = "dict" then some (t == "dict")
  else none
/-- truth -/
def truth : D → M Bool
  | .non => ret false
  | .bl b => ret b
  | .int i => ret (i != 0)
  | .str x => M.must (x.length ≤ sizeLine) (ret ((x.length : Int) != 0))
  | .tup xs => ret (!xs.isEmpty)
  | .lst xs => ret (!xs.isEmpty)
  | _ => stuck
/-- of a tuple, a list -/
def seq : D → M (List D)
  | .tup xs => ret xs
  | .lst xs => ret xs
  | _ => stuck
def signs (x : Str) : List D := x.cps.toList.map fun c => D.str ⟨#[c]⟩
def iter : D → M (List D)
  | .tup xs => ret xs
  | .lst xs => ret xs
  | .str x => ret (signs x)
  | _ => stuck
def asInts : List D → Option (List Int)
  | [] => some []
  | .int i :: r => (asInts r).map (i :: ·)
  | _ :: _ => none
def asBls : List D → Option (List Bool)
  | [] => some []
  | .bl i :: r => (asBls r).map (i :: ·)
  | _ :: _ => none
def asStrs : List D → Option (List Str)
  | [] => some []
  | .str i :: r => (asStrs r).map (i :: ·)
  | _ :: _ => none
def signIn (z y : Str) : Bool := match z.cps.toList with
  | [c] => y.cps.toList.contains c
  | _ => false
def isIn (x : D) (ys : List D) : Bool := ys.any fun y => eq y x
def cut {α : Type} (xs : List α) (lo hi : Option Int) : List α := List.take (HT.sIx xs.length xs.length hi - HT.sIx xs.length 0 lo) (List.drop (HT.sIx xs.length 0 lo) xs)
end D

/-! ### operators -/
def bopD : Bo → D → D → M D
  | .add, .int i, .int j => ret (.int (i + j))
  | .add, .str x, .str y => M.must (x.length + y.length ≤ sizeLine) (ret (.str (x ++ y)))
  | .add, .tup xs, .tup ys => M.must (xs.length + ys.length ≤ sizeLine) (ret (.tup (xs ++ ys)))
  | .add, .lst xs, .lst ys => M.must (xs.length + ys.length ≤ sizeLine) (ret (.lst (xs ++ ys)))
  | .sub, .int i, .int j => ret (.int (i - j))
  | .mul, .int i, .int j => M.must (i.natAbs < 2 ^ 64 ∨ j.natAbs < 2 ^ 64 ∨ i.natAbs.log2 + j.natAbs.log2 ≤ 900000) (ret (.int (i * j)))
  | .mul, .tup xs, .int k => M.must (xs ≠ [] ∧ 0 ≤ k ∧ k ≤ 1000 ∧ xs.length ≤ 1000) (ret (.tup (List.replicate k.toNat xs).flatten))
  | .fdiv, .int i, .int j => M.must (0 < j ∧ j.natAbs.log2 < 8000) (ret (.int (i / j)))
  | .mod, .int i, .int j => M.must (0 < j) (ret (.int (i % j)))
  | .pow, .int i, .int j => M.must (0 ≤ j ∧ j ≤ 1000000 ∧ i.natAbs < 2 ^ 64) (ret (.int (i ^ j.toNat)))
  | .shl, .int i, .int j => M.must (0 ≤ j ∧ j ≤ 1000000 ∧ i.natAbs < 2 ^ 64) (ret (.int (i * 2 ^ j.toNat)))
  | .shr, .int i, .int j => M.must (0 ≤ j) (ret (.int (i / 2 ^ j.toNat)))
  | .band, .int i, .int j => ret (.int (Builtin.bitAnd i j))
  | .bor, .int i, .int j => ret (.int (Builtin.bitOr i j))
  | .bxor, .int i, .int j => ret (.int (Builtin.bitXor i j))
  | _, _, _ => stuck
def negD : D → M D
  | .int i => ret (.int (-i))
  | _ => stuck
def inD (x : D) : D → M Bool
  | .tup ys => M.must (D.eqOk x (.tup ys)) (ret (D.isIn x ys))
  | .lst ys => M.must (D.eqOk x (.lst ys)) (ret (D.isIn x ys))
  | .str y => match x with
    | .str z => M.must (z.cps.toList.length = 1) (ret (D.signIn z y))
    | _ => stuck
  | _ => stuck
def D.isNon : D → Bool
  | .non => true
  | _ => false
def isD : D → D → M Bool
  | x, .non => ret x.isNon
  | .bl a, .bl b => ret (decide (a = b))
  | _, _ => stuck
/-- a < b -/
def ordD (a b : D) : M Bool := match a, b with
  | .int i, .int j => ret (decide (i < j))
  | .str x, .str y => ret (decide (x.cps.toList < y.cps.toList))
  | .tup xs, .tup ys => M.must (D.eqOk (.tup xs) (.tup ys) ∧ D.cmbL xs ys = true) (ret (D.ltL xs ys))
  | _, _ => stuck
def cmpD : Co → D → D → M D
  | .eq, a, b => M.must (D.eqOk a b) (ret (.bl (D.eq a b)))
  | .ne, a, b => M.must (D.eqOk a b) (ret (.bl (!D.eq a b)))
  | .lt, a, b => M.bind (ordD a b) fun k => ret (.bl k)
  | .gt, a, b => M.bind (ordD b a) fun k => ret (.bl k)
  | .le, a, b => M.bind (ordD b a) fun k => ret (.bl (!k))
  | .ge, a, b => M.bind (ordD a b) fun k => ret (.bl (!k))
  | .inn, a, b => M.bind (inD a b) fun k => ret (.bl k)
  | .nin, a, b => M.bind (inD a b) fun k => ret (.bl (!k))
  | .is, a, b => M.bind (isD a b) fun k => ret (.bl k)
  | .isn, a, b => M.bind (isD a b) fun k => ret (.bl (!k))
def idxD : D → D → M D
  | .tup xs, .int i => M.ofO (L2.atI xs i)
  | .lst xs, .int i => M.ofO (L2.atI xs i)
  | .hnd, .int i => M.must (0 ≤ i ∧ i < 3) (M.any fun d => ∃ n, d = D.int n)
  | .str x, .int i => M.must (x.length ≤ sizeLine) (M.bind (M.ofO (L2.atI x.cps.toList i)) fun c => ret (.str ⟨#[c]⟩))
  | _, _ => stuck
def slD : D → Option Int → Option Int → M D
  | .tup xs, lo, hi => ret (.tup (D.cut xs lo hi))
  | .lst xs, lo, hi => ret (.lst (D.cut xs lo hi))
  | .str x, lo, hi => M.must (x.length ≤ sizeLine) (ret (.str (L2.cutS x lo hi)))
  | _, _, _ => stuck

/-! ### sorting -/
/-- sorted, stable -/
def D.sort (ds : List D) : List D := ds.mergeSort (PySem.W.dataLe false D.toPy)
/-- what can be sorted -/
structure D.SortOk (ds : List D) : Prop where
  al : PySem.W.AllAlike (ds.map D.toPy)
  so : PySem.W.Sortable (ds.map D.toPy)
  len : ds.length ≤ sizeLine
  dp : ∀ d ∈ ds, ∃ i, d.dep = some i ∧ i ≤ 64
/-- where the first item stands that is equal -/
def D.place (x : D) (ys : List D) : Option Nat := ys.findIdx? fun y => D.eq y x
def D.look2 (k : D) : List D → List D → Option D
  | a :: ks, v :: vs => if D.eq a k = true then some v else D.look2 k ks vs
  | _, _ => none
def D.isKey : D → Bool
  | .int _ => true
  | .str _ => true
  | _ => false
/-- keys of one kind, none twice -/
def D.keysOk (ks : List D) : Prop := (ks.all D.isKey = true) ∧ ks.Nodup ∧ ks.length ≤ sizeLine

/-! ### built-in functions -/
def bltD : Bl → List D → M D
  | .len, [.tup xs] => ret (.int xs.length)
  | .len, [.lst xs] => ret (.int xs.length)
  | .len, [.str x] => M.must (x.length ≤ sizeLine) (ret (.int x.length))
  | .abs, [.int i] => ret (.int i.natAbs)
  | .max2, [.int i, .int j] => ret (.int (max i j))
  | .min2, [.int i, .int j] => ret (.int (min i j))
  | .int, [.int i] => ret (.int i)
  | .bool, [.bl b] => ret (.bl b)
  | .bool, [.int i] => ret (.bl (i != 0))
  | .tuple, [.tup xs] => ret (.tup xs)
  | .tuple, [.lst xs] => ret (.tup xs)
  | .list, [.tup xs] => ret (.lst xs)
  | .list, [.lst xs] => ret (.lst xs)
  | .all, [.lst xs] => M.bind (M.ofO (D.asBls xs)) fun bs => ret (.bl (bs.all id))
  | .any, [.lst xs] => M.bind (M.ofO (D.asBls xs)) fun bs => ret (.bl (bs.any id))
  | .sum, [.lst xs] => M.bind (M.ofO (D.asInts xs)) fun ns => ret (.int ns.sum)
  | .divmod, [.int i, .int j] => M.must (0 < j ∧ j < 1073741824) (ret (.tup [.int (i / j), .int (i % j)]))
  | .sorted, [.lst xs] => M.must (D.SortOk xs) (ret (.lst (D.sort xs)))
  | .isinst, [d, .ty n] => M.bind (M.ofO (d.tyName.bind fun t => D.tyIn t n)) fun b => ret (.bl b)
  | _, _ => stuck
def mthD : Mt → D → List D → M D
  | .split, .str x, [.str y] => M.must ((y.length == 0) = false ∧ x.length + 2 ≤ sizeLine) (ret (.lst ((Txt.split x y).map D.str)))
  | .get, .dic ks vs, [k, d] => M.must (k.isKey = true ∧ ks.length = vs.length) (ret ((D.look2 k ks vs).getD d))
  | _, _, _ => stuck
def mtOk : Mt → D → Bool
  | .split, .str _ => true
  | .get, .dic _ _ => true
  | _, _ => false
/-- dict(zip(a, b)) -/
def dzipD : List D → M D
  | [x, y] => M.bind x.seq fun ks => M.bind y.seq fun vs => M.must (D.keysOk ks) (ret (.dic (ks.take vs.length) (vs.take ks.length)))
  | _ => stuck

/-! ### targets -/
mutual
def Tg.vars : Tg → List Nat
  | .nm i => [i]
  | .tp l => Tg.varsL l
  | .hs _ _ => []
def Tg.varsL : List Tg → List Nat
  | [] => []
  | t :: r => t.vars ++ Tg.varsL r
end
def setV : Vw → Nat → D → Vw
  | [], _, _ => []
  | _ :: r, 0, d => some d :: r
  | x :: r, i + 1, d => x :: setV r i d
mutual
def bindT : Tg → D → Vw → Option Vw
  | .nm i, d, v => some (setV v i d)
  | .tp l, .tup xs, v => bindTL l xs v
  | .tp _, _, _ => none
  | .hs _ _, _, _ => none
def bindTL : List Tg → List D → Vw → Option Vw
  | [], [], v => some v
  | t :: r, d :: ds, v => (bindT t d v).bind fun v => bindTL r ds v
  | _, _, _ => none
end
def wipeAt : Vw → Nat → Vw
  | [], _ => []
  | _ :: r, 0 => none :: r
  | x :: r, i + 1 => x :: wipeAt r i
def wipeV (v : Vw) : List Nat → Vw
  | [] => v
  | i :: is => wipeAt (wipeV v is) i
/-- what a lambda captures -/
def caps (v : Vw) : List Nat → Option (List D)
  | [] => some []
  | i :: is => match v[i]?, caps v is with
    | some (some d), some ds => some (d :: ds)
    | _, _ => none

/-! ### what an evaluation asks of the program -/
structure Ora where
  call : Str → List D → M D
  pars : Str → Option (List Str)
  glob : Str → Option D
  clo : Nat → Nat → E → List D → List D → M D
  init : Str → List D → M D
  make : Str → List D → M D
  getp : Str → Str → List D → M D
  prop : Str → Str → D → M D
  wf : Nat
/-- the arguments in the parameters' order -/
def permV {α : Type} (pm : List Nat) (us ws : List α) : List α := pm.filterMap fun i => (us ++ ws)[i]?

/-- a new handle -/
def hnewD : List D → M D
  | [.int _, .int _, .int _] => ret .hnd
  | _ => stuck
/-! ### what range, enumerate, zip give -/
def rngD : List D → M (List D)
  | [.int j] => M.must (-(2 ^ 62) ≤ j ∧ j < 2 ^ 62) (ret ((List.range j.toNat).map fun (k : Nat) => D.int (0 + (k : Int))))
  | [.int i, .int j] => M.must (-(2 ^ 62) ≤ i ∧ i < 2 ^ 62 ∧ -(2 ^ 62) ≤ j ∧ j < 2 ^ 62) (ret ((List.range (j - i).toNat).map fun (k : Nat) => D.int (i + (k : Int))))
  | _ => stuck
def enumD : List D → M (List D)
  | [x] => M.bind x.seq fun xs => ret (xs.zipIdx.map fun p => D.tup [.int p.2, p.1])
  | _ => stuck
def zipD : List D → M (List D)
  | [.tup xs, .tup ys] => ret (List.zipWith (fun a b => D.tup [a, b]) xs ys)
  | [.lst xs, .lst ys] => ret (List.zipWith (fun a b => D.tup [a, b]) xs ys)
  | [.lst xs, .tup ys] => ret (List.zipWith (fun a b => D.tup [a, b]) xs ys)
  | [.tup xs, .lst ys] => ret (List.zipWith (fun a b => D.tup [a, b]) xs ys)
  | _ => stuck
/-- list(range(..)) -/
def lrngM (m : M (List D)) : M (List D) := M.bind m fun ds => M.bind (rngD ds) fun xs => M.must (xs.length ≤ 2 ^ 24) (ret xs)
/-- a comprehension's turn; a comprehension -/
def lcStep (t : Tg) (v : Vw) (mc : Vw → M Bool) (me : Vw → M D) (d : D) : M (Option D) :=
  M.bind (M.ofO (bindT t d (wipeV v t.vars))) fun v' => M.bind (mc v') fun k => if k = true then M.bind (me v') fun x => ret (some x) else ret none
def lcM (t : Tg) (v : Vw) (mi : M (List D)) (mc : Vw → M Bool) (me : Vw → M D) : M (List D) :=
  M.bind mi fun ds => M.must (ds.length ≤ sizeLine) (M.nox (M.bind (M.mapM (lcStep t v mc me) ds) fun os => ret (os.filterMap id)))
def lc2Step (t t2 : Tg) (v : Vw) (mc : Vw → M Bool) (mi2 : Vw → M (List D)) (mc2 : Vw → M Bool) (me : Vw → M D) (d : D) : M (List D) :=
  M.bind (M.ofO (bindT t d (wipeV v (t.vars ++ t2.vars)))) fun v' => M.bind (mc v') fun k => if k = true then M.bind (mi2 v') fun ds2 => M.must (ds2.length ≤ 4096) (M.bind (M.mapM (lcStep t2 v' mc2 me) ds2) fun os => ret (os.filterMap id)) else ret []
def lc2M (t t2 : Tg) (v : Vw) (mi : M (List D)) (mc : Vw → M Bool) (mi2 : Vw → M (List D)) (mc2 : Vw → M Bool) (me : Vw → M D) : M (List D) :=
  M.bind mi fun ds => M.must (ds.length ≤ 4096) (M.nox (M.bind (M.mapM (lc2Step t t2 v mc mi2 mc2 me) ds) fun xss => ret xss.flatten))

/-- an attribute that stands in the object itself -/
def fldD (c x : Str) : D → M D
  | .obj c' fs => if c' = c then M.ofO (fs.lookup x) else stuck
  | _ => stuck
/-- a property -/
def propD (o : Ora) (c x : Str) (d : D) : M D := match d with
  | .obj c' _ => if c' = c then M.nox (o.prop c x d) else stuck
  | _ => stuck
def makeD (o : Ora) (c : Str) (ds : List D) : M D := M.must (D.nosL ds = true) (o.make c ds)
/-- of a class of the program (no class under it) -/
def iscD (c : Str) : D → M D
  | .obj c' _ => if c' = c then ret (.bl true) else stuck
  | .non => ret (.bl false)
  | .bl _ => ret (.bl false)
  | .int _ => ret (.bl false)
  | .str _ => ret (.bl false)
  | .tup _ => ret (.bl false)
  | .lst _ => ret (.bl false)
  | _ => stuck
/-- what a name of ours holds, called -/
def callvM (o : Ora) (ml : M (List D)) : D → M D
  | .clo n m b env => M.bind ml fun xs => o.clo n m b env xs
  | .fn f => if (o.pars f).isSome = true then M.bind ml fun xs => o.call f xs else stuck
  | _ => stuck
section
variable (o : Ora)
mutual
def evE : E → Vw → M D
  | .var i, v => look v i
  | .cst d, _ => ret d.d
  | .glb x, _ => M.ofO (o.glob x)
  | .bty _ n, _ => ret (.ty n)
  | .bop p a b, v => M.bind (evE a v) fun x => M.bind (evE b v) fun y => bopD p x y
  | .neg a, v => M.bind (evE a v) negD
  | .cmp p a b, v => M.bind (evE a v) fun x => M.bind (evE b v) fun y => cmpD p x y
  | .cm2 p q a b c, v => M.bind (evE a v) fun x => M.bind (evE b v) fun y => M.bind (cmpD p x y) fun k => match k with
    | .bl true => M.bind (evE c v) fun z => cmpD q y z
    | .bl false => ret (.bl false)
    | _ => stuck
  | .and a b, v => M.bind (evE a v) fun x => match x with
    | .bl true => evE b v
    | .bl false => ret (.bl false)
    | _ => stuck
  | .or a b, v => M.bind (evE a v) fun x => match x with
    | .bl true => ret (.bl true)
    | .bl false => evE b v
    | _ => stuck
  | .not a, v => M.bind (evE a v) fun x => M.bind x.truth fun k => ret (.bl (!k))
  | .ite c a b, v => M.bind (evE c v) fun x => M.bind x.truth fun k => if k = true then evE a v else evE b v
  | .tup es, v => M.bind (evEs es v) fun xs => M.must (xs.length ≤ sizeLine) (ret (.tup xs))
  | .lst es, v => M.bind (evEs es v) fun xs => M.must (xs.length ≤ sizeLine) (ret (.lst xs))
  | .hnew es, v => M.bind (evEs es v) hnewD
  | .lrng es, v => M.bind (lrngM (evEs es v)) fun ds => ret (.lst ds)
  | .idx a i, v => M.bind (evE a v) fun x => M.bind (evE i v) fun y => idxD x y
  | .sl a lo hi, v => M.bind (evE a v) fun x => M.bind (evO lo v) fun l => M.bind (evO hi v) fun h => slD x l h
  | .call f es, v => M.bind (evEs es v) fun xs => o.call f xs
  | .call0 f, _ => o.call f []
  | .callk f es _ kes pm, v => M.bind (evEs es v) fun xs => M.bind (evEs kes v) fun ys => o.call f (permV pm xs ys)
  | .callv i es, v => M.bind (look v i) (callvM o (evEs es v))
  | .blt b es, v => M.bind (evEs es v) fun xs => bltD b xs
  | .comp e t it c, v => M.bind (lcM t v (evI it v) (fun v => evC c v) (fun v => evE e v)) fun ds => ret (.lst ds)
  | .comp2 e t it c t2 it2 c2, v => M.bind (lc2M t t2 v (evI it v) (fun v => evC c v) (fun v => evI it2 v) (fun v => evC c2 v) (fun v => evE e v)) fun ds => ret (.lst ds)
  | .mth m a es, v => M.bind (evE a v) fun x => M.must (mtOk m x = true) (M.bind (evEs es v) fun xs => mthD m x xs)
  | .dzip es, v => M.bind (evEs es v) dzipD
  | .fld a c x, v => M.bind (evE a v) (fldD c x)
  | .prop a c x, v => M.bind (evE a v) (propD o c x)
  | .mk c es, v => M.bind (evEs es v) (makeD o c)
  | .isc a c, v => M.bind (evE a v) (iscD c)
  | .calll f es n b fv ex, v => M.bind (evEs es v) fun xs => M.bind (M.ofO (caps v fv)) fun env => M.must (D.nosL env = true) (M.noc (o.call f (xs ++ [.clo n ex.length b env])))
def evEs : Es → Vw → M (List D)
  | .nil, _ => ret []
  | .cons e r, v => M.bind (evE e v) fun x => M.bind (evEs r v) fun xs => ret (x :: xs)
  | .star e r, v => M.bind (evE e v) fun x => M.bind x.seq fun ys => M.bind (evEs r v) fun xs => ret (ys ++ xs)
def evO : Eo → Vw → M (Option Int)
  | .no, _ => ret none
  | .so e, v => M.bind (evE e v) fun x => match x with
    | .int i => ret (some i)
    | _ => stuck
/-- a comprehension's test -/
def evC : Eo → Vw → M Bool
  | .no, _ => ret true
  | .so e, v => M.bind (evE e v) D.truth
def evI : It → Vw → M (List D)
  | .val e, v => M.bind (evE e v) D.iter
  | .rng es, v => M.bind (evEs es v) rngD
  | .enum es, v => M.bind (evEs es v) enumD
  | .zip es, v => M.bind (evEs es v) zipD
end
end

/-! ### statements -/
/-- a slot: nothing yet; a value; a list of this def's own that it may still change -/
inductive Sl where
  | no
  | val (d : D)
  | own (xs : List D)
abbrev En := List Sl
/-- what an expression sees, of the own lists those at the slots is -/
def vw (is : List Nat) : Nat → En → Vw
  | _, [] => []
  | k, .no :: r => none :: vw is (k + 1) r
  | k, .val d :: r => some d :: vw is (k + 1) r
  | k, .own xs :: r => (if is.contains k then some (.lst xs) else none) :: vw is (k + 1) r
/-- these own lists will not be changed any more -/
def frz (is : List Nat) : Nat → En → En
  | _, [] => []
  | k, .own xs :: r => (if is.contains k then .val (.lst xs) else .own xs) :: frz is (k + 1) r
  | k, s :: r => s :: frz is (k + 1) r
mutual
def E.vars : E → List Nat
  | .var i => [i]
  | .cst _ => []
  | .glb _ => []
  | .bty _ _ => []
  | .bop _ a b => a.vars ++ b.vars
  | .neg a => a.vars
  | .cmp _ a b => a.vars ++ b.vars
  | .cm2 _ _ a b c => a.vars ++ (b.vars ++ c.vars)
  | .and a b => a.vars ++ b.vars
  | .or a b => a.vars ++ b.vars
  | .not a => a.vars
  | .ite c a b => c.vars ++ (a.vars ++ b.vars)
  | .tup es => es.vars
  | .lst es => es.vars
  | .hnew es => es.vars
  | .lrng es => es.vars
  | .idx a i => a.vars ++ i.vars
  | .sl a lo hi => a.vars ++ (lo.vars ++ hi.vars)
  | .call _ es => es.vars
  | .call0 _ => []
  | .callk _ es _ kes _ => es.vars ++ kes.vars
  | .callv i es => i :: es.vars
  | .blt _ es => es.vars
  | .comp e _ it c => it.vars ++ (e.vars ++ c.vars)
  | .comp2 e _ it c _ it2 c2 => it.vars ++ (it2.vars ++ (e.vars ++ (c.vars ++ c2.vars)))
  | .mth _ a es => a.vars ++ es.vars
  | .dzip es => es.vars
  | .fld a _ _ => a.vars
  | .prop a _ _ => a.vars
  | .mk _ es => es.vars
  | .isc a _ => a.vars
  | .calll _ es _ _ fv _ => es.vars ++ fv
def Es.vars : Es → List Nat
  | .nil => []
  | .cons e r => e.vars ++ r.vars
  | .star e r => e.vars ++ r.vars
def Eo.vars : Eo → List Nat
  | .no => []
  | .so e => e.vars
def It.vars : It → List Nat
  | .val e => e.vars
  | .rng es => es.vars
  | .enum es => es.vars
  | .zip es => es.vars
end
/-- a range leans on no list -/
def It.isRng : It → Bool
  | .rng _ => true
  | _ => false
def setE : En → Nat → Sl → En
  | [], _, _ => []
  | _ :: r, 0, d => d :: r
  | x :: r, i + 1, d => x :: setE r i d
/-- the slot holds a handle -/
def isHnd : En → Nat → Bool
  | [], _ => false
  | .val .hnd :: _, 0 => true
  | _ :: _, 0 => false
  | _ :: r, i + 1 => isHnd r i
def D.isInt : D → Bool
  | .int _ => true
  | _ => false
mutual
def bindS : Tg → D → En → Option En
  | .nm i, d, v => some (setE v i (.val d))
  | .tp l, .tup xs, v => bindSL l xs v
  | .tp _, _, _ => none
  | .hs i k, d, v => if (isHnd v i && (decide (k < 3) && d.isInt)) = true then some v else none
def bindSL : List Tg → List D → En → Option En
  | [], [], v => some v
  | t :: r, d :: ds, v => (bindS t d v).bind fun v => bindSL r ds v
  | _, _, _ => none
end
def own? : En → Nat → M (List D)
  | [], _ => stuck
  | .own xs :: _, 0 => ret xs
  | _ :: _, 0 => stuck
  | _ :: r, i + 1 => own? r i
inductive Fl where
  | nx (ρ : En)
  | rt (d : D)
  | bk (ρ : En)
  | ct (ρ : En)
section
variable (o : Ora)
/-- what makes a new list: its items -/
def evF : E → Vw → M (List D)
  | .lst es, v => M.bind (evEs o es v) fun xs => M.must (xs.length ≤ sizeLine) (ret xs)
  | .comp e t it c, v => lcM t v (evI o it v) (fun v => evC o c v) (fun v => evE o e v)
  | .comp2 e t it c t2 it2 c2, v => lc2M t t2 v (evI o it v) (fun v => evC o c v) (fun v => evI o it2 v) (fun v => evC o c2 v) (fun v => evE o e v)
  | .bop .add a b, v => M.bind (evE o a v) fun x => M.bind (evE o b v) fun y => match x, y with
    | .lst xs, .lst ys => M.must (xs.length + ys.length ≤ sizeLine) (ret (xs ++ ys))
    | _, _ => stuck
  | .bop .mul (.lst es) b, v => M.bind (M.bind (evEs o es v) fun xs => M.must (xs.length ≤ sizeLine) (ret xs)) fun xs => M.bind (evE o b v) fun y => match y with
    | .int k => M.must (0 ≤ k ∧ k ≤ 1000 ∧ xs.length ≤ 1000) (ret (List.replicate k.toNat xs).flatten)
    | _ => stuck
  | .sl a lo hi, v => M.bind (evE o a v) fun x => M.bind (evO o lo v) fun l => M.bind (evO o hi v) fun h => match x with
    | .lst xs => ret (D.cut xs l h)
    | _ => stuck
  | .lrng es, v => lrngM (evEs o es v)
  | .blt .list es, v => M.bind (evEs o es v) fun ds => match ds with
    | [.tup xs] => ret xs
    | [.lst xs] => ret xs
    | _ => stuck
  | _, _ => stuck
/-- an expression within a statement -/
def exE (e : E) (ρ : En) : M (D × En) := M.bind (evE o e (vw e.vars 0 ρ)) fun d => ret (d, if d.nol = true then ρ else frz e.vars 0 ρ)
def exT (e : E) (ρ : En) : M Bool := M.bind (evE o e (vw e.vars 0 ρ)) D.truth
/-- a new list within a statement -/
def exF (e : E) (ρ : En) : M (List D × En) := M.bind (evF o e (vw e.vars 0 ρ)) fun ds => ret (ds, if D.nolL ds = true then ρ else frz e.vars 0 ρ)
/-- the parts of a display, each a value or a new list -/
def exP : List (Nat × Bool) → Es → En → M (List Sl × En)
  | [], .nil, ρ => ret ([], ρ)
  | (_, false) :: l, .cons e es, ρ => M.bind (exE o e ρ) fun p => M.bind (exP l es p.2) fun q => ret (.val p.1 :: q.1, q.2)
  | (_, true) :: l, .cons e es, ρ => M.bind (exF o e ρ) fun p => M.bind (exP l es p.2) fun q => ret (.own p.1 :: q.1, q.2)
  | _, _, _ => stuck
def putS : List (Nat × Bool) → List Sl → En → En
  | (i, _) :: l, s :: r, ρ => putS l r (setE ρ i s)
  | _, _, ρ => ρ
def forL (t : Tg) (body : En → M Fl) : List D → En → M Fl
  | [], ρ => ret (.nx ρ)
  | d :: ds, ρ => M.bind (M.ofO (bindS t d ρ)) fun ρ => M.bind (body ρ) fun f => match f with
    | .nx ρ => forL t body ds ρ
    | .ct ρ => forL t body ds ρ
    | .bk ρ => ret (.nx ρ)
    | .rt d => ret (.rt d)
def whileL (c : En → M Bool) (body : En → M Fl) : Nat → En → M Fl
  | 0, _ => stuck
  | n + 1, ρ => M.bind (c ρ) fun k => if k = true then M.bind (body ρ) fun f => match f with
      | .nx ρ => whileL c body n ρ
      | .ct ρ => whileL c body n ρ
      | .bk ρ => ret (.nx ρ)
      | .rt d => ret (.rt d)
    else ret (.nx ρ)
/-- no slot holds the object that is being made -/
def nosEn : En → Bool
  | [] => true
  | .no :: r => nosEn r
  | .val d :: r => d.nos && nosEn r
  | .own xs :: r => D.nosL xs && nosEn r
def isSlfAt : En → Nat → Bool
  | [], _ => false
  | .val .slf :: _, 0 => true
  | _ :: _, 0 => false
  | _ :: r, i + 1 => isSlfAt r i
/-- behind a walk over an own list -/
def endW (i : Nat) (xs : List D) : Fl → M Fl
  | .nx ρ => if (isSlfAt ρ i && nosEn (setE ρ i .no)) = true then ret (.nx (setE ρ i (.own xs))) else stuck
  | .rt d => M.must (d.nos = true) (ret (.rt d))
  | _ => stuck
/-- pop(n): the item, the rest -/
def popD (xs : List D) (n : Int) : M (D × List D) := M.must (-(2 ^ 63) ≤ n ∧ n < 2 ^ 63) <| M.bind (M.ofO (L2.ixN xs.length n)) fun j => M.bind (M.ofO xs[j]?) fun d => ret (d, xs.eraseIdx j)
mutual
def evS : S → En → M Fl
  | .expr e, ρ => M.bind (exE o e ρ) fun p => ret (.nx p.2)
  | .ret e, ρ => M.bind (exE o e ρ) fun p => ret (.rt p.1)
  | .retN, _ => ret (.rt .non)
  | .set t e, ρ => M.bind (exE o e ρ) fun p => M.bind (M.ofO (bindS t p.1 p.2)) fun ρ => ret (.nx ρ)
  | .own i e, ρ => M.bind (exF o e ρ) fun p => ret (.nx (setE p.2 i (.own p.1)))
  | .par l es, ρ => if (l.all fun p => decide (p.1 < ρ.length)) = true then M.bind (exP o l es ρ) fun p => ret (.nx (putS l p.1 p.2)) else stuck
  | .setitem i k e, ρ => M.bind (exE o e ρ) fun p => M.bind (own? p.2 i) fun _ => M.bind (exE o k p.2) fun q => M.bind (own? q.2 i) fun xs => match q.1 with
    | .int n => M.bind (M.ofO (L2.ixN xs.length n)) fun j => ret (.nx (setE q.2 i (.own (xs.set j p.1))))
    | _ => stuck
  | .append i e, ρ => M.bind (own? ρ i) fun _ => M.bind (exE o e ρ) fun p => M.bind (own? p.2 i) fun xs => M.must (xs.length < sizeLine) (ret (.nx (setE p.2 i (.own (xs ++ [p.1])))))
  | .remove i e, ρ => M.bind (own? ρ i) fun _ => M.bind (exE o e ρ) fun p => M.bind (own? p.2 i) fun xs => M.must (D.eqOk p.1 (.lst xs)) (M.bind (M.ofO (D.place p.1 xs)) fun j => ret (.nx (setE p.2 i (.own (xs.eraseIdx j)))))
  | .apop i j e, ρ => M.bind (own? ρ i) fun _ => M.bind (own? ρ j) fun _ => M.bind (exE o e ρ) fun p => match p.1 with
    | .int n => M.bind (own? p.2 j) fun ys => M.bind (popD ys n) fun q => M.bind (own? (setE p.2 j (.own q.2)) i) fun xs => M.must (xs.length < sizeLine) (ret (.nx (setE (setE p.2 j (.own q.2)) i (.own (xs ++ [q.1])))))
    | _ => stuck
  | .ifs c a b, ρ => M.bind (exT o c ρ) fun k => if k = true then evSs a ρ else evSs b ρ
  | .for_ t it b, ρ => M.bind (evI o it (vw it.vars 0 ρ)) fun ds => forL t (fun ρ => evSs b ρ) ds (if it.isRng = true then ρ else frz it.vars 0 ρ)
  | .forw t i b, ρ => M.bind (own? ρ i) fun xs => M.must (nosEn ρ = true) (M.bind (M.nox (forL t (fun ρ => evSs b ρ) xs (setE ρ i (.val .slf)))) (endW i xs))
  | .while_ c b, ρ => whileL (exT o c) (fun ρ => evSs b ρ) o.wf ρ
  | .pass, ρ => ret (.nx ρ)
  | .brk, ρ => ret (.bk ρ)
  | .cont, ρ => ret (.ct ρ)
  | .bad, _ => stuck
def evSs : Ss → En → M Fl
  | .nil, ρ => ret (.nx ρ)
  | .cons s r, ρ => M.bind (evS s ρ) fun f => match f with
    | .nx ρ => evSs r ρ
    | .rt d => ret (.rt d)
    | .bk ρ => ret (.bk ρ)
    | .ct ρ => ret (.ct ρ)
end
end

/-! ### a program -/
structure Fn where
  ps : List Str
  ns : Nat
  body : Ss
/-- __init__: its statements, then one attribute -/
structure Init where
  ps : List Str
  ns : Nat
  body : Ss
  f : Str
  e : E
structure Prg where
  fns : Str → Option Fn
  inits : Str → Option Init
  gets : Str → Str → Option Fn
  globs : Str → Option D
  wf : Nat
def runFn (o : Ora) (f : Fn) (ds : List D) : M D :=
  if ds.length = f.ps.length then M.bind (evSs o f.body (ds.map .val ++ List.replicate (f.ns - f.ps.length) .no)) fun r => match r with
    | .rt d => ret d
    | .nx _ => ret .non
    | _ => stuck
  else stuck
/-- a lambda's call: its parameters, what it captured -/
def runLam (o : Ora) (n m : Nat) (b : E) (env ds : List D) : M D := if ds.length = n then evE o b ((ds ++ env).map some ++ List.replicate m none) else stuck
/-- the slot of the object that is being made -/
def isSlf : En → Bool
  | .val .slf :: _ => true
  | _ => false
/-- the object made by __init__ -/
def runInit (o : Ora) (c : Str) (I : Init) (ds : List D) : M D :=
  if ds.length = I.ps.length then M.bind (evSs o I.body (.val .slf :: (ds.map .val ++ List.replicate (I.ns - I.ps.length - 1) .no))) fun r => match r with
    | .nx ρ => if isSlf ρ = true then M.bind (exE o I.e ρ) fun p => if isSlf p.2 = true then M.must (p.1.noc = true) (ret (.obj c [(I.f, p.1)])) else stuck else stuck
    | _ => stuck
  else stuck
/-- so many calls deep -/
def Prg.ora (P : Prg) : Nat → Ora
  | 0 => ⟨fun _ _ => stuck, fun f => (P.fns f).map (·.ps), P.globs, fun _ _ _ _ _ => stuck, fun _ _ => stuck, fun _ _ => stuck, fun _ _ _ => stuck, fun _ _ _ => stuck, P.wf⟩
  | n + 1 => ⟨fun f ds => match P.fns f with
      | some fn => runFn (P.ora n) fn ds
      | none => stuck,
    fun f => (P.fns f).map (·.ps), P.globs, runLam (P.ora n), fun c ds => match P.inits c with
      | some I => M.noc (runInit (P.ora n) c I ds)
      | none => stuck, fun c ds => (P.ora n).init c ds, fun c x ds => match P.gets c x with
      | some fn => runFn (P.ora n) fn ds
      | none => stuck, fun c x d => (P.ora n).getp c x [d], P.wf⟩
end Ev
set_option Elab.async false
set_option linter.all false
set_option maxRecDepth 100000
set_option maxHeartbeats 2000000
/-! Ev, part C: how data stands in the heap; the world; readings. -/
namespace Ev
open PySem PySem.Spec PyProof.Rows L2

/-- what is seen as data: the part of the heap that does not change any more; the handles -/
structure Fz where
  F : Hp
  hs : Addr → Prop
  cl : Addr → Nat → Nat → E → List D → Prop
  sf : Addr → Prop

def keyD : Key → D
  | .inl i => .int i
  | .inr x => .str x
/-- a written object -/
def ObjO (a : Addr) (o : Obj) : HO := .ext fun h => h.get? a = some o

mutual
inductive Rep (K : PySem.W.Frag) (mg : Str → Option Value) (z : Fz) : V → D → Prop
  | non : Rep K mg z .non .non
  | bl (b : Bool) : Rep K mg z (.bl b) (.bl b)
  | int (i : Int) : Rep K mg z (.int i) (.int i)
  | str (x : Str) : Rep K mg z (.str x) (.str x)
  | ty (n : String) : Rep K mg z (.ty n) (.ty n)
  | fn {x : Str} {a : Addr} : mg x = some (.ref a) → Rep K mg z (.ref a) (.fn x)
  | hnd {a : Addr} : z.hs a → Rep K mg z (.ref a) .hnd
  | lst {a : Addr} {vs : List V} {ds : List D} : SqL K z.F a vs → RepL K mg z vs ds → Rep K mg z (.ref a) (.lst ds)
  | tup {a : Addr} {vs : List V} {ds : List D} : SqT K z.F a vs → RepL K mg z vs ds → Rep K mg z (.ref a) (.tup ds)
  | obj {a dx C : Addr} {c : Str} {fvs : List (Str × V)} {fs : List (Str × D)} : mg c = some (.ref C) → z.F a = some (.ins C dx fvs) → z.F dx = some (.own a) →
      fvs.map (·.1) = fs.map (·.1) → RepL K mg z (fvs.map (·.2)) (fs.map (·.2)) → Rep K mg z (.ref a) (.obj c fs)
  | dic {a : Addr} {kvs : List (Key × V)} {ks vs : List D} : z.F a = some (.dK kvs) → ks = kvs.map (fun p => keyD p.1) → RepL K mg z (kvs.map (·.2)) vs → Rep K mg z (.ref a) (.dic ks vs)
  | clo {a : Addr} {n m : Nat} {b : E} {env : List D} : z.cl a n m b env → Rep K mg z (.ref a) (.clo n m b env)
  | slf {a : Addr} : z.sf a → Rep K mg z (.ref a) .slf
inductive RepL (K : PySem.W.Frag) (mg : Str → Option Value) (z : Fz) : List V → List D → Prop
  | nil : RepL K mg z [] []
  | cons {v : V} {vs : List V} {d : D} {ds : List D} : Rep K mg z v d → RepL K mg z vs ds → RepL K mg z (v :: vs) (d :: ds)
end

/-- more is seen -/
structure Fz.Le (z z' : Fz) : Prop where
  f : ∀ b o, z.F b = some o → z'.F b = some o
  h : ∀ b, z.hs b → z'.hs b
  c : ∀ a n m b env, z.cl a n m b env → z'.cl a n m b env
  s : ∀ a, z.sf a → z'.sf a
theorem Fz.Le.refl (z : Fz) : z.Le z := ⟨fun _ _ h => h, fun _ h => h, fun _ _ _ _ _ h => h, fun _ h => h⟩
theorem Fz.Le.trans {a b c : Fz} (h : a.Le b) (h' : b.Le c) : a.Le c := ⟨fun x o q => h'.f x o (h.f x o q), fun x q => h'.h x (h.h x q), fun a n m b env q => h'.c a n m b env (h.c a n m b env q), fun a q => h'.s a (h.s a q)⟩

section
variable {K : PySem.W.Frag} {mg : Str → Option Value} {z z' : Fz}
theorem sqL_mono {H H' : Hp} {a : Addr} {vs : List V} (h : ∀ b o, H b = some o → H' b = some o) (q : SqL K H a vs) : SqL K H' a vs := by
  rcases q with (q | ⟨o, q⟩) | q
  · exact .inl (.inl (h _ _ q))
  · exact .inl (.inr ⟨o, h _ _ q⟩)
  · exact .inr q
theorem sqT_mono {H H' : Hp} {a : Addr} {vs : List V} (h : ∀ b o, H b = some o → H' b = some o) (q : SqT K H a vs) : SqT K H' a vs := by
  rcases q with (q | ⟨o, q⟩) | q
  · exact .inl (.inl (h _ _ q))
  · exact .inl (.inr ⟨o, h _ _ q⟩)
  · exact .inr q
mutual
theorem Rep.mono (l : z.Le z') : ∀ (d : D) (v : V), Rep K mg z v d → Rep K mg z' v d
  | .non, _, h => by cases h; exact .non
  | .bl b, _, h => by cases h; exact .bl b
  | .int i, _, h => by cases h; exact .int i
  | .str x, _, h => by cases h; exact .str x
  | .ty n, _, h => by cases h; exact .ty n
  | .fn x, _, h => by cases h with | fn e => exact .fn e
  | .hnd, _, h => by cases h with | hnd e => exact .hnd (l.h _ e)
  | .lst ds, _, h => by cases h with | lst e r => exact .lst (sqL_mono l.f e) (RepL.mono l ds _ r)
  | .tup ds, _, h => by cases h with | tup e r => exact .tup (sqT_mono l.f e) (RepL.mono l ds _ r)
  | .obj c fs, _, h => by cases h with | obj e1 e2 e3 e4 r => exact .obj e1 (l.f _ _ e2) (l.f _ _ e3) e4 (RepF.mono l fs _ r)
  | .set _, _, h => by cases h
  | .dic _ vs, _, h => by cases h with | dic e1 e2 r => exact .dic (l.f _ _ e1) e2 (RepL.mono l vs _ r)
  | .clo _ _ _ _, _, h => by cases h with | clo e => exact .clo (l.c _ _ _ _ _ e)
  | .slf, _, h => by cases h with | slf e => exact .slf (l.s _ e)
theorem RepL.mono (l : z.Le z') : ∀ (ds : List D) (vs : List V), RepL K mg z vs ds → RepL K mg z' vs ds
  | [], _, h => by cases h; exact .nil
  | d :: ds, _, h => by cases h with | cons r rs => exact .cons (Rep.mono l d _ r) (RepL.mono l ds _ rs)
theorem RepF.mono (l : z.Le z') : ∀ (fs : List (Str × D)) (vs : List V), RepL K mg z vs (fs.map (·.2)) → RepL K mg z' vs (fs.map (·.2))
  | [], _, h => by cases h; exact .nil
  | (x, d) :: fs, _, h => by cases h with | cons r rs => exact .cons (Rep.mono l d _ r) (RepF.mono l fs _ rs)
end
theorem RepL.length : ∀ {vs : List V} {ds : List D}, RepL K mg z vs ds → vs.length = ds.length
  | _, _, .nil => rfl
  | _, _, .cons _ r => by rw [List.length_cons, List.length_cons, RepL.length r]
theorem RepL.get : ∀ {vs : List V} {ds : List D} {i : Nat} {v : V}, RepL K mg z vs ds → vs[i]? = some v → ∃ d, ds[i]? = some d ∧ Rep K mg z v d
  | _, _, _, _, .nil, e => by simp at e
  | _, _, 0, _, .cons r _, e => by simp at e; subst e; exact ⟨_, rfl, r⟩
  | _, _, i + 1, _, .cons _ rs, e => by
    obtain ⟨d, h1, h2⟩ := RepL.get (i := i) rs (by simpa using e)
    exact ⟨d, by simpa using h1, h2⟩
theorem RepL.getD : ∀ {vs : List V} {ds : List D} {i : Nat} {d : D}, RepL K mg z vs ds → ds[i]? = some d → ∃ v, vs[i]? = some v ∧ Rep K mg z v d
  | _, _, _, _, .nil, e => by simp at e
  | _, _, 0, _, .cons r _, e => by simp at e; subst e; exact ⟨_, rfl, r⟩
  | _, _, i + 1, _, .cons _ rs, e => by
    obtain ⟨d, h1, h2⟩ := RepL.getD (i := i) rs (by simpa using e)
    exact ⟨d, by simpa using h1, h2⟩
theorem RepL.append : ∀ {vs ws : List V} {ds es : List D}, RepL K mg z vs ds → RepL K mg z ws es → RepL K mg z (vs ++ ws) (ds ++ es)
  | _, _, _, _, .nil, s => s
  | _, _, _, _, .cons r rs, s => .cons r (RepL.append rs s)
theorem RepL.take : ∀ {vs : List V} {ds : List D} (n : Nat), RepL K mg z vs ds → RepL K mg z (vs.take n) (ds.take n)
  | _, _, 0, _ => .nil
  | _, _, _ + 1, .nil => .nil
  | _, _, n + 1, .cons r t => .cons r (RepL.take n t)
theorem RepL.drop : ∀ {vs : List V} {ds : List D} (n : Nat), RepL K mg z vs ds → RepL K mg z (vs.drop n) (ds.drop n)
  | _, _, 0, r => r
  | _, _, _ + 1, .nil => .nil
  | _, _, n + 1, .cons _ t => RepL.drop n t
theorem RepL.set {v : V} {d : D} (r : Rep K mg z v d) : ∀ {vs : List V} {ds : List D} (i : Nat), RepL K mg z vs ds → RepL K mg z (vs.set i v) (ds.set i d)
  | _, _, _, .nil => .nil
  | _, _, 0, .cons _ t => .cons r t
  | _, _, i + 1, .cons q t => .cons q (RepL.set r i t)
theorem RepL.rep {vs : List V} {ds : List D} (r : RepL K mg z vs ds) : ∀ k : Nat, RepL K mg z (List.replicate k vs).flatten (List.replicate k ds).flatten
  | 0 => .nil
  | k + 1 => by
    rw [List.replicate_succ, List.replicate_succ, List.flatten_cons, List.flatten_cons]
    exact r.append (RepL.rep r k)
/-- flat data lean on no list -/
theorem Rep.flat {d : D} {v : V} (f : d.flat = true) (hh : ∀ b, z.hs b → z'.hs b) (hs : ∀ b, z.sf b → z'.sf b) (r : Rep K mg z v d) : Rep K mg z' v d := by
  cases r with
  | non => exact .non
  | bl b => exact .bl b
  | int i => exact .int i
  | str x => exact .str x
  | ty n => exact .ty n
  | fn e => exact .fn e
  | hnd e => exact .hnd (hh _ e)
  | lst _ _ => cases f
  | tup _ _ => cases f
  | obj _ _ _ _ _ => cases f
  | dic _ _ _ => cases f
  | clo _ => cases f
  | slf e => exact .slf (hs _ e)
/-- plain data -/
theorem Rep.dp_all {H : Hp} (fh : ∀ b o, z.F b = some o → H b = some o) : (∀ (d : D) (n : Nat) (v : V), d.dep = some n → Rep K mg z v d → Dp K H v d.toPy ∧ d.toPy.depth = n ∧ d.toPy.plain = true) := by
  intro d
  exact D.rec (motive_1 := fun d => ∀ (n : Nat) (v : V), d.dep = some n → Rep K mg z v d → Dp K H v d.toPy ∧ d.toPy.depth = n ∧ d.toPy.plain = true)
    (motive_2 := fun ds => ∀ (n : Nat) (vs : List V), D.depL ds = some n → RepL K mg z vs ds → DpAll K H vs (D.toPyL ds) ∧ PyData.depthAll (D.toPyL ds) = n ∧ PyData.plainAll (D.toPyL ds) = true)
    (motive_3 := fun _ => True) (motive_4 := fun _ => True)
    (fun n v e r => by cases r; cases e; exact ⟨.non, rfl, rfl⟩)
    (fun b n v e r => by cases r; cases e; exact ⟨.bl b, rfl, rfl⟩)
    (fun i n v e r => by cases r; cases e; exact ⟨.int i, rfl, rfl⟩)
    (fun x n v e r => by cases r; cases e; exact ⟨.str x, rfl, rfl⟩)
    (fun xs ih n v e r => by
      cases r with
      | tup s q =>
        obtain ⟨k, e1, e2⟩ := Option.map_eq_some_iff.mp (show (D.depL xs).map (· + 1) = some n from e)
        obtain ⟨h1, h2, h3⟩ := ih k _ e1 q
        refine ⟨.tup (sqT_mono fh s) h1, ?_, h3⟩
        show PyData.depthAll (D.toPyL xs) + 1 = n
        rw [h2]; exact e2)
    (fun xs ih n v e r => by
      cases r with
      | lst s q =>
        obtain ⟨k, e1, e2⟩ := Option.map_eq_some_iff.mp (show (D.depL xs).map (· + 1) = some n from e)
        obtain ⟨h1, h2, h3⟩ := ih k _ e1 q
        refine ⟨.lst (sqL_mono fh s) h1, ?_, h3⟩
        show PyData.depthAll (D.toPyL xs) + 1 = n
        rw [h2]; exact e2)
    (fun c fs _ n v e r => by cases e)
    (fun xs _ n v e r => by cases e)
    (fun ks vs _ _ n v e r => by cases e)
    (fun n v e r => by cases e)
    (fun x n v e r => by cases e)
    (fun x n v e r => by cases e)
    (fun n v e r => by cases e)
    (fun k m b env _ n v e r => by cases e)
    (fun n vs e r => by cases r; cases e; exact ⟨.nil, rfl, rfl⟩)
    (fun x xs ih ihs n vs e r => by
      cases r with
      | cons r rs =>
        have e' : (match D.dep x, D.depL xs with | some a, some b => some (max a b) | _, _ => none) = some n := e
        cases e1 : D.dep x with
        | none => rw [e1] at e'; simp at e'
        | some a =>
          cases e2 : D.depL xs with
          | none => rw [e1, e2] at e'; simp at e'
          | some b =>
            rw [e1, e2] at e'
            obtain ⟨h1, h2, h3⟩ := ih a _ e1 r
            obtain ⟨g1, g2, g3⟩ := ihs b _ e2 rs
            refine ⟨.cons h1 g1, ?_, ?_⟩
            · show max (D.toPy x).depth (PyData.depthAll (D.toPyL xs)) = n
              rw [h2, g2]; exact Option.some.inj e'
            · show ((D.toPy x).plain && PyData.plainAll (D.toPyL xs)) = true
              rw [h3, g3]; rfl)
    trivial (fun _ _ _ _ => trivial) (fun _ _ _ => trivial) d
mutual
/-- where no lambda is within -/
theorem Rep.nocTo (lf : ∀ b o, z.F b = some o → z'.F b = some o) (lh : ∀ b, z.hs b → z'.hs b) : ∀ (d : D) (v : V), d.noc = true → Rep K mg z v d → Rep K mg z' v d
  | .non, _, _, h => by cases h; exact .non
  | .bl b, _, _, h => by cases h; exact .bl b
  | .int i, _, _, h => by cases h; exact .int i
  | .str x, _, _, h => by cases h; exact .str x
  | .ty n, _, _, h => by cases h; exact .ty n
  | .fn x, _, _, h => by cases h with | fn e => exact .fn e
  | .hnd, _, _, h => by cases h with | hnd e => exact .hnd (lh _ e)
  | .lst ds, _, n, h => by cases h with | lst e r => exact .lst (sqL_mono lf e) (RepL.nocTo lf lh ds _ n r)
  | .tup ds, _, n, h => by cases h with | tup e r => exact .tup (sqT_mono lf e) (RepL.nocTo lf lh ds _ n r)
  | .obj c fs, _, n, h => by cases h with | obj e1 e2 e3 e4 r => exact .obj e1 (lf _ _ e2) (lf _ _ e3) e4 (RepF.nocTo lf lh fs _ n r)
  | .set _, _, _, h => by cases h
  | .dic ks vs, _, n, h => by
    have n : (D.nocL ks && D.nocL vs) = true := n
    cases h with | dic e1 e2 r => exact .dic (lf _ _ e1) e2 (RepL.nocTo lf lh vs _ (Bool.and_eq_true_iff.mp n).2 r)
  | .clo _ _ _ _, _, n, _ => by cases n
  | .slf, _, n, _ => by cases n
theorem RepL.nocTo (lf : ∀ b o, z.F b = some o → z'.F b = some o) (lh : ∀ b, z.hs b → z'.hs b) : ∀ (ds : List D) (vs : List V), D.nocL ds = true → RepL K mg z vs ds → RepL K mg z' vs ds
  | [], _, _, h => by cases h; exact .nil
  | d :: ds, _, n, h => by
    have n : (d.noc && D.nocL ds) = true := n
    obtain ⟨n1, n2⟩ := Bool.and_eq_true_iff.mp n
    cases h with | cons r rs => exact .cons (Rep.nocTo lf lh d _ n1 r) (RepL.nocTo lf lh ds _ n2 rs)
theorem RepF.nocTo (lf : ∀ b o, z.F b = some o → z'.F b = some o) (lh : ∀ b, z.hs b → z'.hs b) : ∀ (fs : List (Str × D)) (vs : List V), D.nocF fs = true → RepL K mg z vs (fs.map (·.2)) → RepL K mg z' vs (fs.map (·.2))
  | [], _, _, h => by cases h; exact .nil
  | (x, d) :: fs, _, n, h => by
    have n : (d.noc && D.nocF fs) = true := n
    obtain ⟨n1, n2⟩ := Bool.and_eq_true_iff.mp n
    cases h with | cons r rs => exact .cons (Rep.nocTo lf lh d _ n1 r) (RepF.nocTo lf lh fs _ n2 rs)
end
mutual
/-- where no object is within that is being made -/
theorem Rep.nosTo (lf : ∀ b o, z.F b = some o → z'.F b = some o) (lh : ∀ b, z.hs b → z'.hs b) (lc : ∀ a n m b env, z.cl a n m b env → z'.cl a n m b env) : ∀ (d : D) (v : V), d.nos = true → Rep K mg z v d → Rep K mg z' v d
  | .non, _, _, h => by cases h; exact .non
  | .bl b, _, _, h => by cases h; exact .bl b
  | .int i, _, _, h => by cases h; exact .int i
  | .str x, _, _, h => by cases h; exact .str x
  | .ty n, _, _, h => by cases h; exact .ty n
  | .fn x, _, _, h => by cases h with | fn e => exact .fn e
  | .hnd, _, _, h => by cases h with | hnd e => exact .hnd (lh _ e)
  | .lst ds, _, n, h => by cases h with | lst e r => exact .lst (sqL_mono lf e) (RepL.nosTo lf lh lc ds _ n r)
  | .tup ds, _, n, h => by cases h with | tup e r => exact .tup (sqT_mono lf e) (RepL.nosTo lf lh lc ds _ n r)
  | .obj c fs, _, n, h => by cases h with | obj e1 e2 e3 e4 r => exact .obj e1 (lf _ _ e2) (lf _ _ e3) e4 (RepF.nosTo lf lh lc fs _ n r)
  | .set _, _, _, h => by cases h
  | .dic ks vs, _, n, h => by
    have n : (D.nosL ks && D.nosL vs) = true := n
    cases h with | dic e1 e2 r => exact .dic (lf _ _ e1) e2 (RepL.nosTo lf lh lc vs _ (Bool.and_eq_true_iff.mp n).2 r)
  | .clo _ _ _ _, _, _, h => by cases h with | clo e => exact .clo (lc _ _ _ _ _ e)
  | .slf, _, n, _ => by cases n
theorem RepL.nosTo (lf : ∀ b o, z.F b = some o → z'.F b = some o) (lh : ∀ b, z.hs b → z'.hs b) (lc : ∀ a n m b env, z.cl a n m b env → z'.cl a n m b env) : ∀ (ds : List D) (vs : List V), D.nosL ds = true → RepL K mg z vs ds → RepL K mg z' vs ds
  | [], _, _, h => by cases h; exact .nil
  | d :: ds, _, n, h => by
    have n : (d.nos && D.nosL ds) = true := n
    obtain ⟨n1, n2⟩ := Bool.and_eq_true_iff.mp n
    cases h with | cons r rs => exact .cons (Rep.nosTo lf lh lc d _ n1 r) (RepL.nosTo lf lh lc ds _ n2 rs)
theorem RepF.nosTo (lf : ∀ b o, z.F b = some o → z'.F b = some o) (lh : ∀ b, z.hs b → z'.hs b) (lc : ∀ a n m b env, z.cl a n m b env → z'.cl a n m b env) : ∀ (fs : List (Str × D)) (vs : List V), D.nosF fs = true → RepL K mg z vs (fs.map (·.2)) → RepL K mg z' vs (fs.map (·.2))
  | [], _, _, h => by cases h; exact .nil
  | (x, d) :: fs, _, n, h => by
    have n : (d.nos && D.nosF fs) = true := n
    obtain ⟨n1, n2⟩ := Bool.and_eq_true_iff.mp n
    cases h with | cons r rs => exact .cons (Rep.nosTo lf lh lc d _ n1 r) (RepF.nosTo lf lh lc fs _ n2 rs)
end
mutual
/-- where no list is within: lists may go out of sight -/
theorem Rep.nolTo (lf : ∀ b o, z.F b = some o → (∀ xs, o ≠ .lst xs) → z'.F b = some o) (lh : ∀ b, z.hs b → z'.hs b) (ls : ∀ b, z.sf b → z'.sf b) : ∀ (d : D) (v : V), d.nol = true → Rep K mg z v d → Rep K mg z' v d
  | .non, _, _, h => by cases h; exact .non
  | .bl b, _, _, h => by cases h; exact .bl b
  | .int i, _, _, h => by cases h; exact .int i
  | .str x, _, _, h => by cases h; exact .str x
  | .ty n, _, _, h => by cases h; exact .ty n
  | .fn x, _, _, h => by cases h with | fn e => exact .fn e
  | .hnd, _, _, h => by cases h with | hnd e => exact .hnd (lh _ e)
  | .lst ds, _, n, h => by cases n
  | .tup ds, _, n, h => by
    cases h with
    | tup e r =>
      refine .tup ?_ (RepL.nolTo lf lh ls ds _ n r)
      rcases e with (e | ⟨o, e⟩) | e
      · exact .inl (.inl (lf _ _ e fun _ q => by cases q))
      · exact .inl (.inr ⟨o, lf _ _ e fun _ q => by cases q⟩)
      · exact .inr e
  | .obj c fs, _, n, h => by cases n
  | .set _, _, _, h => by cases h
  | .dic _ _, _, n, _ => by cases n
  | .clo _ _ _ _, _, n, _ => by cases n
  | .slf, _, _, h => by cases h with | slf e => exact .slf (ls _ e)
theorem RepL.nolTo (lf : ∀ b o, z.F b = some o → (∀ xs, o ≠ .lst xs) → z'.F b = some o) (lh : ∀ b, z.hs b → z'.hs b) (ls : ∀ b, z.sf b → z'.sf b) : ∀ (ds : List D) (vs : List V), D.nolL ds = true → RepL K mg z vs ds → RepL K mg z' vs ds
  | [], _, _, h => by cases h; exact .nil
  | d :: ds, _, n, h => by
    have n : (d.nol && D.nolL ds) = true := n
    obtain ⟨n1, n2⟩ := Bool.and_eq_true_iff.mp n
    cases h with | cons r rs => exact .cons (Rep.nolTo lf lh ls d _ n1 r) (RepL.nolTo lf lh ls ds _ n2 rs)
end
end
end Ev
set_option Elab.async false
set_option linter.all false
set_option maxRecDepth 100000
set_option maxHeartbeats 2000000
/-! Ev, part D: the world; readings; operators. -/
namespace Ev
open PySem PySem.Spec PyProof.Rows L2

/-- a lambda that was made and handed on: its object, its text, its cells, its code object; what the cells hold; its reading -/
structure Cl where
  a : Addr
  ps : List Str
  fv : List Str
  ex : List Str
  params : Arguments
  body : Expr
  scope : Scope
  cells : List (Str × Addr)
  c' : Addr
  qual : Str
  ws : List V
  e : E
  env : List D
/-- what a law's walk leans on -/
structure Cn where
  K : PySem.W.Frag
  mg : Str → Option Value
  T : List (Addr × Str)
  b0 : Heap
  cl : List Cl
/-- the same with these lambdas -/
def Cn.wc (c : Cn) (cl : List Cl) : Cn := { c with cl := cl }
structure ClW (c : Cn) (z : Fz) (H : Hp) : Prop where
  to : ∀ a n m e env, z.cl a n m e env → ∃ q ∈ c.cl, q.a = a ∧ q.ps.length = n ∧ q.ex.length = m ∧ q.e = e ∧ q.env = env
  co : ∀ q ∈ c.cl, H q.c' = some (LamX.CodeO q.c' q.qual)
  rp : ∀ q ∈ c.cl, RepL c.K c.mg z q.ws q.env
  no : ∀ q ∈ c.cl, D.nosL q.env = true
theorem ClW.ext {c : Cn} {z z' : Fz} {H H' : Hp} (x : ClW c z H) (l : z.Le z') (hc : z'.cl = z.cl) (k : ∀ b q, H b = some (LamX.CodeO b q) → H' b = some (LamX.CodeO b q)) : ClW c z' H' :=
  ⟨fun a n m e env h => x.to a n m e env (by rw [hc] at h; exact h), fun q hq => k _ _ (x.co q hq), fun q hq => (x.rp q hq).mono l, x.no⟩

structure Wf (c : Cn) (z : Fz) (H : Hp) : Prop where
  f : ∀ b o, z.F b = some o → H b = some o
  hs : ∀ a, z.hs a → (∃ i j k : Int, H a = some (.lst [.int i, .int j, .int k])) ∧ z.F a = none
  tb : ∀ b ps, z.F b ≠ some (.tbl ps)
  ts : LamX.Tabs c.T H
  cl : ClW c z H
structure Ext (z : Fz) (H : Hp) (z' : Fz) (H' : Hp) : Prop where
  keep : ∀ b o, H b = some o → ¬ z.hs b → (∀ ps, o ≠ .tbl ps) → H' b = some o
  there : ∀ b, H b ≠ none → H' b ≠ none
  le : z.Le z'
  fn : ∀ b o, H b ≠ none → z'.F b = some o → z.F b = some o
  hn : ∀ b, z'.hs b → z.hs b ∨ H b = none
  ce : z'.cl = z.cl
  se : z'.sf = z.sf
theorem Ext.refl (z : Fz) (H : Hp) : Ext z H z H := ⟨fun _ _ h _ _ => h, fun _ h => h, .refl z, fun _ _ _ h => h, fun _ h => .inl h, rfl, rfl⟩
theorem Ext.trans {z1 z2 z3 : Fz} {H1 H2 H3 : Hp} (a : Ext z1 H1 z2 H2) (b : Ext z2 H2 z3 H3) : Ext z1 H1 z3 H3 where
  keep := fun x o h n t => b.keep x o (a.keep x o h n t) (fun q => by
    rcases a.hn x q with q | q
    · exact n q
    · rw [q] at h; cases h) t
  there := fun x h => b.there x (a.there x h)
  le := a.le.trans b.le
  fn := fun x o h q => a.fn x o h (b.fn x o (a.there x h) q)
  hn := fun x q => by
    rcases b.hn x q with q | q
    · exact a.hn x q
    · refine .inr ?_
      cases e : H1 x with
      | none => rfl
      | some o => exact absurd q (a.there x (by rw [e]; simp))
  ce := b.ce.trans a.ce
  se := b.se.trans a.se

section
variable {c : Cn} {z z' : Fz} {H H' : Hp}
/-- a new object, seen from now on -/
theorem alloc {p : Addr} {o : HO} (w : Wf c z H) (hp : H p = none) (ht : ∀ ps, o ≠ .tbl ps) : Wf c { z with F := upd z.F p o } (upd H p o) ∧ Ext z H { z with F := upd z.F p o } (upd H p o) := by
  have hz : z.F p = none := by
    cases e : z.F p with
    | none => rfl
    | some u => rw [w.f p u e] at hp; cases hp
  have nh : ¬ z.hs p := fun q => by
    obtain ⟨⟨i, j, k, e⟩, _⟩ := w.hs p q
    rw [e] at hp; cases hp
  refine ⟨⟨fun b u e => ?_, fun a ha => ?_, fun b ps e => ?_, w.ts.ext fun b u e => by rw [upd_ne (ne_of_none e hp)]; exact e, w.cl.ext ⟨fun b u e => by rw [show (Fz.mk (upd z.F p o) z.hs z.cl z.sf).F b = upd z.F p o b from rfl, upd_ne (ne_of_none e hz)]; exact e, fun _ h => h, fun _ _ _ _ _ h => h, fun _ h => h⟩ rfl fun b q e => by rw [upd_ne (ne_of_none e hp)]; exact e⟩, ⟨fun b u e _ _ => by rw [upd_ne (ne_of_none e hp)]; exact e, fun b e => ?_, ⟨fun b u e => ?_, fun _ h => h, fun _ _ _ _ _ h => h, fun _ h => h⟩, fun b u e q => ?_, fun b h => .inl h, rfl, rfl⟩⟩
  · have e : upd z.F p o b = some u := e
    by_cases hb : b = p
    · subst hb; rw [upd_same] at e ⊢; exact e
    · rw [upd_ne hb] at e ⊢; exact w.f b u e
  · have ne : a ≠ p := fun q => nh (q ▸ ha)
    show (∃ i j k : Int, upd H p o a = _) ∧ upd z.F p o a = none
    rw [upd_ne ne, upd_ne ne]; exact w.hs a ha
  · by_cases hb : b = p
    · subst hb; rw [show (Fz.mk (upd z.F b o) z.hs z.cl z.sf).F b = some o from upd_same] at e; exact ht ps (Option.some.inj e)
    · rw [show (Fz.mk (upd z.F p o) z.hs z.cl z.sf).F b = z.F b from upd_ne hb] at e; exact w.tb b ps e
  · by_cases hb : b = p
    · subst hb; rw [upd_same]; simp
    · rw [upd_ne hb]; exact e
  · rw [show (Fz.mk (upd z.F p o) z.hs z.cl z.sf).F b = upd z.F p o b from rfl, upd_ne (ne_of_none e hz)]; exact e
  · have ne : b ≠ p := fun q => e (q ▸ hp)
    rw [show (Fz.mk (upd z.F p o) z.hs z.cl z.sf).F b = z.F b from upd_ne ne] at q; exact q
theorem Ext.rep (x : Ext z H z' H') {d : D} {v : V} (r : Rep c.K c.mg z v d) : Rep c.K c.mg z' v d := r.mono x.le
theorem Ext.repL (x : Ext z H z' H') {ds : List D} {vs : List V} (r : RepL c.K c.mg z vs ds) : RepL c.K c.mg z' vs ds := r.mono x.le
end

/-! ### readings -/
/-- how an exception stands -/
def XRep (c : Cn) (z : Fz) (H : Hp) (cls : Value) (dd : Option Addr) (x : Xn) : Prop :=
  (∃ C, cls = .ref C ∧ c.mg x.cls = some (.ref C)) ∧ match x.val with
    | none => True
    | some (f, d) => ∃ a v, dd = some a ∧ H a = some (.xd [(f, v)]) ∧ Rep c.K c.mg z v d
def Po (c : Cn) (z : Fz) (H : Hp) (Q : VK) : D → Prop := fun d => ∀ x H' z', Wf c z' H' → Ext z H z' H' → Rep c.K c.mg z' x d → Q x H'
def PoL (c : Cn) (z : Fz) (H : Hp) (Q : List V → Hp → Prop) : List D → Prop := fun d => ∀ x H' z', Wf c z' H' → Ext z H z' H' → RepL c.K c.mg z' x d → Q x H'
def PoB (c : Cn) (z : Fz) (H : Hp) (Q : Bool → Hp → Prop) : Bool → Prop := fun b => ∀ H' z', Wf c z' H' → Ext z H z' H' → Q b H'
def Px (c : Cn) (z : Fz) (H : Hp) (W : XK) : Xn → Prop := fun x => ∀ cls dd H' z', Wf c z' H' → Ext z H z' H' → XRep c z' H' cls dd x → W cls dd H'
theorem Po.ext {c : Cn} {z z1 : Fz} {H H1 : Hp} {Q : VK} (x : Ext z H z1 H1) {d : D} (p : Po c z H Q d) : Po c z1 H1 Q d := fun v H' z' w e r => p v H' z' w (x.trans e) r
theorem PoL.ext {c : Cn} {z z1 : Fz} {H H1 : Hp} {Q : List V → Hp → Prop} (x : Ext z H z1 H1) {d : List D} (p : PoL c z H Q d) : PoL c z1 H1 Q d := fun v H' z' w e r => p v H' z' w (x.trans e) r
theorem PoB.ext {c : Cn} {z z1 : Fz} {H H1 : Hp} {Q : Bool → Hp → Prop} (x : Ext z H z1 H1) {d : Bool} (p : PoB c z H Q d) : PoB c z1 H1 Q d := fun H' z' w e => p H' z' w (x.trans e)
theorem Px.ext {c : Cn} {z z1 : Fz} {H H1 : Hp} {W : XK} (x : Ext z H z1 H1) {d : Xn} (p : Px c z H W d) : Px c z1 H1 W d := fun cls dd H' z' w e r => p cls dd H' z' w (x.trans e) r
/-- what the slots hold -/
def VOk (c : Cn) (z : Fz) (σ : L2.St) (v : Vw) : Prop := v.length = σ.length ∧ ∀ (i : Nat) (d : D), v[i]? = some (some d) → ∃ x, σ[i]? = some (some x) ∧ Rep c.K c.mg z x d
theorem VOk.ext {c : Cn} {z z1 : Fz} {H H1 : Hp} {σ : L2.St} {v : Vw} (x : Ext z H z1 H1) (o : VOk c z σ v) : VOk c z1 σ v := ⟨o.1, fun i d h => by
  obtain ⟨y, h1, h2⟩ := o.2 i d h
  exact ⟨y, h1, x.rep h2⟩⟩

def tM (c : Cn) (W : WX) (v : Vw) (m : M D) : TE := fun σ H Q => ∃ z, Wf c z H ∧ VOk c z σ v ∧ m.w (Po c z H Q) (Px c z H fun cls dd H' => W cls dd σ H')
def tML (c : Cn) (W : WX) (v : Vw) (m : M (List D)) : TA := fun σ H Q => ∃ z, Wf c z H ∧ VOk c z σ v ∧ m.w (PoL c z H Q) (Px c z H fun cls dd H' => W cls dd σ H')
def tMB (c : Cn) (W : WX) (v : Vw) (m : M Bool) : TT := fun σ H Q => ∃ z, Wf c z H ∧ VOk c z σ v ∧ m.w (PoB c z H Q) (Px c z H fun cls dd H' => W cls dd σ H')

section
variable {c : Cn} {W : WX} {v : Vw} {σ : L2.St} {H : Hp}
theorem tM.mono {m : M D} {Q Q' : VK} (h : tM c W v m σ H Q) (hq : ∀ x H, Q x H → Q' x H) : tM c W v m σ H Q' := by
  obtain ⟨z, w, o, q⟩ := h
  exact ⟨z, w, o, m.mono (fun d p x H' z' w' e r => hq _ _ (p x H' z' w' e r)) (fun _ p => p) q⟩
theorem tML.mono {m : M (List D)} {Q Q' : List V → Hp → Prop} (h : tML c W v m σ H Q) (hq : ∀ x H, Q x H → Q' x H) : tML c W v m σ H Q' := by
  obtain ⟨z, w, o, q⟩ := h
  exact ⟨z, w, o, m.mono (fun d p x H' z' w' e r => hq _ _ (p x H' z' w' e r)) (fun _ p => p) q⟩
theorem tMB.mono {m : M Bool} {Q Q' : Bool → Hp → Prop} (h : tMB c W v m σ H Q) (hq : ∀ x H, Q x H → Q' x H) : tMB c W v m σ H Q' := by
  obtain ⟨z, w, o, q⟩ := h
  exact ⟨z, w, o, m.mono (fun d p H' z' w' e => hq _ _ (p H' z' w' e)) (fun _ p => p) q⟩
/-- behind a first part -/
def Bh (c : Cn) (W : WX) (v : Vw) (σ : L2.St) (H : Hp) (α : D → Prop) (x : V) : Prop := ∃ z d, Wf c z H ∧ VOk c z σ v ∧ Rep c.K c.mg z x d ∧ α d
theorem tM.bind {m : M D} {f : D → M D} {Q : VK} (h : tM c W v (M.bind m f) σ H Q) :
    tM c W v m σ H fun x H1 => ∃ z1 d, Wf c z1 H1 ∧ VOk c z1 σ v ∧ Rep c.K c.mg z1 x d ∧ (f d).w (Po c z1 H1 Q) (Px c z1 H1 fun cls dd H' => W cls dd σ H') := by
  obtain ⟨z, w, o, q⟩ := h
  exact ⟨z, w, o, m.mono (fun d p x H' z' w' e r => ⟨z', d, w', o.ext e, r, (f d).mono (fun _ p => Po.ext e p) (fun _ p => Px.ext e p) p⟩) (fun _ p => p) q⟩
theorem tM.bindL {m : M (List D)} {f : List D → M D} {Q : VK} (h : tM c W v (M.bind m f) σ H Q) :
    tML c W v m σ H fun x H1 => ∃ z1 d, Wf c z1 H1 ∧ VOk c z1 σ v ∧ RepL c.K c.mg z1 x d ∧ (f d).w (Po c z1 H1 Q) (Px c z1 H1 fun cls dd H' => W cls dd σ H') := by
  obtain ⟨z, w, o, q⟩ := h
  exact ⟨z, w, o, m.mono (fun d p x H' z' w' e r => ⟨z', d, w', o.ext e, r, (f d).mono (fun _ p => Po.ext e p) (fun _ p => Px.ext e p) p⟩) (fun _ p => p) q⟩
theorem tM.bindB {m : M Bool} {f : Bool → M D} {Q : VK} (h : tM c W v (M.bind m f) σ H Q) :
    tMB c W v m σ H fun b H1 => ∃ z1, Wf c z1 H1 ∧ VOk c z1 σ v ∧ (f b).w (Po c z1 H1 Q) (Px c z1 H1 fun cls dd H' => W cls dd σ H') := by
  obtain ⟨z, w, o, q⟩ := h
  exact ⟨z, w, o, m.mono (fun d p H' z' w' e => ⟨z', w', o.ext e, (f d).mono (fun _ p => Po.ext e p) (fun _ p => Px.ext e p) p⟩) (fun _ p => p) q⟩
theorem tMB.bind {m : M D} {f : D → M Bool} {Q : Bool → Hp → Prop} (h : tMB c W v (M.bind m f) σ H Q) :
    tM c W v m σ H fun x H1 => ∃ z1 d, Wf c z1 H1 ∧ VOk c z1 σ v ∧ Rep c.K c.mg z1 x d ∧ (f d).w (PoB c z1 H1 Q) (Px c z1 H1 fun cls dd H' => W cls dd σ H') := by
  obtain ⟨z, w, o, q⟩ := h
  exact ⟨z, w, o, m.mono (fun d p x H' z' w' e r => ⟨z', d, w', o.ext e, r, (f d).mono (fun _ p => PoB.ext e p) (fun _ p => Px.ext e p) p⟩) (fun _ p => p) q⟩
theorem tML.bind {m : M D} {f : D → M (List D)} {Q : List V → Hp → Prop} (h : tML c W v (M.bind m f) σ H Q) :
    tM c W v m σ H fun x H1 => ∃ z1 d, Wf c z1 H1 ∧ VOk c z1 σ v ∧ Rep c.K c.mg z1 x d ∧ (f d).w (PoL c z1 H1 Q) (Px c z1 H1 fun cls dd H' => W cls dd σ H') := by
  obtain ⟨z, w, o, q⟩ := h
  exact ⟨z, w, o, m.mono (fun d p x H' z' w' e r => ⟨z', d, w', o.ext e, r, (f d).mono (fun _ p => PoL.ext e p) (fun _ p => Px.ext e p) p⟩) (fun _ p => p) q⟩
theorem tML.bindL {m : M (List D)} {f : List D → M (List D)} {Q : List V → Hp → Prop} (h : tML c W v (M.bind m f) σ H Q) :
    tML c W v m σ H fun x H1 => ∃ z1 d, Wf c z1 H1 ∧ VOk c z1 σ v ∧ RepL c.K c.mg z1 x d ∧ (f d).w (PoL c z1 H1 Q) (Px c z1 H1 fun cls dd H' => W cls dd σ H') := by
  obtain ⟨z, w, o, q⟩ := h
  exact ⟨z, w, o, m.mono (fun d p x H' z' w' e r => ⟨z', d, w', o.ext e, r, (f d).mono (fun _ p => PoL.ext e p) (fun _ p => Px.ext e p) p⟩) (fun _ p => p) q⟩
end
section
variable {X : Cx}
theorem PE.imp {e : Expr} {t t' : TE} (h : PE X e t) (i : ∀ σ H Q, t' σ H Q → t σ H Q) : PE X e t' := ⟨fun pins s σ H Q I q => h.run pins s σ H Q I (i σ H Q q)⟩
theorem PA.imp {e : List Expr} {t t' : TA} (h : PA X e t) (i : ∀ σ H Q, t' σ H Q → t σ H Q) : PA X e t' := ⟨fun pos pins s σ H Q I q => h.run pos pins s σ H Q I (i σ H Q q)⟩
theorem PT.imp {e : Expr} {t t' : TT} (h : PT X e t) (i : ∀ σ H Q, t' σ H Q → t σ H Q) : PT X e t' := ⟨fun pins s σ H Q I q => h.run pins s σ H Q I (i σ H Q q)⟩
theorem PW.imp {e : Expr} {t t' : TT} (h : PW X e t) (i : ∀ σ H Q, t' σ H Q → t σ H Q) : PW X e t' := ⟨fun wh pins s σ H Q I q => h.run wh pins s σ H Q I (i σ H Q q)⟩
theorem PS.imp {e : Stmt} {t t' : TS} (h : PS X e t) (i : ∀ D σ H, t' D σ H → t D σ H) : PS X e t' := ⟨fun pins s σ H D I q => h.run pins s σ H D I (i D σ H q)⟩
theorem PSs.imp {e : List Stmt} {t t' : TS} (h : PSs X e t) (i : ∀ D σ H, t' D σ H → t D σ H) : PSs X e t' := ⟨fun pins s σ H D I q => h.run pins s σ H D I (i D σ H q)⟩
theorem OpR.imp {f : Value → Value → Sem Value} {r r' : R2} (h : OpR X f r) (i : ∀ x y H Q, r' x y H Q → r x y H Q) : OpR X f r' := fun pins s σ H x y v u Q I rx ry q => h pins s σ H x y v u Q I rx ry (i x y H Q q)
theorem CallR.imp {f : Value} {r r' : List V → Hp → VK → Prop} (h : CallR X f r) (i : ∀ xs H Q, r' xs H Q → r xs H Q) : CallR X f r' := fun pins s σ H xs us Q I r q => h pins s σ H xs us Q I r (i xs H Q q)
end
/-- an operator on data, by values -/
def rM (c : Cn) (m : D → D → M D) : R2 := fun x y H Q => ∃ z d e R, Wf c z H ∧ Rep c.K c.mg z x d ∧ Rep c.K c.mg z y e ∧ (m d e).w (Po c z H Q) R
def rMC (c : Cn) (m : List D → M D) : List V → Hp → VK → Prop := fun xs H Q => ∃ z ds R, Wf c z H ∧ RepL c.K c.mg z xs ds ∧ (m ds).w (Po c z H Q) R

/-- the new object's data -/
theorem Po.new {c : Cn} {z : Fz} {H : Hp} {Q : VK} {d : D} {o : HO} {p : Addr} (w : Wf c z H) (hp : H p = none) (ht : ∀ ps, o ≠ .tbl ps) (q : Po c z H Q d)
    (r : ∀ z', z.Le z' → z'.F p = some o → Rep c.K c.mg z' (.ref p) d) : Q (.ref p) (upd H p o) :=
  let ⟨w', e⟩ := alloc w hp ht
  q _ _ _ w' e (r _ e.le upd_same)
theorem Po.here {c : Cn} {z : Fz} {H : Hp} {Q : VK} {d : D} {x : V} (w : Wf c z H) (q : Po c z H Q d) (r : Rep c.K c.mg z x d) : Q x H := q _ _ _ w (.refl _ _) r
theorem Po.tup {c : Cn} {z : Fz} {H : Hp} {Q : VK} {ds : List D} {vs : List V} {p : Addr} (w : Wf c z H) (hp : H p = none) (q : Po c z H Q (.tup ds)) (r : RepL c.K c.mg z vs ds) : Q (.ref p) (upd H p (.tup vs)) :=
  Po.new w hp (fun _ e => by cases e) q fun z' l h => .tup (SqT.of h) (r.mono l)
theorem Po.lst {c : Cn} {z : Fz} {H : Hp} {Q : VK} {ds : List D} {vs : List V} {p : Addr} (w : Wf c z H) (hp : H p = none) (q : Po c z H Q (.lst ds)) (r : RepL c.K c.mg z vs ds) : Q (.ref p) (upd H p (.lst vs)) :=
  Po.new w hp (fun _ e => by cases e) q fun z' l h => .lst (SqL.of h) (r.mono l)
end Ev
set_option Elab.async false
set_option linter.all false
set_option maxRecDepth 100000
set_option maxHeartbeats 2000000
/-! Ev, part F: operators, by values. -/
namespace Ev
open PySem PySem.Spec PyProof.Rows L2

theorem cutV_eq (xs : List V) (lo hi : Option Int) : cutV xs lo hi = D.cut xs lo hi := rfl
/-! inversion: what a value of this data is -/
section
variable {K : PySem.W.Frag} {mg : Str → Option Value} {z : Fz} {x : V}
theorem Rep.int_inv {i : Int} (r : Rep K mg z x (.int i)) : x = .int i := by cases r; rfl
theorem Rep.str_inv {i : Str} (r : Rep K mg z x (.str i)) : x = .str i := by cases r; rfl
theorem Rep.bl_inv {i : Bool} (r : Rep K mg z x (.bl i)) : x = .bl i := by cases r; rfl
theorem Rep.non_inv (r : Rep K mg z x .non) : x = .non := by cases r; rfl
theorem Rep.ty_inv {n : String} (r : Rep K mg z x (.ty n)) : x = .ty n := by cases r; rfl
theorem Rep.tup_inv {ds : List D} (r : Rep K mg z x (.tup ds)) : ∃ a vs, x = .ref a ∧ SqT K z.F a vs ∧ RepL K mg z vs ds := by cases r with | tup s q => exact ⟨_, _, rfl, s, q⟩
theorem Rep.lst_inv {ds : List D} (r : Rep K mg z x (.lst ds)) : ∃ a vs, x = .ref a ∧ SqL K z.F a vs ∧ RepL K mg z vs ds := by cases r with | lst s q => exact ⟨_, _, rfl, s, q⟩
theorem RepL.one_inv {vs : List V} {d : D} (r : RepL K mg z vs [d]) : ∃ x, vs = [x] ∧ Rep K mg z x d := by
  cases r with | cons r rs => cases rs; exact ⟨_, rfl, r⟩
theorem RepL.two_inv {vs : List V} {d e : D} (r : RepL K mg z vs [d, e]) : ∃ x y, vs = [x, y] ∧ Rep K mg z x d ∧ Rep K mg z y e := by
  cases r with | cons r rs => cases rs with | cons r' rs => cases rs; exact ⟨_, _, rfl, r, r'⟩
theorem RepL.bls {vs : List V} : ∀ {ds : List D} {bs : List Bool}, RepL K mg z vs ds → D.asBls ds = some bs → vs = bs.map V.bl := by
  intro ds
  induction ds generalizing vs with
  | nil => intro bs r e; cases r; cases e; rfl
  | cons d ds ih =>
    intro bs r e
    cases r with
    | cons r rs =>
      cases d with
      | bl b =>
        obtain ⟨bs', e1, e2⟩ := Option.map_eq_some_iff.mp (show (D.asBls ds).map (b :: ·) = some bs from e)
        subst e2
        rw [ih rs e1, r.bl_inv]; rfl
      | _ => cases e
theorem RepL.ints {vs : List V} : ∀ {ds : List D} {bs : List Int}, RepL K mg z vs ds → D.asInts ds = some bs → vs = bs.map V.int := by
  intro ds
  induction ds generalizing vs with
  | nil => intro bs r e; cases r; cases e; rfl
  | cons d ds ih =>
    intro bs r e
    cases r with
    | cons r rs =>
      cases d with
      | int b =>
        obtain ⟨bs', e1, e2⟩ := Option.map_eq_some_iff.mp (show (D.asInts ds).map (b :: ·) = some bs from e)
        subst e2
        rw [ih rs e1, r.int_inv]; rfl
      | _ => cases e
theorem RepL.strs {vs : List V} : ∀ {ds : List D} {bs : List Str}, RepL K mg z vs ds → D.asStrs ds = some bs → vs = bs.map V.str := by
  intro ds
  induction ds generalizing vs with
  | nil => intro bs r e; cases r; cases e; rfl
  | cons d ds ih =>
    intro bs r e
    cases r with
    | cons r rs =>
      cases d with
      | str b =>
        obtain ⟨bs', e1, e2⟩ := Option.map_eq_some_iff.mp (show (D.asStrs ds).map (b :: ·) = some bs from e)
        subst e2
        rw [ih rs e1, r.str_inv]; rfl
      | _ => cases e
end

section
variable {c : Cn} {X : Cx}
theorem Wf.sqL {z : Fz} {H : Hp} (w : Wf c z H) {a : Addr} {vs : List V} (q : SqL c.K z.F a vs) : SqL c.K H a vs := sqL_mono w.f q
theorem Wf.sqT {z : Fz} {H : Hp} (w : Wf c z H) {a : Addr} {vs : List V} (q : SqT c.K z.F a vs) : SqT c.K H a vs := sqT_mono w.f q

/-- l + m of lists that are read -/
theorem op_catL : OpR X (binaryOp .Add) (fun x y H Q => ∃ l b xs zs, x = .ref l ∧ y = .ref b ∧ SqL X.K H l xs ∧ SqL X.K H b zs ∧ xs.length + zs.length ≤ sizeLine ∧ ∀ p, H p = none → Q (.ref p) (upd H p (.lst (xs ++ zs)))) := by
  intro pins s σ H x y v u Q I rx ry h
  obtain ⟨l, b, xs, zs, rfl, rfl, hl, hb, hz, q⟩ := h
  cases rx
  cases ry
  obtain ⟨its, r1, ⟨⟨cls, dd, data, sl⟩, n, ho, hc, hdd, hd⟩, _⟩ := I.list hl
  obtain ⟨its2, r2, ⟨⟨cls2, dd2, data2, sl2⟩, n2, ho2, hc2, hdd2, hd2⟩, _⟩ := I.list hb
  have l1 := r1.length
  have l2 := r2.length
  simp only at hc hd hc2 hd2
  subst hc hd hc2 hd2
  have e : its.toArray ++ its2.toArray = (its ++ its2).toArray := by simp
  refine concat_meets ⟨_, ho, rfl⟩ ⟨_, ho2, rfl⟩ noFill_list_add seq_list_add PySem.F.slot_list_add PySem.F.entry_list_add (PySem.F.args_list_add_2 _ _) (list_addW l b its.toArray its2.toArray n n2 dd dd2 sl sl2 (by simp only [List.size_toArray]; omega)) ⟨ho, ho2, ?_⟩
  rw [e]
  exact ⟨.ref _, _, I.lnew (t' := s.toks) (r1.append r2) (by rw [List.length_append]; omega), rfl, q _ I.fresh⟩

def boOp : Bo → Operator
  | .add => .Add | .sub => .Sub | .mul => .Mult | .fdiv => .FloorDiv | .mod => .Mod | .pow => .Pow
  | .band => .BitAnd | .bor => .BitOr | .bxor => .BitXor | .shl => .LShift | .shr => .RShift
theorem mulA_ok {i j : Int} (h : i.natAbs < 2 ^ 64 ∨ j.natAbs < 2 ^ 64 ∨ i.natAbs.log2 + j.natAbs.log2 ≤ 900000) : IntMulOk i j := by
  rcases h with h | h | h
  · exact .of_left (intBits_le_64 (by omega) (by omega))
  · exact .of_right (intBits_le_64 (by omega) (by omega))
  · exact CMulW.ok (by unfold CMulW; omega)
theorem op_mulA {X : Cx} : OpR X (binaryOp .Mult) (rI IntMulOk fun i j => .int (i * j)) := opI fun _ _ _ _ _ _ _ hc q => mul_int q hc
theorem bop_ok (hK : X.K = c.K) (p : Bo) : OpR X (binaryOp (boOp p)) (rM c (bopD p)) := by
  have nope : ∀ {f : Value → Value → Sem Value} {m : D → D → M D}, (∀ d e, m d e = stuck) → OpR X f (rM c m) := fun h => by
    intro pins s σ H x y v u Q I rx ry q
    obtain ⟨z, d, e, R, _, _, _, q⟩ := q
    rw [h] at q; exact q.elim
  cases p with
  | add =>
    refine OpR.imp (((op_add (X := X)).or op_add_str).or (op_catA.or op_catL)) fun x y H Q q => ?_
    obtain ⟨z, d, e, R, w, rd, re, q⟩ := q
    cases d <;> cases e <;> first | exact q.elim | skip
    · exact .inl (.inl ⟨_, _, rd.int_inv, re.int_inv, Po.here w q (.int _)⟩)
    · exact .inl (.inr ⟨_, _, rd.str_inv, re.str_inv, q.1, Po.here w q.2 (.str _)⟩)
    · obtain ⟨a, vs, rfl, s1, r1⟩ := rd.tup_inv
      obtain ⟨b, ws, rfl, s2, r2⟩ := re.tup_inv
      refine .inr (.inl ⟨a, b, vs, ws, rfl, rfl, hK ▸ w.sqT s1, hK ▸ w.sqT s2, by rw [r1.length, r2.length]; exact q.1, fun e => ?_, fun _ e => ?_, fun _ _ p hp => Po.tup w hp q.2 (r1.append r2)⟩)
      · subst e; cases r1; exact Po.here w q.2 re
      · subst e; cases r2; have q2 := q.2; rw [List.append_nil] at q2; exact Po.here w q2 rd
    · obtain ⟨a, vs, rfl, s1, r1⟩ := rd.lst_inv
      obtain ⟨b, ws, rfl, s2, r2⟩ := re.lst_inv
      exact .inr (.inr ⟨a, b, vs, ws, rfl, rfl, hK ▸ w.sqL s1, hK ▸ w.sqL s2, by rw [r1.length, r2.length]; exact q.1, fun p hp => Po.lst w hp q.2 (r1.append r2)⟩)
  | sub =>
    refine OpR.imp (op_sub (X := X)) fun x y H Q q => ?_
    obtain ⟨z, d, e, R, w, rd, re, q⟩ := q
    cases d <;> cases e <;> first | exact q.elim | skip
    exact ⟨_, _, rd.int_inv, re.int_inv, Po.here w q (.int _)⟩
  | mul =>
    refine OpR.imp ((op_mulA (X := X)).or (op_repT.or EvZip.op_repT1)) fun x y H Q q => ?_
    obtain ⟨z, d, e, R, w, rd, re, q⟩ := q
    cases d <;> cases e <;> first | exact q.elim | skip
    · exact .inl ⟨_, _, rd.int_inv, re.int_inv, mulA_ok q.1, Po.here w q.2 (.int _)⟩
    · obtain ⟨a, vs, rfl, s1, r1⟩ := rd.tup_inv
      obtain ⟨q0, q1, q2, q3⟩ := q.1
      rename_i k
      by_cases h0 : k = 0
      · subst h0
        exact .inr (.inr ⟨a, _, vs, rfl, re.int_inv, hK ▸ w.sqT s1, fun e => q0 (by subst e; cases r1; rfl), .inr ⟨rfl, fun p hp => Po.tup w hp q.2 .nil⟩⟩)
      · by_cases h1 : k = 1
        · subst h1
          have q2 := q.2
          rw [show (List.replicate (1 : Int).toNat _).flatten = _ from List.append_nil _] at q2
          exact .inr (.inr ⟨a, _, vs, rfl, re.int_inv, hK ▸ w.sqT s1, fun e => q0 (by subst e; cases r1; rfl), .inl ⟨rfl, Po.here w q2 rd⟩⟩)
        · exact .inr (.inl ⟨a, _, vs, rfl, re.int_inv, hK ▸ w.sqT s1, fun e => q0 (by subst e; cases r1; rfl), by omega, q2, by rw [r1.length]; exact q3, fun p hp => Po.tup w hp q.2 (r1.rep _)⟩)
  | fdiv =>
    refine OpR.imp (op_fdivW (X := X)) fun x y H Q q => ?_
    obtain ⟨z, d, e, R, w, rd, re, q⟩ := q
    cases d <;> cases e <;> first | exact q.elim | skip
    exact ⟨_, _, rd.int_inv, re.int_inv, ⟨q.1.1, Nat.lt_of_lt_of_le q.1.2 (by decide)⟩, Po.here w q.2 (.int _)⟩
  | mod =>
    refine OpR.imp (op_mod (X := X)) fun x y H Q q => ?_
    obtain ⟨z, d, e, R, w, rd, re, q⟩ := q
    cases d <;> cases e <;> first | exact q.elim | skip
    exact ⟨_, _, rd.int_inv, re.int_inv, q.1, Po.here w q.2 (.int _)⟩
  | pow =>
    refine OpR.imp (op_pow (X := X)) fun x y H Q q => ?_
    obtain ⟨z, d, e, R, w, rd, re, q⟩ := q
    cases d <;> cases e <;> first | exact q.elim | skip
    exact ⟨_, _, rd.int_inv, re.int_inv, q.1, Po.here w q.2 (.int _)⟩
  | shl =>
    refine OpR.imp (op_shl (X := X)) fun x y H Q q => ?_
    obtain ⟨z, d, e, R, w, rd, re, q⟩ := q
    cases d <;> cases e <;> first | exact q.elim | skip
    exact ⟨_, _, rd.int_inv, re.int_inv, q.1, Po.here w q.2 (.int _)⟩
  | shr =>
    refine OpR.imp (op_shr (X := X)) fun x y H Q q => ?_
    obtain ⟨z, d, e, R, w, rd, re, q⟩ := q
    cases d <;> cases e <;> first | exact q.elim | skip
    exact ⟨_, _, rd.int_inv, re.int_inv, q.1, Po.here w q.2 (.int _)⟩
  | band =>
    refine OpR.imp (op_and (X := X)) fun x y H Q q => ?_
    obtain ⟨z, d, e, R, w, rd, re, q⟩ := q
    cases d <;> cases e <;> first | exact q.elim | skip
    exact ⟨_, _, rd.int_inv, re.int_inv, Po.here w q (.int _)⟩
  | bor =>
    refine OpR.imp (op_or (X := X)) fun x y H Q q => ?_
    obtain ⟨z, d, e, R, w, rd, re, q⟩ := q
    cases d <;> cases e <;> first | exact q.elim | skip
    exact ⟨_, _, rd.int_inv, re.int_inv, Po.here w q (.int _)⟩
  | bxor =>
    refine OpR.imp (op_xor (X := X)) fun x y H Q q => ?_
    obtain ⟨z, d, e, R, w, rd, re, q⟩ := q
    cases d <;> cases e <;> first | exact q.elim | skip
    exact ⟨_, _, rd.int_inv, re.int_inv, Po.here w q (.int _)⟩
end
end Ev
set_option Elab.async false
set_option linter.all false
set_option maxRecDepth 100000
set_option maxHeartbeats 2000000
/-! Ev, part G: comparisons. -/
namespace Ev
open PySem PySem.Spec PyProof.Rows L2
namespace D
mutual
theorem eq_py : ∀ (d e : D) (i j : Nat), d.dep = some i → e.dep = some j → D.eq d e = PyData.eqv d.toPy e.toPy
  | .non, e, _, _, h, h' => by cases e <;> first | rfl | (cases h'; done)
  | .bl b, e, _, _, h, h' => by cases e <;> first | rfl | (cases h'; done)
  | .int b, e, _, _, h, h' => by cases e <;> first | rfl | (cases h'; done)
  | .str b, e, _, _, h, h' => by cases e <;> first | rfl | (cases h'; done)
  | .tup xs, e, _, _, h, h' => by
    obtain ⟨k, e1, _⟩ := Option.map_eq_some_iff.mp h
    cases e <;> first | rfl | (cases h'; done) | skip
    rename_i ys
    obtain ⟨k', e1', _⟩ := Option.map_eq_some_iff.mp h'
    exact eq_pyL xs ys k k' e1 e1'
  | .lst xs, e, _, _, h, h' => by
    obtain ⟨k, e1, _⟩ := Option.map_eq_some_iff.mp h
    cases e <;> first | rfl | (cases h'; done) | skip
    rename_i ys
    obtain ⟨k', e1', _⟩ := Option.map_eq_some_iff.mp h'
    exact eq_pyL xs ys k k' e1 e1'
  | .obj _ _, _, _, _, h, _ => by cases h
  | .set _, _, _, _, h, _ => by cases h
  | .dic _ _, _, _, _, h, _ => by cases h
  | .hnd, _, _, _, h, _ => by cases h
  | .fn _, _, _, _, h, _ => by cases h
  | .ty _, _, _, _, h, _ => by cases h
  | .clo _ _ _ _, _, _, _, h, _ => by cases h
  | .slf, _, _, _, h, _ => by cases h
theorem eq_pyL : ∀ (xs ys : List D) (i j : Nat), depL xs = some i → depL ys = some j → D.eqL xs ys = PyData.eqvAll (toPyL xs) (toPyL ys)
  | [], ys, _, _, _, _ => by cases ys <;> rfl
  | x :: xs, [], _, _, _, _ => rfl
  | x :: xs, y :: ys, _, _, h, h' => by
    have h1 : (match dep x, depL xs with | some a, some b => some (max a b) | _, _ => none) = some _ := h
    have h2 : (match dep y, depL ys with | some a, some b => some (max a b) | _, _ => none) = some _ := h'
    cases e1 : dep x with
    | none => rw [e1] at h1; simp at h1
    | some a =>
      cases e2 : depL xs with
      | none => rw [e1, e2] at h1; simp at h1
      | some b =>
        cases e3 : dep y with
        | none => rw [e3] at h2; simp at h2
        | some a' =>
          cases e4 : depL ys with
          | none => rw [e3, e4] at h2; simp at h2
          | some b' =>
            show (D.eq x y && D.eqL xs ys) = (PyData.eqv x.toPy y.toPy && PyData.eqvAll (toPyL xs) (toPyL ys))
            rw [eq_py x y _ _ e1 e3, eq_pyL xs ys _ _ e2 e4]
end
mutual
theorem eq_comm : ∀ d e : D, D.eq d e = D.eq e d
  | .non, e => by cases e <;> rfl
  | .bl b, e => by cases e <;> first | rfl | (simp only [D.eq]; exact BEq.comm)
  | .int b, e => by cases e <;> first | rfl | (simp only [D.eq]; exact BEq.comm)
  | .str b, e => by cases e <;> first | rfl | (simp only [D.eq]; exact BEq.comm)
  | .tup xs, e => by cases e <;> first | rfl | exact eq_commL xs _
  | .lst xs, e => by cases e <;> first | rfl | exact eq_commL xs _
  | .obj _ _, e => by cases e <;> rfl
  | .set _, e => by cases e <;> rfl
  | .dic _ _, e => by cases e <;> rfl
  | .hnd, e => by cases e <;> rfl
  | .fn _, e => by cases e <;> rfl
  | .ty _, e => by cases e <;> rfl
  | .clo _ _ _ _, e => by cases e <;> rfl
  | .slf, e => by cases e <;> rfl
theorem eq_commL : ∀ xs ys : List D, D.eqL xs ys = D.eqL ys xs
  | [], ys => by cases ys <;> rfl
  | x :: xs, [] => rfl
  | x :: xs, y :: ys => by
    show (D.eq x y && D.eqL xs ys) = (D.eq y x && D.eqL ys xs)
    rw [eq_comm x y, eq_commL xs ys]
end
theorem depL_cons {x : D} {xs : List D} {n : Nat} (h : depL (x :: xs) = some n) : ∃ a b, dep x = some a ∧ depL xs = some b ∧ n = max a b := by
  have h1 : (match dep x, depL xs with | some a, some b => some (max a b) | _, _ => none) = some n := h
  cases e1 : dep x with
  | none => rw [e1] at h1; simp at h1
  | some a =>
    cases e2 : depL xs with
    | none => rw [e1, e2] at h1; simp at h1
    | some b => rw [e1, e2] at h1; exact ⟨a, b, rfl, rfl, (Option.some.inj h1).symm⟩
theorem depL_get : ∀ {xs : List D} {n j : Nat} {x : D}, depL xs = some n → xs[j]? = some x → ∃ a, dep x = some a ∧ a ≤ n
  | [], _, _, _, _, e => by simp at e
  | y :: xs, n, 0, x, h, e => by
    obtain ⟨a, b, h1, h2, rfl⟩ := depL_cons h
    simp at e; subst e
    exact ⟨a, h1, Nat.le_max_left _ _⟩
  | y :: xs, n, j + 1, x, h, e => by
    obtain ⟨a, b, h1, h2, rfl⟩ := depL_cons h
    obtain ⟨a', h3, h4⟩ := depL_get (j := j) h2 (by simpa using e)
    exact ⟨a', h3, Nat.le_trans h4 (Nat.le_max_right _ _)⟩
theorem depL_le : ∀ {xs : List D} {n k : Nat}, depL xs = some n → (∀ x ∈ xs, ∃ a, dep x = some a ∧ a ≤ k) → n ≤ k
  | [], n, k, h, _ => by cases h; exact Nat.zero_le _
  | y :: xs, n, k, h, e => by
    obtain ⟨a, b, h1, h2, rfl⟩ := depL_cons h
    obtain ⟨a', h3, h4⟩ := e y List.mem_cons_self
    have h5 := depL_le h2 fun x hx => e x (List.mem_cons_of_mem _ hx)
    rw [h1] at h3; cases h3
    exact Nat.max_le.mpr ⟨h4, h5⟩
end D
mutual
theorem plain_dep : ∀ (d : D) (n : Nat), d.dep = some n → d.toPy.plain = true ∧ d.toPy.depth = n
  | .non, _, h => by cases h; exact ⟨rfl, rfl⟩
  | .bl _, _, h => by cases h; exact ⟨rfl, rfl⟩
  | .int _, _, h => by cases h; exact ⟨rfl, rfl⟩
  | .str _, _, h => by cases h; exact ⟨rfl, rfl⟩
  | .tup xs, _, h => by
    obtain ⟨k, e1, e2⟩ := Option.map_eq_some_iff.mp h
    obtain ⟨h1, h2⟩ := plain_depL xs k e1
    exact ⟨h1, by show PyData.depthAll (D.toPyL xs) + 1 = _; rw [h2]; exact e2⟩
  | .lst xs, _, h => by
    obtain ⟨k, e1, e2⟩ := Option.map_eq_some_iff.mp h
    obtain ⟨h1, h2⟩ := plain_depL xs k e1
    exact ⟨h1, by show PyData.depthAll (D.toPyL xs) + 1 = _; rw [h2]; exact e2⟩
  | .obj _ _, _, h => by cases h
  | .set _, _, h => by cases h
  | .dic _ _, _, h => by cases h
  | .hnd, _, h => by cases h
  | .fn _, _, h => by cases h
  | .ty _, _, h => by cases h
  | .clo _ _ _ _, _, h => by cases h
  | .slf, _, h => by cases h
theorem plain_depL : ∀ (xs : List D) (n : Nat), D.depL xs = some n → PyData.plainAll (D.toPyL xs) = true ∧ PyData.depthAll (D.toPyL xs) = n
  | [], _, h => by cases h; exact ⟨rfl, rfl⟩
  | x :: xs, n, h => by
    obtain ⟨a, b, d1, d2, rfl⟩ := D.depL_cons h
    obtain ⟨h1, h2⟩ := plain_dep x a d1
    obtain ⟨h3, h4⟩ := plain_depL xs b d2
    refine ⟨?_, ?_⟩
    · show (x.toPy.plain && PyData.plainAll (D.toPyL xs)) = true
      rw [h1, h3]; rfl
    · show max x.toPy.depth (PyData.depthAll (D.toPyL xs)) = _
      rw [h2, h4]
end
/-- the places of lists that are read -/
theorem reads_at : ∀ {h : Heap} {xs : List D} {vs : List Value} {as : List Addr} {j : Nat} {v : Value}, ReadsAll h vs (D.toPyL xs) as → vs[j]? = some v → ∃ x bs, xs[j]? = some x ∧ Reads h v x.toPy bs := by
  intro h xs
  induction xs with
  | nil => intro vs as j v r e; cases r; simp at e
  | cons x xs ih =>
    intro vs as j v r e
    have r' : ReadsAll h vs (x.toPy :: D.toPyL xs) as := r
    cases r' with
    | cons r1 r2 =>
      cases j with
      | zero => simp at e; subst e; exact ⟨x, _, by simp, r1⟩
      | succ j =>
        obtain ⟨y, bs, e1, e2⟩ := ih (j := j) r2 (by simpa using e)
        exact ⟨y, bs, by simpa using e1, e2⟩
theorem reads_len : ∀ {h : Heap} {xs : List D} {vs : List Value} {as : List Addr}, ReadsAll h vs (D.toPyL xs) as → vs.length = xs.length := by
  intro h xs
  induction xs with
  | nil => intro vs as r; cases r; rfl
  | cons x xs ih =>
    intro vs as r
    have r' : ReadsAll h vs (x.toPy :: D.toPyL xs) as := r
    cases r' with
    | cons r1 r2 => rw [List.length_cons, List.length_cons, ih r2]
/-- place by place: what the first unlike ones say -/
theorem lex_lt {e r : Nat → Bool} {z : Bool} : ∀ (xs ys : List D) (i : Nat), (∀ j x y, xs[j]? = some x → ys[j]? = some y → e (i + j) = D.eq x y ∧ r (i + j) = D.lt x y) → z = decide (xs.length < ys.length) →
    Ob.lexAt e r z i (min xs.length ys.length) = D.ltL xs ys
  | [], [], _, _, hz => by subst hz; rfl
  | [], _ :: _, _, _, hz => by subst hz; simp [Ob.lexAt, D.ltL]
  | _ :: _, [], _, _, hz => by subst hz; simp [Ob.lexAt, D.ltL]
  | x :: xs, y :: ys, i, h, hz => by
    obtain ⟨h1, h2⟩ := h 0 x y (by simp) (by simp)
    rw [Nat.add_zero] at h1 h2
    rw [List.length_cons, List.length_cons, show min (xs.length + 1) (ys.length + 1) = min xs.length ys.length + 1 by omega, Ob.lexAt_succ, h1, h2,
      lex_lt xs ys (i + 1) (fun j x' y' e1 e2 => by
        have := h (j + 1) x' y' (by simpa using e1) (by simpa using e2)
        rw [show i + 1 + j = i + (j + 1) by omega]; exact this) (by subst hz; simp)]
    rfl
theorem lex_le {e r : Nat → Bool} {z : Bool} : ∀ (xs ys : List D) (i : Nat), (∀ j x y, xs[j]? = some x → ys[j]? = some y → e (i + j) = D.eq x y ∧ r (i + j) = !D.lt y x) → z = decide (xs.length ≤ ys.length) →
    Ob.lexAt e r z i (min xs.length ys.length) = !D.ltL ys xs
  | [], [], _, _, hz => by subst hz; rfl
  | [], _ :: _, _, _, hz => by subst hz; simp [Ob.lexAt, D.ltL]
  | _ :: _, [], _, _, hz => by subst hz; simp [Ob.lexAt, D.ltL]
  | x :: xs, y :: ys, i, h, hz => by
    obtain ⟨h1, h2⟩ := h 0 x y (by simp) (by simp)
    rw [Nat.add_zero] at h1 h2
    rw [List.length_cons, List.length_cons, show min (xs.length + 1) (ys.length + 1) = min xs.length ys.length + 1 by omega, Ob.lexAt_succ, h1, h2,
      lex_le xs ys (i + 1) (fun j x' y' e1 e2 => by
        have := h (j + 1) x' y' (by simpa using e1) (by simpa using e2)
        rw [show i + 1 + j = i + (j + 1) by omega]; exact this) (by subst hz; simp)]
    show _ = !(if D.eq y x = true then D.ltL ys xs else D.lt y x)
    rw [D.eq_comm y x]
    split <;> rfl
theorem lex_gt {e r : Nat → Bool} {z : Bool} : ∀ (xs ys : List D) (i : Nat), (∀ j x y, xs[j]? = some x → ys[j]? = some y → e (i + j) = D.eq x y ∧ r (i + j) = D.lt y x) → z = decide (ys.length < xs.length) →
    Ob.lexAt e r z i (min xs.length ys.length) = D.ltL ys xs
  | [], [], _, _, hz => by subst hz; rfl
  | [], _ :: _, _, _, hz => by subst hz; simp [Ob.lexAt, D.ltL]
  | _ :: _, [], _, _, hz => by subst hz; simp [Ob.lexAt, D.ltL]
  | x :: xs, y :: ys, i, h, hz => by
    obtain ⟨h1, h2⟩ := h 0 x y (by simp) (by simp)
    rw [Nat.add_zero] at h1 h2
    rw [List.length_cons, List.length_cons, show min (xs.length + 1) (ys.length + 1) = min xs.length ys.length + 1 by omega, Ob.lexAt_succ, h1, h2,
      lex_gt xs ys (i + 1) (fun j x' y' e1 e2 => by
        have := h (j + 1) x' y' (by simpa using e1) (by simpa using e2)
        rw [show i + 1 + j = i + (j + 1) by omega]; exact this) (by subst hz; simp)]
    show _ = (if D.eq y x = true then D.ltL ys xs else D.lt y x)
    rw [D.eq_comm y x]
theorem lex_ge {e r : Nat → Bool} {z : Bool} : ∀ (xs ys : List D) (i : Nat), (∀ j x y, xs[j]? = some x → ys[j]? = some y → e (i + j) = D.eq x y ∧ r (i + j) = !D.lt x y) → z = decide (ys.length ≤ xs.length) →
    Ob.lexAt e r z i (min xs.length ys.length) = !D.ltL xs ys
  | [], [], _, _, hz => by subst hz; rfl
  | [], _ :: _, _, _, hz => by subst hz; simp [Ob.lexAt, D.ltL]
  | _ :: _, [], _, _, hz => by subst hz; simp [Ob.lexAt, D.ltL]
  | x :: xs, y :: ys, i, h, hz => by
    obtain ⟨h1, h2⟩ := h 0 x y (by simp) (by simp)
    rw [Nat.add_zero] at h1 h2
    rw [List.length_cons, List.length_cons, show min (xs.length + 1) (ys.length + 1) = min xs.length ys.length + 1 by omega, Ob.lexAt_succ, h1, h2,
      lex_ge xs ys (i + 1) (fun j x' y' e1 e2 => by
        have := h (j + 1) x' y' (by simpa using e1) (by simpa using e2)
        rw [show i + 1 + j = i + (j + 1) by omega]; exact this) (by subst hz; simp)]
    show _ = !(if D.eq x y = true then D.ltL xs ys else D.lt x y)
    split <;> rfl
end Ev
set_option Elab.async false
set_option linter.all false
set_option maxRecDepth 100000
set_option maxHeartbeats 2000000
/-! Ev, part H: comparisons, by values. -/
namespace Ev
open PySem PySem.Spec PyProof.Rows L2

/-- the four orders of two values -/
structure Ords (A : Around) (s : Shared) (u w : Value) (d e : D) : Prop where
  lt : Ob.RcOp .Lt A s u w (D.lt d e)
  gt : Ob.RcOp .Gt A s u w (D.lt e d)
  le : Ob.RcOp .LtE A s u w (!D.lt e d)
  ge : Ob.RcOp .GtE A s u w (!D.lt d e)
mutual
theorem ords : ∀ (d e : D) (A : Around) (s : Shared) (u w : Value) (as bs : List Addr) (i j : Nat), Reads s.heap u d.toPy as → Reads s.heap w e.toPy bs → d.dep = some i → e.dep = some j →
    A.units + min i j < cLine → D.cmb d e = true → Ords A s u w d e
  | .int a, e, A, s, u, w, as, bs, i, j, ra, rb, _, _, _, hc => by
    obtain ⟨b, rfl⟩ : ∃ b, e = .int b := by cases e <;> first | (cases hc; done) | exact ⟨_, rfl⟩
    cases ra
    cases rb
    refine ⟨fun _ _ _ _ h => PyProof.Rows.lt_int h, fun _ _ _ _ h => PyProof.Rows.gt_int h, fun _ _ _ _ h => PyProof.Rows.le_int ?_, fun _ _ _ _ h => PyProof.Rows.ge_int ?_⟩
    · rw [show decide (a ≤ b) = !D.lt (.int b) (.int a) by simp [D.lt, ← Int.not_lt]]; exact h
    · rw [show decide (b ≤ a) = !D.lt (.int a) (.int b) by simp [D.lt, ← Int.not_lt]]; exact h
  | .str a, e, A, s, u, w, as, bs, i, j, ra, rb, _, _, _, hc => by
    obtain ⟨b, rfl⟩ : ∃ b, e = .str b := by cases e <;> first | (cases hc; done) | exact ⟨_, rfl⟩
    cases ra
    cases rb
    exact ⟨fun _ _ _ _ h => PyProof.Rows.lt_str h, fun _ _ _ _ h => PySem.P.gt_str h, fun _ _ _ _ h => PySem.P.le_str h, fun _ _ _ _ h => PySem.P.ge_str h⟩
  | .tup xs, e, A, s, u, w, as, bs, i, j, ra, rb, hi, hj, hu, hc => by
    obtain ⟨ys, rfl⟩ : ∃ b, e = .tup b := by cases e <;> first | (cases hc; done) | exact ⟨_, rfl⟩
    have ra : Reads s.heap u (.tuple (D.toPyL xs)) as := ra
    have rb : Reads s.heap w (.tuple (D.toPyL ys)) bs := rb
    obtain ⟨i', e1, e1'⟩ := Option.map_eq_some_iff.mp hi
    obtain ⟨j', e2, e2'⟩ := Option.map_eq_some_iff.mp hj
    subst e1' e2'
    cases ra with
    | @tuple a o vs n _ _ ho hoc hod hrs =>
      cases rb with
      | @tuple b o2 ws n2 _ _ ho2 hoc2 hod2 hrs2 =>
        have hu' : A.in1.units + min i' j' < cLine := by
          show A.units + 1 + min i' j' < cLine
          omega
        have key := ordsL xs ys A.in1 s vs.toList ws.toList _ _ i' j' hrs hrs2 e1 e2 hu' hc
        have l1 := reads_len hrs
        have l2 := reads_len hrs2
        have at_ : ∀ k (h1 : k < vs.size) (h2 : k < ws.size), ∃ x y, xs[k]? = some x ∧ ys[k]? = some y ∧ SeqAt.EqAt A.in1 s vs[k] ws[k] (D.eq x y) ∧ Ords A.in1 s vs[k] ws[k] x y := fun k h1 h2 => by
          refine key k vs[k] ws[k] ?_ ?_
          · rw [Array.getElem?_toList]; exact Array.getElem?_eq_getElem h1
          · rw [Array.getElem?_toList]; exact Array.getElem?_eq_getElem h2
        have hl : s.heap.IsTuple a vs := ⟨o, ho, hoc, n, hod⟩
        have hl2 : s.heap.IsTuple b ws := ⟨o2, ho2, hoc2, n2, hod2⟩
        have hz : A.units < cLine := by omega
        have s1 : vs.size = xs.length := by rw [← l1]; simp
        have s2 : ws.size = ys.length := by rw [← l2]; simp
        let ef : Nat → Bool := fun k => match xs[k]?, ys[k]? with | some x, some y => D.eq x y | _, _ => false
        let lf : Nat → Bool := fun k => match xs[k]?, ys[k]? with | some x, some y => D.lt x y | _, _ => false
        let gf : Nat → Bool := fun k => match xs[k]?, ys[k]? with | some x, some y => D.lt y x | _, _ => false
        have efx : ∀ k x y, xs[k]? = some x → ys[k]? = some y → ef k = D.eq x y := fun k x y h1 h2 => by show (match xs[k]?, ys[k]? with | some x, some y => D.eq x y | _, _ => false) = _; rw [h1, h2]
        have lfx : ∀ k x y, xs[k]? = some x → ys[k]? = some y → lf k = D.lt x y := fun k x y h1 h2 => by show (match xs[k]?, ys[k]? with | some x, some y => D.lt x y | _, _ => false) = _; rw [h1, h2]
        have gfx : ∀ k x y, xs[k]? = some x → ys[k]? = some y → gf k = D.lt y x := fun k x y h1 h2 => by show (match xs[k]?, ys[k]? with | some x, some y => D.lt y x | _, _ => false) = _; rw [h1, h2]
        have he : ∀ k (h1 : k < vs.size) (h2 : k < ws.size), SeqAt.EqAt A.in1 s vs[k] ws[k] (ef k) := fun k h1 h2 => by
          obtain ⟨x, y, e3, e4, q, _⟩ := at_ k h1 h2
          rw [efx k x y e3 e4]; exact q
        refine ⟨?_, ?_, ?_, ?_⟩
        · have R := Ob.RcOp.tuples_lt (A := A) (s := s) (e := ef) (r := lf) hl hl2 hz he fun k h1 h2 _ => by
            obtain ⟨x, y, e3, e4, _, q⟩ := at_ k h1 h2
            rw [lfx k x y e3 e4]; exact q.lt
          rw [s1, s2, lex_lt xs ys 0 (fun k x y h1 h2 => ⟨by rw [Nat.zero_add]; exact efx k x y h1 h2, by rw [Nat.zero_add]; exact lfx k x y h1 h2⟩) rfl] at R
          exact R
        · have R := Ob.RcOp.tuples_gt (A := A) (s := s) (e := ef) (r := gf) hl hl2 hz he fun k h1 h2 _ => by
            obtain ⟨x, y, e3, e4, _, q⟩ := at_ k h1 h2
            rw [gfx k x y e3 e4]; exact q.gt
          rw [s1, s2, lex_gt xs ys 0 (fun k x y h1 h2 => ⟨by rw [Nat.zero_add]; exact efx k x y h1 h2, by rw [Nat.zero_add]; exact gfx k x y h1 h2⟩) (by simp)] at R
          exact R
        · have R := Ob.RcOp.tuples_le (A := A) (s := s) (e := ef) (r := fun k => !gf k) hl hl2 hz he fun k h1 h2 _ => by
            obtain ⟨x, y, e3, e4, _, q⟩ := at_ k h1 h2
            rw [gfx k x y e3 e4]; exact q.le
          rw [s1, s2, lex_le xs ys 0 (fun k x y h1 h2 => ⟨by rw [Nat.zero_add]; exact efx k x y h1 h2, by rw [Nat.zero_add]; show (!gf k) = _; rw [gfx k x y h1 h2]⟩) rfl] at R
          exact R
        · have R := Ob.RcOp.tuples_ge (A := A) (s := s) (e := ef) (r := fun k => !lf k) hl hl2 hz he fun k h1 h2 _ => by
            obtain ⟨x, y, e3, e4, _, q⟩ := at_ k h1 h2
            rw [lfx k x y e3 e4]; exact q.ge
          rw [s1, s2, lex_ge xs ys 0 (fun k x y h1 h2 => ⟨by rw [Nat.zero_add]; exact efx k x y h1 h2, by rw [Nat.zero_add]; show (!lf k) = _; rw [lfx k x y h1 h2]⟩) (by simp)] at R
          exact R
  | .non, _, _, _, _, _, _, _, _, _, _, _, _, _, _, hc => by cases hc
  | .bl _, _, _, _, _, _, _, _, _, _, _, _, _, _, _, hc => by cases hc
  | .lst _, _, _, _, _, _, _, _, _, _, _, _, _, _, _, hc => by cases hc
  | .obj _ _, _, _, _, _, _, _, _, _, _, _, _, _, _, _, hc => by cases hc
  | .set _, _, _, _, _, _, _, _, _, _, _, _, _, _, _, hc => by cases hc
  | .dic _ _, _, _, _, _, _, _, _, _, _, _, _, _, _, _, hc => by cases hc
  | .hnd, _, _, _, _, _, _, _, _, _, _, _, _, _, _, hc => by cases hc
  | .fn _, _, _, _, _, _, _, _, _, _, _, _, _, _, _, hc => by cases hc
  | .ty _, _, _, _, _, _, _, _, _, _, _, _, _, _, _, hc => by cases hc
  | .clo _ _ _ _, _, _, _, _, _, _, _, _, _, _, _, _, _, _, hc => by cases hc
  | .slf, _, _, _, _, _, _, _, _, _, _, _, _, _, _, hc => by cases hc
theorem ordsL : ∀ (xs ys : List D) (A : Around) (s : Shared) (vs ws : List Value) (as bs : List Addr) (i j : Nat), ReadsAll s.heap vs (D.toPyL xs) as → ReadsAll s.heap ws (D.toPyL ys) bs → D.depL xs = some i → D.depL ys = some j →
    A.units + min i j < cLine → D.cmbL xs ys = true → ∀ (k : Nat) (v w : Value), vs[k]? = some v → ws[k]? = some w → ∃ x y, xs[k]? = some x ∧ ys[k]? = some y ∧ SeqAt.EqAt A s v w (D.eq x y) ∧ Ords A s v w x y
  | [], _, _, _, _, _, _, _, _, _, ra, _, _, _, _, _, k, v, w, h1, _ => by
    cases ra; simp at h1
  | _ :: _, [], _, _, _, _, _, _, _, _, _, rb, _, _, _, _, k, v, w, _, h2 => by
    cases rb; simp at h2
  | x :: xs, y :: ys, A, s, vs, ws, as, bs, i, j, ra, rb, hi, hj, hu, hc, k, v, w, h1, h2 => by
    have ra : ReadsAll s.heap vs (x.toPy :: D.toPyL xs) as := ra
    have rb : ReadsAll s.heap ws (y.toPy :: D.toPyL ys) bs := rb
    obtain ⟨a, b, d1, d2, rfl⟩ := D.depL_cons hi
    obtain ⟨a', b', d1', d2', rfl⟩ := D.depL_cons hj
    obtain ⟨c1, c2⟩ := Bool.and_eq_true_iff.mp (show (D.cmb x y && D.cmbL xs ys) = true from hc)
    cases ra with
    | cons r1 r2 =>
      cases rb with
      | cons r1' r2' =>
        cases k with
        | zero =>
          simp at h1 h2
          subst h1 h2
          refine ⟨x, y, by simp, by simp, ?_, ords x y A s _ _ _ _ a a' r1 r1' d1 d1' (by omega) c1⟩
          have p1 := plain_dep x _ d1
          have p2 := plain_dep y _ d1'
          rw [D.eq_py x y _ _ d1 d1']
          exact SeqAt.eqAt_plain _ _ A s _ _ _ _ r1 r1' p1.1 p2.1 (by rw [p1.2, p2.2]; omega)
        | succ k =>
          obtain ⟨x', y', q1, q2, q3, q4⟩ := ordsL xs ys A s _ _ _ _ b b' r2 r2' d2 d2' (by omega) c2 k v w (by simpa using h1) (by simpa using h2)
          exact ⟨x', y', by simpa using q1, by simpa using q2, q3, q4⟩
end
end Ev
set_option Elab.async false
set_option linter.all false
set_option maxRecDepth 100000
set_option maxHeartbeats 2000000
/-! Ev, part I: comparisons, subscripts, slices, built-in functions, by values. -/
namespace Ev
open PySem PySem.Spec PyProof.Rows L2
def coOp : Co → CmpOp
  | .eq => .Eq | .ne => .NotEq | .lt => .Lt | .le => .LtE | .gt => .Gt | .ge => .GtE | .inn => .In | .nin => .NotIn | .is => .Is | .isn => .IsNot
section
variable {c : Cn} {X : Cx}
/-- two plain data, as they are read -/
theorem two_read {pins : List (Addr × Obj)} {s : Shared} {σ : L2.St} {H : Hp} {z : Fz} {x y : V} {v u : Value} {d e : D} {i j : Nat} (hK : X.K = c.K) (I : L2.Inv X pins σ H s) (w : Wf c z H) (rx : RelV x v) (ry : RelV y u) (rd : Rep c.K c.mg z x d) (re : Rep c.K c.mg z y e)
    (hi : d.dep = some i) (hj : e.dep = some j) : (∃ as, Reads s.heap v d.toPy as) ∧ (∃ as, Reads s.heap u e.toPy as) ∧ (d.toPy.plain = true ∧ d.toPy.depth = i) ∧ (e.toPy.plain = true ∧ e.toPy.depth = j) := by
  obtain ⟨p1, q1, q2⟩ := Rep.dp_all (H := H) w.f d i x hi rd
  obtain ⟨p2, q3, q4⟩ := Rep.dp_all (H := H) w.f e j y hj re
  rw [← hK] at p1 p2
  exact ⟨Dp.reads I _ _ _ p1 rx, Dp.reads I _ _ _ p2 ry, ⟨q2, q1⟩, ⟨q4, q3⟩⟩
theorem ep_bl {pins : List (Addr × Obj)} {s : Shared} {σ : L2.St} {H : Hp} {z : Fz} {Q : VK} {b b' : Bool} (I : L2.Inv X pins σ H s) (w : Wf c z H) (e : b = b') (q : Po c z H Q (.bl b)) : EP X pins σ Q (.bool b') s := by
  subst e; exact ⟨.bl b, H, I, rfl, Po.here w q (.bl b)⟩
theorem ord_ok (hK : X.K = c.K) (hu : X.A.units + 70 < cLine) {op : CmpOp} {m : D → D → Bool} (pick : ∀ A s u w d e, Ords A s u w d e → Ob.RcOp op A s u w (m d e)) (hop : ∀ u w, compareOp op u w = richCompare op u w)
    (hsy : ∀ a b, m (.int a) (.int b) = m (.int a) (.int b)) {pins : List (Addr × Obj)} {s : Shared} {σ : L2.St} {H : Hp} {z : Fz} {x y : V} {v u : Value} {d e : D} {Q : VK} (I : L2.Inv X pins σ H s) (w : Wf c z H) (rx : RelV x v) (ry : RelV y u) (rd : Rep c.K c.mg z x d) (re : Rep c.K c.mg z y e)
    {i j : Nat} (hi : d.dep = some i) (hj : e.dep = some j) (hm : min i j ≤ 64) (hc : D.cmb d e = true) (q : Po c z H Q (.bl (m d e))) : wpAny (model X.prog X.w) X.A (compareOp op v u) (EP X pins σ Q) X.xe s := by
  obtain ⟨⟨as, r1⟩, ⟨bs, r2⟩, _, _⟩ := two_read hK I w rx ry rd re hi hj
  have o := ords d e X.A s v u as bs i j r1 r2 hi hj (by omega) hc
  rw [hop]
  exact pick _ _ _ _ _ _ o X.prog X.w X.xe _ (ep_bl I w rfl q)
theorem eqOk_swap {a b : D} (h : D.eqOk a b) : D.eqOk b a := by
  obtain ⟨i, j, h1, h2, h3⟩ := h
  exact ⟨j, i, h2, h1, by rw [Nat.min_comm]; exact h3⟩
theorem D.cmb_comm_aux : (∀ d e : D, D.cmb d e = D.cmb e d) ∧ ∀ xs ys : List D, D.cmbL xs ys = D.cmbL ys xs := by
  have both : ∀ n : Nat, (∀ d e : D, sizeOf d ≤ n → D.cmb d e = D.cmb e d) ∧ ∀ xs ys : List D, sizeOf xs ≤ n → D.cmbL xs ys = D.cmbL ys xs := by
    intro n
    induction n with
    | zero =>
      refine ⟨fun d e h => ?_, fun xs ys h => ?_⟩
      · cases d <;> simp at h
      · cases xs <;> simp at h
    | succ n ih =>
      refine ⟨fun d e h => ?_, fun xs ys h => ?_⟩
      · cases d with
        | tup xs =>
          cases e with
          | tup ys => exact ih.2 xs ys (by simp at h; omega)
          | _ => rfl
        | _ => cases e <;> rfl
      · cases xs with
        | nil => cases ys <;> rfl
        | cons x xs =>
          cases ys with
          | nil => rfl
          | cons y ys =>
            show (D.cmb x y && D.cmbL xs ys) = (D.cmb y x && D.cmbL ys xs)
            rw [ih.1 x y (by simp at h; omega), ih.2 xs ys (by simp at h; omega)]
  exact ⟨fun d e => (both _).1 d e (Nat.le_refl _), fun xs ys => (both _).2 xs ys (Nat.le_refl _)⟩
/-- what the meaning of < asks -/
theorem ord_ask {d e : D} {Q : Bool → Prop} {R : Xn → Prop} (q : (ordD d e).w Q R) : (∃ i j, d.dep = some i ∧ e.dep = some j ∧ min i j ≤ 64) ∧ D.cmb d e = true ∧ Q (D.lt d e) := by
  cases d <;> cases e <;> first | exact q.elim | skip
  · exact ⟨⟨0, 0, rfl, rfl, by omega⟩, rfl, q⟩
  · exact ⟨⟨0, 0, rfl, rfl, by omega⟩, rfl, q⟩
  · exact ⟨q.1.1, q.1.2, q.2⟩
theorem isIn_py (d : D) (i : Nat) (hi : d.dep = some i) : ∀ (ys : List D) (j : Nat), D.depL ys = some j → D.isIn d ys = (D.toPyL ys).any fun y => PyData.eqv y d.toPy
  | [], _, _ => rfl
  | y :: ys, j, h => by
    obtain ⟨a, b, d1, d2, rfl⟩ := D.depL_cons h
    show (D.eq y d || D.isIn d ys) = (PyData.eqv y.toPy d.toPy || (D.toPyL ys).any fun y => PyData.eqv y d.toPy)
    rw [D.eq_py y d _ _ d1 hi, isIn_py d i hi ys b d2]
theorem cmp_ok (hK : X.K = c.K) (hu : X.A.units + 70 < cLine) (p : Co) : OpR X (compareOp (coOp p)) (rM c (cmpD p)) := by
  intro pins s σ H x y v u Q I rx ry h
  obtain ⟨z, d, e, R, w, rd, re, q⟩ := h
  cases p with
  | eq =>
    obtain ⟨⟨i, j, hi, hj, hm⟩, q⟩ := q
    obtain ⟨⟨as, r1⟩, ⟨bs, r2⟩, ⟨p1, q1⟩, ⟨p2, q2⟩⟩ := two_read hK I w rx ry rd re hi hj
    exact SeqAt.eq_plain r1 r2 p1 p2 (by rw [q1, q2]; omega) (ep_bl I w (D.eq_py d e _ _ hi hj) q)
  | ne =>
    obtain ⟨⟨i, j, hi, hj, hm⟩, q⟩ := q
    obtain ⟨⟨as, r1⟩, ⟨bs, r2⟩, ⟨p1, q1⟩, ⟨p2, q2⟩⟩ := two_read hK I w rx ry rd re hi hj
    exact SeqAt.ne_plain r1 r2 p1 p2 (by rw [q1, q2]; omega) (ep_bl I w (by rw [D.eq_py d e _ _ hi hj]) q)
  | lt =>
    obtain ⟨⟨i, j, hi, hj, hm⟩, hc, q⟩ := ord_ask q
    exact ord_ok hK hu (m := D.lt) (fun _ _ _ _ _ _ o => o.lt) (fun _ _ => rfl) (fun _ _ => rfl) I w rx ry rd re hi hj hm hc q
  | gt =>
    obtain ⟨⟨i, j, hi, hj, hm⟩, hc, q⟩ := ord_ask q
    exact ord_ok hK hu (m := fun d e => D.lt e d) (fun _ _ _ _ _ _ o => o.gt) (fun _ _ => rfl) (fun _ _ => rfl) I w rx ry rd re hj hi (by rw [Nat.min_comm]; exact hm) (by rw [D.cmb_comm_aux.1]; exact hc) q
  | le =>
    obtain ⟨⟨i, j, hi, hj, hm⟩, hc, q⟩ := ord_ask q
    exact ord_ok hK hu (m := fun d e => !D.lt e d) (fun _ _ _ _ _ _ o => o.le) (fun _ _ => rfl) (fun _ _ => rfl) I w rx ry rd re hj hi (by rw [Nat.min_comm]; exact hm) (by rw [D.cmb_comm_aux.1]; exact hc) q
  | ge =>
    obtain ⟨⟨i, j, hi, hj, hm⟩, hc, q⟩ := ord_ask q
    exact ord_ok hK hu (m := fun d e => !D.lt d e) (fun _ _ _ _ _ _ o => o.ge) (fun _ _ => rfl) (fun _ _ => rfl) I w rx ry rd re hi hj hm hc q
  | inn =>
    cases e <;> first | exact q.elim | skip
    · rename_i y'
      cases d <;> first | exact q.elim | skip
      rename_i x'
      obtain ⟨h1, q⟩ := q
      obtain ⟨ch, hch⟩ : ∃ ch, x'.cps.toList = [ch] := List.length_eq_one_iff.mp h1
      obtain rfl : x' = ⟨#[ch]⟩ := by
        obtain ⟨cps⟩ := x'
        congr 1
        exact Array.toList_inj.mp hch
      refine op_in_sign pins s σ H x y v u Q I rx ry ⟨ch, y', rd.str_inv, re.str_inv, ?_⟩
      have e2 : D.signIn ⟨#[ch]⟩ y' = decide (ch ∈ y'.cps.toList) := by
        show y'.cps.toList.contains ch = _
        rw [Bool.eq_iff_iff]; simp
      exact Po.here w (by rw [← e2]; exact q) (.bl _)
    · rename_i ys
      obtain ⟨⟨i, j, hi, hj, hm⟩, q⟩ := q
      obtain ⟨⟨as, r1⟩, ⟨bs, r2⟩, ⟨p1, q1⟩, ⟨p2, q2⟩⟩ := two_read hK I w rx ry rd re hi hj
      obtain ⟨j', e1, e2⟩ := Option.map_eq_some_iff.mp (show (D.depL ys).map (· + 1) = some j from hj)
      have q2 : PyData.depthAll (D.toPyL ys) + 1 = j := q2
      refine SeqAt.in_tuple_data r2 r1 p2 p1 (by rw [q1]; omega) (ep_bl I w ?_ q)
      exact isIn_py d i hi ys j' e1
    · rename_i ys
      obtain ⟨⟨i, j, hi, hj, hm⟩, q⟩ := q
      obtain ⟨⟨as, r1⟩, ⟨bs, r2⟩, ⟨p1, q1⟩, ⟨p2, q2⟩⟩ := two_read hK I w rx ry rd re hi hj
      obtain ⟨j', e1, e2⟩ := Option.map_eq_some_iff.mp (show (D.depL ys).map (· + 1) = some j from hj)
      have q2 : PyData.depthAll (D.toPyL ys) + 1 = j := q2
      refine SeqAt.in_list_data r2 r1 p2 p1 (by rw [q1]; omega) (ep_bl I w ?_ q)
      exact isIn_py d i hi ys j' e1
  | nin =>
    cases e <;> first | exact q.elim | skip
    · rename_i y'
      cases d <;> first | exact q.elim | skip
      rename_i x'
      obtain ⟨h1, q⟩ := q
      obtain ⟨ch, hch⟩ : ∃ ch, x'.cps.toList = [ch] := List.length_eq_one_iff.mp h1
      obtain rfl : x' = ⟨#[ch]⟩ := by
        obtain ⟨cps⟩ := x'
        congr 1
        exact Array.toList_inj.mp hch
      refine op_notIn_sign pins s σ H x y v u Q I rx ry ⟨ch, y', rd.str_inv, re.str_inv, ?_⟩
      have e2 : D.signIn ⟨#[ch]⟩ y' = decide (ch ∈ y'.cps.toList) := by
        show y'.cps.toList.contains ch = _
        rw [Bool.eq_iff_iff]; simp
      exact Po.here w (by rw [← e2]; exact q) (.bl _)
    · rename_i ys
      obtain ⟨⟨i, j, hi, hj, hm⟩, q⟩ := q
      obtain ⟨⟨as, r1⟩, ⟨bs, r2⟩, ⟨p1, q1⟩, ⟨p2, q2⟩⟩ := two_read hK I w rx ry rd re hi hj
      obtain ⟨j', e1, e2⟩ := Option.map_eq_some_iff.mp (show (D.depL ys).map (· + 1) = some j from hj)
      have q2 : PyData.depthAll (D.toPyL ys) + 1 = j := q2
      refine SeqAt.notIn_tuple_data r2 r1 p2 p1 (by rw [q1]; omega) (ep_bl I w ?_ q)
      rw [isIn_py d i hi ys j' e1]
    · rename_i ys
      obtain ⟨⟨i, j, hi, hj, hm⟩, q⟩ := q
      obtain ⟨⟨as, r1⟩, ⟨bs, r2⟩, ⟨p1, q1⟩, ⟨p2, q2⟩⟩ := two_read hK I w rx ry rd re hi hj
      obtain ⟨j', e1, e2⟩ := Option.map_eq_some_iff.mp (show (D.depL ys).map (· + 1) = some j from hj)
      have q2 : PyData.depthAll (D.toPyL ys) + 1 = j := q2
      refine SeqAt.notIn_list_data r2 r1 p2 p1 (by rw [q1]; omega) (ep_bl I w ?_ q)
      rw [isIn_py d i hi ys j' e1]
  | is =>
    cases e with
    | non =>
      refine op_isN pins s σ H x y v u Q I rx ry ⟨re.non_inv, ?_⟩
      rw [show decide (x = .non) = d.isNon by cases rd <;> rfl]
      exact Po.here w q (.bl _)
    | bl b =>
      cases d with
      | bl a => exact op_isBl pins s σ H x y v u Q I rx ry ⟨a, b, rd.bl_inv, re.bl_inv, Po.here w q (.bl _)⟩
      | _ => exact q.elim
    | _ => cases d <;> exact q.elim
  | isn =>
    cases e with
    | non =>
      refine op_notN pins s σ H x y v u Q I rx ry ⟨re.non_inv, ?_⟩
      rw [show decide (x = .non) = d.isNon by cases rd <;> rfl]
      exact Po.here w q (.bl _)
    | bl b =>
      cases d with
      | bl a => exact op_notBl pins s σ H x y v u Q I rx ry ⟨a, b, rd.bl_inv, re.bl_inv, Po.here w q (.bl _)⟩
      | _ => exact q.elim
    | _ => cases d <;> exact q.elim
end
end Ev
set_option Elab.async false
set_option linter.all false
set_option maxRecDepth 100000
set_option maxHeartbeats 2000000
/-! Ev, part J: subscripts, slices, truth, built-in functions, by values. -/
namespace Ev
open PySem PySem.Spec PyProof.Rows L2
theorem w_ofO {α : Type} {o : Option α} {Q : α → Prop} {R : Xn → Prop} (h : (M.ofO o).w Q R) : ∃ a, o = some a ∧ Q a := by
  cases o with
  | none => exact h.elim
  | some a => exact ⟨a, rfl, h⟩
theorem atI_rep {K : PySem.W.Frag} {mg : Str → Option Value} {z : Fz} {vs : List V} {ds : List D} {i : Int} {d : D} (r : RepL K mg z vs ds) (h : atI ds i = some d) : ∃ v, atI vs i = some v ∧ Rep K mg z v d := by
  obtain ⟨j, h1, h2⟩ := Option.bind_eq_some_iff.mp (show (ixN ds.length i).bind (fun j => ds[j]?) = some d from h)
  obtain ⟨v, h3, h4⟩ := r.getD h2
  refine ⟨v, ?_, h4⟩
  show (ixN vs.length i).bind (fun j => vs[j]?) = some v
  rw [r.length, h1]
  exact h3
section
variable {c : Cn} {X : Cx}
theorem neg_ok : UnR X (unaryOp .USub) (fun x H Q => ∃ z d R, Wf c z H ∧ Rep c.K c.mg z x d ∧ (negD d).w (Po c z H Q) R) := by
  intro pins s σ H x v Q I rx h
  obtain ⟨z, d, R, w, rd, q⟩ := h
  cases d <;> first | exact q.elim | skip
  exact un_neg pins s σ H x v Q I rx ⟨_, rd.int_inv, Po.here w q (.int _)⟩
theorem idx_ok (hK : X.K = c.K) : IxR X (rM c idxD) := by
  intro value slice pins s σ H x y v u Q I rx ry h hs
  refine ix_seq value slice pins s σ H x y v u Q I rx ry ?_ hs
  obtain ⟨z, d, e, R, w, rd, re, q⟩ := h
  cases d <;> cases e <;> first | exact q.elim | skip
  · obtain ⟨h1, q⟩ := q
    obtain ⟨ch, h2, q⟩ := w_ofO q
    exact .inr (.inr ⟨_, _, ch, rd.str_inv, re.int_inv, h1, h2, Po.here w q (.str _)⟩)
  · obtain ⟨dd, h2, q⟩ := w_ofO q
    obtain ⟨a, vs, rfl, s1, r1⟩ := rd.tup_inv
    obtain ⟨v, h3, h4⟩ := atI_rep r1 h2
    exact .inr (.inl ⟨a, vs, _, v, rfl, re.int_inv, hK ▸ w.sqT s1, h3, Po.here w q h4⟩)
  · obtain ⟨dd, h2, q⟩ := w_ofO q
    obtain ⟨a, vs, rfl, s1, r1⟩ := rd.lst_inv
    obtain ⟨v, h3, h4⟩ := atI_rep r1 h2
    exact .inl ⟨a, vs, _, v, rfl, re.int_inv, hK ▸ w.sqL s1, h3, Po.here w q h4⟩
  · rename_i i
    obtain ⟨⟨h0, h3⟩, q⟩ := q
    cases rd with
    | hnd ha =>
      obtain ⟨⟨n0, n1, n2, e⟩, _⟩ := w.hs _ ha
      have hi : ∃ n, atI [V.int n0, .int n1, .int n2] i = some (.int n) := by
        obtain rfl | rfl | rfl : i = 0 ∨ i = 1 ∨ i = 2 := by omega
        · exact ⟨n0, rfl⟩
        · exact ⟨n1, rfl⟩
        · exact ⟨n2, rfl⟩
      obtain ⟨n, hn⟩ := hi
      exact .inl ⟨_, _, _, _, rfl, re.int_inv, .inl (.inl e), hn, Po.here w (q _ ⟨n, rfl⟩) (.int n)⟩
theorem cut_rep {K : PySem.W.Frag} {mg : Str → Option Value} {z : Fz} {vs : List V} {ds : List D} (lo hi : Option Int) (r : RepL K mg z vs ds) : RepL K mg z (cutV vs lo hi) (D.cut ds lo hi) := by
  unfold cutV D.cut
  rw [r.length]
  exact (r.drop _).take _
theorem sl_ok (hK : X.K = c.K) : SlR X (fun x lo hi H Q => ∃ z d R, Wf c z H ∧ Rep c.K c.mg z x d ∧ (slD d lo hi).w (Po c z H Q) R) := by
  intro pins s σ H x v vl vu lo hi sl Q I rx hs pl pu h
  obtain ⟨z, d, R, w, rd, q⟩ := h
  cases d <;> first | exact q.elim | skip
  · exact sl_str pins s σ H x v vl vu lo hi sl Q I rx hs pl pu ⟨_, rd.str_inv, q.1, Po.here w q.2 (.str _)⟩
  · obtain ⟨a, vs, rfl, s1, r1⟩ := rd.tup_inv
    have rc := cut_rep lo hi r1
    refine sl_tupA pins s σ H _ v vl vu lo hi sl Q I rx hs pl pu ⟨a, vs, rfl, hK ▸ w.sqT s1, fun e => ?_, fun _ p hp => Po.tup w hp q rc⟩
    have e2 : cutV vs lo hi = vs := by
      unfold cutV
      rw [e.1, e.2, List.drop_zero, Nat.sub_zero, List.take_length]
    rw [e2] at rc
    exact Po.here w q (.tup s1 rc)
  · obtain ⟨a, vs, rfl, s1, r1⟩ := rd.lst_inv
    exact sl_list pins s σ H _ v vl vu lo hi sl Q I rx hs pl pu ⟨a, vs, rfl, hK ▸ w.sqL s1, fun p hp => Po.lst w hp q (cut_rep lo hi r1)⟩
theorem truth_rep {z : Fz} {H : Hp} {x : V} {d : D} {Q : Bool → Prop} {R : Xn → Prop} (w : Wf c z H) (rd : Rep c.K c.mg z x d) (q : d.truth.w Q R) : ∃ k, TruV c.K x H k ∧ Q k := by
  cases d <;> first | exact q.elim | skip
  · rw [rd.non_inv]; exact ⟨_, rfl, q⟩
  · rw [rd.bl_inv]; exact ⟨_, rfl, q⟩
  · rw [rd.int_inv]; exact ⟨_, rfl, q⟩
  · rw [rd.str_inv]; exact ⟨_, ⟨q.1, rfl⟩, q.2⟩
  · obtain ⟨a, vs, rfl, s1, r1⟩ := rd.tup_inv
    exact ⟨_, .inr (.inl ⟨vs, w.sqT s1, rfl⟩), by cases r1 <;> exact q⟩
  · obtain ⟨a, vs, rfl, s1, r1⟩ := rd.lst_inv
    exact ⟨_, .inl ⟨vs, w.sqL s1, rfl⟩, by cases r1 <;> exact q⟩
/-- a value's type -/
theorem ty_rep {z : Fz} {H : Hp} {x : V} {d : D} {t : String} (w : Wf c z H) (rd : Rep c.K c.mg z x d) (e : d.tyName = some t) : TyX c.K H x (.type t) := by
  cases d <;> first | (cases e; done) | skip
  · cases e; rw [rd.non_inv]; exact .base .non
  · cases e; rw [rd.bl_inv]; exact .base (.bl _)
  · cases e; rw [rd.int_inv]; exact .base (.int _)
  · cases e; rw [rd.str_inv]; exact .base (.str _)
  · cases e
    obtain ⟨a, vs, rfl, s1, r1⟩ := rd.tup_inv
    rcases w.sqT s1 with (h | ⟨o, h⟩) | ⟨o, its, n, h1, h2, _⟩
    · exact .base (.tup h)
    · exact .fTuple h
    · exact .kTuple h1 h2
  · cases e
    obtain ⟨a, vs, rfl, s1, r1⟩ := rd.lst_inv
    rcases w.sqL s1 with (h | ⟨o, h⟩) | ⟨o, its, n, h1, h2, _⟩
    · exact .base (.lst h)
    · exact .base (.frz h)
    · exact .kList h1 h2
theorem tyIn_kit {d : D} {t n : String} {b : Bool} (e : d.tyName = some t) (h : D.tyIn t n = some b) : kitB t n = some b := by
  have ht : t = "NoneType" ∨ t = "bool" ∨ t = "int" ∨ t = "str" ∨ t = "tuple" ∨ t = "list" := by
    cases d <;> first | (cases e; done) | (cases e; simp)
  have hn : n = "int" ∨ n = "bool" ∨ n = "str" ∨ n = "tuple" ∨ n = "list" ∨ n = "dict" := by
    unfold D.tyIn at h
    repeat' split at h
    all_goals first | (cases h; done) | simp_all
  rcases ht with rfl | rfl | rfl | rfl | rfl | rfl <;> rcases hn with rfl | rfl | rfl | rfl | rfl | rfl <;> (cases h; decide +kernel)
end
end Ev
set_option Elab.async false
set_option linter.all false
set_option maxRecDepth 100000
set_option maxHeartbeats 2000000
/-! Ev, part K: built-in functions, by values. -/
namespace Ev
open PySem PySem.Spec PyProof.Rows L2
def blName : Bl → Str
  | .len => "len" | .abs => "abs" | .max2 => "max" | .min2 => "min" | .max => "max" | .min => "min" | .sum => "sum" | .all => "all" | .any => "any" | .int => "int" | .bool => "bool" | .str => "str"
  | .tuple => "tuple" | .list => "list" | .sorted => "sorted" | .divmod => "divmod" | .isinst => "isinstance" | .set => "set" | .repr => "repr"
/-- a function, or a class -/
def blId : Bl → String ⊕ String
  | .len => .inl "len" | .abs => .inl "abs" | .max2 => .inl "max" | .min2 => .inl "min" | .max => .inl "max" | .min => .inl "min" | .sum => .inl "sum" | .all => .inl "all" | .any => .inl "any"
  | .int => .inr "int" | .bool => .inr "bool" | .str => .inr "str" | .tuple => .inr "tuple" | .list => .inr "list" | .sorted => .inl "sorted" | .divmod => .inl "divmod" | .isinst => .inl "isinstance" | .set => .inr "set" | .repr => .inl "repr"
def blV (b : Bl) : Value := match blId b with
  | .inl n => .builtin n
  | .inr n => .type n
section
variable {c : Cn} {X : Cx}
theorem each_of {X : Cx} {c : Cn} {pins : List (Addr × Obj)} {s : Shared} {σ : L2.St} {H : Hp} {z : Fz} (hK : X.K = c.K) (I : L2.Inv X pins σ H s) (w : Wf c z H) : ∀ {vs : List V} {ds : List D} {us : List Value}, RepL c.K c.mg z vs ds → Vals vs us → (∀ d ∈ ds, ∃ i, d.dep = some i) →
    PySem.W.EachIs (fun u d => ∃ v, RelV v u ∧ Rep c.K c.mg z v d) us ds ∧ PySem.W.EachIs (fun u d => ∃ as, Reads s.heap u (D.toPy d) as) us ds
  | _, _, _, .nil, .nil, _ => ⟨.nil, .nil⟩
  | _, _, _, .cons r rs, .cons q qs, h => by
    obtain ⟨i, hi⟩ := h _ List.mem_cons_self
    obtain ⟨a1, a2⟩ := each_of hK I w rs qs fun d hd => h d (List.mem_cons_of_mem _ hd)
    obtain ⟨p1, _, _⟩ := Rep.dp_all (H := H) w.f _ i _ hi r
    rw [← hK] at p1
    exact ⟨.cons ⟨_, q, r⟩ a1, .cons (Dp.reads I _ _ _ p1 q) a2⟩
theorem each_back {c : Cn} {z : Fz} : ∀ {us : List Value} {ds : List D}, PySem.W.EachIs (fun u d => ∃ v, RelV v u ∧ Rep c.K c.mg z v d) us ds → ∃ vs, Vals vs us ∧ RepL c.K c.mg z vs ds
  | _, _, .nil => ⟨[], .nil, .nil⟩
  | _, _, .cons ⟨v, q, r⟩ t => by
    obtain ⟨vs, a1, a2⟩ := each_back t
    exact ⟨v :: vs, .cons q a1, .cons r a2⟩
def rSortD (X : Cx) (c : Cn) : List V → Hp → VK → Prop := fun xs H Q => ∃ (z : Fz) (a : Addr) (vs : List V) (ds : List D), xs = [.ref a] ∧ Wf c z H ∧ SqL X.K H a vs ∧ RepL c.K c.mg z vs ds ∧ D.SortOk ds ∧ ∀ p ws, H p = none → RepL c.K c.mg z ws (D.sort ds) → Q (.ref p) (upd H p (.lst ws))
theorem cr_sortedD (hK : X.K = c.K) (hu : X.A.units + 70 < cLine) : CallR X (.builtin "sorted") (rSortD X c) := by
  intro pins s σ H vs us Q I r h
  obtain ⟨z, a, xs, ds, rfl, w, hs, rl, ok, q⟩ := h
  obtain ⟨its, rv, hl, _⟩ := I.list hs
  rw [Vals.ref1 r]
  obtain ⟨e1, e2⟩ := each_of hK I w rl rv fun d hd => let ⟨i, h1, _⟩ := ok.dp d hd; ⟨i, h1⟩
  refine PySem.W.sorted_data hl.isList e1 e2 ok.al ok.so ok.len (fun d hd => ?_) fun out ho eo => ?_
  · obtain ⟨i, h1, h2⟩ := ok.dp d hd
    have := (plain_dep d i h1).2
    omega
  · obtain ⟨ws, a1, a2⟩ := each_back eo
    obtain ⟨ep, he'⟩ := PyProof.Rows.sortedAll_at s.heap its out.toArray
    have hlen : ws.length ≤ sizeLine := by rw [a1.length, ho]; exact ok.len
    exact ⟨.ref _, upd H (s.heap.objs.size + 1) (.lst ws), I.laid (t' := s.toks) (fun _ _ => PyProof.Rows.sortedAll_old) (Nat.le_succ _) ⟨hlen, out, ep, a1, he'⟩, rfl, q _ ws (I.hok.fresh (Nat.le_succ _)) a2⟩
theorem blt_ok (hK : X.K = c.K) (hc : X.calm = true) (hu : X.A.units + 70 < cLine) (b : Bl) : CallR X (blV b) (rMC c (bltD b)) := by
  have nope : ∀ {f : Value} {m : List D → M D}, (∀ ds, m ds = stuck) → CallR X f (rMC c m) := fun h => by
    intro pins s σ H xs us Q I r q
    obtain ⟨z, ds, R, _, _, q⟩ := q
    rw [h] at q; exact q.elim
  cases b with
  | len =>
    refine CallR.imp call_len fun xs H Q q => ?_
    obtain ⟨z, ds, R, w, r, q⟩ := q
    cases r with
    | nil => exact q.elim
    | @cons x _ d _ rd rs =>
      cases rs with
      | cons _ _ => cases d <;> exact q.elim
      | nil =>
        cases d <;> first | exact q.elim | skip
        · exact ⟨_, _, rfl, by rw [rd.str_inv]; exact ⟨q.1, rfl⟩, Po.here w q.2 (.int _)⟩
        · obtain ⟨a, vs, rfl, s1, r1⟩ := rd.tup_inv
          exact ⟨_, _, rfl, .inr ⟨vs, hK ▸ w.sqT s1, r1.length.symm⟩, Po.here w q (.int _)⟩
        · obtain ⟨a, vs, rfl, s1, r1⟩ := rd.lst_inv
          exact ⟨_, _, rfl, .inl ⟨vs, hK ▸ w.sqL s1, r1.length.symm⟩, Po.here w q (.int _)⟩
  | abs =>
    refine CallR.imp call_abs fun xs H Q q => ?_
    obtain ⟨z, ds, R, w, r, q⟩ := q
    unfold bltD at q
    split at q <;> first | contradiction | skip
    obtain ⟨x, rfl, rd⟩ := r.one_inv
    rename_i i heq
    refine ⟨i, by rw [rd.int_inv], ?_⟩
    rw [show (if i < 0 then -i else i) = (i.natAbs : Int) by split <;> omega]
    exact Po.here w q (.int _)
  | max2 =>
    refine CallR.imp (call_max2 hc) fun xs H Q q => ?_
    obtain ⟨z, ds, R, w, r, q⟩ := q
    unfold bltD at q
    split at q <;> first | contradiction | skip
    obtain ⟨x, y, rfl, rd, re⟩ := r.two_inv
    rename_i i j heq
    refine ⟨i, j, by rw [rd.int_inv, re.int_inv], ?_⟩
    rw [show (if j > i then j else i) = Max.max i j by rw [Int.max_def]; split <;> split <;> omega]
    exact Po.here w q (.int _)
  | min2 =>
    refine CallR.imp (call_min2 hc) fun xs H Q q => ?_
    obtain ⟨z, ds, R, w, r, q⟩ := q
    unfold bltD at q
    split at q <;> first | contradiction | skip
    obtain ⟨x, y, rfl, rd, re⟩ := r.two_inv
    rename_i i j heq
    refine ⟨i, j, by rw [rd.int_inv, re.int_inv], ?_⟩
    rw [show (if j < i then j else i) = Min.min i j by rw [Int.min_def]; split <;> split <;> omega]
    exact Po.here w q (.int _)
  | int =>
    refine CallR.imp call_int1 fun xs H Q q => ?_
    obtain ⟨z, ds, R, w, r, q⟩ := q
    unfold bltD at q
    split at q <;> first | contradiction | skip
    obtain ⟨x, rfl, rd⟩ := r.one_inv
    exact .inl ⟨_, by rw [rd.int_inv], Po.here w q (.int _)⟩
  | bool =>
    refine CallR.imp call_bool1 fun xs H Q q => ?_
    obtain ⟨z, ds, R, w, r, q⟩ := q
    unfold bltD at q
    split at q <;> first | contradiction | skip
    · obtain ⟨x, rfl, rd⟩ := r.one_inv
      exact .inr ⟨_, by rw [rd.bl_inv], Po.here w q (.bl _)⟩
    · obtain ⟨x, rfl, rd⟩ := r.one_inv
      exact .inl ⟨_, by rw [rd.int_inv], Po.here w q (.bl _)⟩
  | tuple =>
    refine CallR.imp call_tuple_of fun xs H Q q => ?_
    obtain ⟨z, ds, R, w, r, q⟩ := q
    unfold bltD at q
    split at q <;> first | contradiction | skip
    · obtain ⟨x, rfl, rd⟩ := r.one_inv
      obtain ⟨a, vs, rfl, s1, r1⟩ := rd.tup_inv
      exact ⟨a, vs, rfl, .inr ⟨hK ▸ w.sqT s1, Po.here w q rd⟩⟩
    · obtain ⟨x, rfl, rd⟩ := r.one_inv
      obtain ⟨a, vs, rfl, s1, r1⟩ := rd.lst_inv
      exact ⟨a, vs, rfl, .inl ⟨hK ▸ w.sqL s1, fun p hp => Po.tup w hp q r1⟩⟩
  | list =>
    refine CallR.imp call_list_of fun xs H Q q => ?_
    obtain ⟨z, ds, R, w, r, q⟩ := q
    unfold bltD at q
    split at q <;> first | contradiction | skip
    · obtain ⟨x, rfl, rd⟩ := r.one_inv
      obtain ⟨a, vs, rfl, s1, r1⟩ := rd.tup_inv
      exact ⟨a, vs, rfl, .inr (hK ▸ w.sqT s1), fun p hp => Po.lst w hp q r1⟩
    · obtain ⟨x, rfl, rd⟩ := r.one_inv
      obtain ⟨a, vs, rfl, s1, r1⟩ := rd.lst_inv
      exact ⟨a, vs, rfl, .inl (hK ▸ w.sqL s1), fun p hp => Po.lst w hp q r1⟩
  | all =>
    refine CallR.imp (cr_all hc) fun xs H Q q => ?_
    obtain ⟨z, ds, R, w, r, q⟩ := q
    unfold bltD at q
    split at q <;> first | contradiction | skip
    obtain ⟨x, rfl, rd⟩ := r.one_inv
    obtain ⟨bs, e, q⟩ := w_ofO q
    obtain ⟨a, vs, rfl, s1, r1⟩ := rd.lst_inv
    have e2 := r1.bls e
    subst e2
    exact ⟨a, bs, rfl, hK ▸ w.sqL s1, Po.here w q (.bl _)⟩
  | any =>
    refine CallR.imp (cr_any hc) fun xs H Q q => ?_
    obtain ⟨z, ds, R, w, r, q⟩ := q
    unfold bltD at q
    split at q <;> first | contradiction | skip
    obtain ⟨x, rfl, rd⟩ := r.one_inv
    obtain ⟨bs, e, q⟩ := w_ofO q
    obtain ⟨a, vs, rfl, s1, r1⟩ := rd.lst_inv
    have e2 := r1.bls e
    subst e2
    exact ⟨a, bs, rfl, hK ▸ w.sqL s1, Po.here w q (.bl _)⟩
  | sum =>
    refine CallR.imp (cr_sum hc) fun xs H Q q => ?_
    obtain ⟨z, ds, R, w, r, q⟩ := q
    unfold bltD at q
    split at q <;> first | contradiction | skip
    obtain ⟨x, rfl, rd⟩ := r.one_inv
    obtain ⟨bs, e, q⟩ := w_ofO q
    obtain ⟨a, vs, rfl, s1, r1⟩ := rd.lst_inv
    have e2 := r1.ints e
    subst e2
    exact ⟨a, bs, rfl, hK ▸ w.sqL s1, Po.here w q (.int _)⟩
  | divmod =>
    refine CallR.imp call_divmod fun xs H Q q => ?_
    obtain ⟨z, ds, R, w, r, q⟩ := q
    unfold bltD at q
    split at q <;> first | contradiction | skip
    obtain ⟨x, y, rfl, rd, re⟩ := r.two_inv
    exact ⟨_, _, by rw [rd.int_inv, re.int_inv], q.1, fun p hp => Po.tup w hp q.2 (.cons (.int _) (.cons (.int _) .nil))⟩
  | isinst =>
    refine CallR.imp call_isi fun xs H Q q => ?_
    obtain ⟨z, ds, R, w, r, q⟩ := q
    unfold bltD at q
    split at q <;> first | contradiction | skip
    obtain ⟨x, y, rfl, rd, re⟩ := r.two_inv
    obtain ⟨b, e, q⟩ := w_ofO q
    obtain ⟨t, e1, e2⟩ := Option.bind_eq_some_iff.mp e
    exact ⟨x, y, .type t, .type _, b, rfl, by rw [re.ty_inv]; exact .ty _, hK ▸ ty_rep w rd e1, kit_ty (tyIn_kit e1 e2), Po.here w q (.bl _)⟩
  | max => exact nope fun ds => by unfold bltD; split <;> first | contradiction | rfl
  | min => exact nope fun ds => by unfold bltD; split <;> first | contradiction | rfl
  | str => exact nope fun ds => by unfold bltD; split <;> first | contradiction | rfl
  | sorted =>
    refine CallR.imp (cr_sortedD hK hu) fun xs H Q q => ?_
    obtain ⟨z, ds, R, w, r, q⟩ := q
    unfold bltD at q
    split at q <;> first | contradiction | skip
    obtain ⟨x, rfl, rd⟩ := r.one_inv
    obtain ⟨a, vs, rfl, s1, r1⟩ := rd.lst_inv
    exact ⟨z, a, vs, _, rfl, w, hK ▸ w.sqL s1, r1, q.1, fun p ws hp r2 => Po.lst w hp q.2 r2⟩
  | set => exact nope fun ds => by unfold bltD; split <;> first | contradiction | rfl
  | repr => exact nope fun ds => by unfold bltD; split <;> first | contradiction | rfl
end
end Ev
set_option Elab.async false
set_option linter.all false
set_option maxRecDepth 100000
set_option maxHeartbeats 4000000
/-! Ev, part L: the text and its small syntax. -/
namespace Ev
open PySem PySem.Spec PyProof.Rows L2

/-- what is known of a def's text -/
structure Gx where
  N : List Str
  defs : List Str
  free : List Str
  kws : List (Str × Nat × List Str × List Nat)
  top : Bool
  lam : Bool
  clss : List Str
  props : List (Str × Str)
  flds : List (Str × Str)
  iscs : List Str
/-- within a comprehension -/
def Gx.blk (g : Gx) : Gx := { g with top := false, lam := false }
def bltTy : List (Str × String) := [("int", "int"), ("str", "str"), ("tuple", "tuple"), ("list", "list"), ("bool", "bool"), ("dict", "dict")]
def okName (x : Str) : Bool := !(x == ("__debug__" : Str)) && (!(x == ("__classdict__" : Str)) && !(x == ("__name__" : Str)))
def visB (sc : Scope) (x : Str) : Bool := match sc.names.lookup x with
  | some .local => true
  | some .cell => true
  | some .free => true
  | _ => false
def gloB (sc : Scope) (x : Str) : Bool := match sc.names.lookup x with
  | some .globalImplicit => true
  | _ => false
/-- no star, no display of a set, no conditional: nothing that its place treats by itself -/
def plainX : Expr → Bool
  | .Starred .. => false
  | .Set .. => false
  | .SetComp .. => false
  | .DictComp .. => false
  | .Slice .. => false
  | _ => true
def noIf : Expr → Bool
  | .IfExp .. => false
  | _ => true
def isName (x : Str) : Expr → Bool
  | .Name y _ => x == y
  | _ => false
def optB {α : Type} (o : Option α) (f : α → Bool) : Bool := match o with
  | some a => f a
  | none => false
theorem optB_ok {α : Type} {o : Option α} {f : α → Bool} (h : optB o f = true) : ∃ a, o = some a ∧ f a = true := by
  cases o with
  | none => cases h
  | some a => exact ⟨a, rfl, h⟩
/-! the text's forms -/
def asName : Expr → Option Str
  | .Name y _ => some y
  | _ => none
def asConst : Expr → Option Const
  | .Constant k _ _ => some k
  | _ => none
def asBin : Expr → Option (Expr × Operator × Expr)
  | .BinOp l q r _ => some (l, q, r)
  | _ => none
def asUn : Expr → Option (UnaryOp × Expr)
  | .UnaryOp q e _ => some (q, e)
  | _ => none
def asCmp : Expr → Option (Expr × List CmpOp × List Expr)
  | .Compare l qs rs _ => some (l, qs, rs)
  | _ => none
def asCmp1 (x : Expr) : Option (Expr × CmpOp × Expr) := match asCmp x with
  | some (l, [q], [r]) => some (l, q, r)
  | _ => none
def asCmp2 (x : Expr) : Option (Expr × CmpOp × Expr × CmpOp × Expr) := match asCmp x with
  | some (l, [q, q'], [r, t]) => some (l, q, r, q', t)
  | _ => none
/-- the first part, the rest as a text of its own -/
def asBool : Expr → Option (BoolOp × Expr × Expr)
  | .BoolOp op [x, y] _ => some (op, x, y)
  | .BoolOp op (x :: y :: z :: l) p => some (op, x, .BoolOp op (y :: z :: l) p)
  | _ => none
def asIf : Expr → Option (Expr × Expr × Expr)
  | .IfExp t x y _ => some (t, x, y)
  | _ => none
def asTup : Expr → Option (List Expr)
  | .Tuple xs _ _ => some xs
  | _ => none
def asLst : Expr → Option (List Expr)
  | .List xs _ => some xs
  | _ => none
def asSub : Expr → Option (Expr × Expr)
  | .Subscript x y _ => some (x, y)
  | _ => none
def asSlice : Expr → Option (Option Expr × Option Expr)
  | .Slice l h none _ => some (l, h)
  | _ => none
/-- a call by a name, of one argument at least, without keywords -/
def asCall : Expr → Option (Str × Expr × List Expr)
  | .Call (.Name y _) (x :: xs) [] _ => some (y, x, xs)
  | _ => none
def asCall0 : Expr → Option Str
  | .Call (.Name y _) [] [] _ => some y
  | _ => none
def asCallK : Expr → Option (Str × List Expr × List Keyword)
  | .Call (.Name y _) es (k :: ks) _ => some (y, es, k :: ks)
  | _ => none
theorem asCall0_ok {x : Expr} {y : Str} (h : asCall0 x = some y) : ∃ p q, x = .Call (.Name y p) [] [] q := by
  unfold asCall0 at h
  split at h
  · cases h; exact ⟨_, _, rfl⟩
  · cases h
theorem asCallK_ok {x : Expr} {y : Str} {es : List Expr} {ks : List Keyword} (h : asCallK x = some (y, es, ks)) : ∃ p q, x = .Call (.Name y p) es ks q := by
  unfold asCallK at h
  split at h
  · cases h; exact ⟨_, _, rfl⟩
  · cases h
theorem asName_ok {x : Expr} {y : Str} (h : asName x = some y) : ∃ p, x = .Name y p := by
  cases x <;> first | (cases h; done) | (cases h; exact ⟨_, rfl⟩)
theorem asConst_ok {x : Expr} {y : Const} (h : asConst x = some y) : ∃ j p, x = .Constant y j p := by
  cases x <;> first | (cases h; done) | (cases h; exact ⟨_, _, rfl⟩)
theorem asBin_ok {x l r : Expr} {q : Operator} (h : asBin x = some (l, q, r)) : ∃ p, x = .BinOp l q r p := by
  cases x <;> first | (cases h; done) | (cases h; exact ⟨_, rfl⟩)
theorem asUn_ok {x e : Expr} {q : UnaryOp} (h : asUn x = some (q, e)) : ∃ p, x = .UnaryOp q e p := by
  cases x <;> first | (cases h; done) | (cases h; exact ⟨_, rfl⟩)
theorem asCmp_ok {x l : Expr} {qs : List CmpOp} {rs : List Expr} (h : asCmp x = some (l, qs, rs)) : ∃ p, x = .Compare l qs rs p := by
  cases x <;> first | (cases h; done) | (cases h; exact ⟨_, rfl⟩)
theorem asCmp1_ok {x l r : Expr} {q : CmpOp} (h : asCmp1 x = some (l, q, r)) : ∃ p, x = .Compare l [q] [r] p := by
  unfold asCmp1 at h
  split at h
  · rename_i e; cases h; exact asCmp_ok e
  · cases h
theorem asCmp2_ok {x l r t : Expr} {q q' : CmpOp} (h : asCmp2 x = some (l, q, r, q', t)) : ∃ p, x = .Compare l [q, q'] [r, t] p := by
  unfold asCmp2 at h
  split at h
  · rename_i e; cases h; exact asCmp_ok e
  · cases h
theorem asBool_ok {x a b : Expr} {q : BoolOp} (h : asBool x = some (q, a, b)) : ∃ y l p, x = .BoolOp q (a :: y :: l) p ∧ ((l = [] ∧ b = y) ∨ (l ≠ [] ∧ b = .BoolOp q (y :: l) p)) := by
  unfold asBool at h
  split at h
  · cases h; exact ⟨_, _, _, rfl, .inl ⟨rfl, rfl⟩⟩
  · cases h; exact ⟨_, _, _, rfl, .inr ⟨by simp, rfl⟩⟩
  · cases h
theorem asIf_ok {x t a b : Expr} (h : asIf x = some (t, a, b)) : ∃ p, x = .IfExp t a b p := by
  cases x <;> first | (cases h; done) | (cases h; exact ⟨_, rfl⟩)
theorem asTup_ok {x : Expr} {l : List Expr} (h : asTup x = some l) : ∃ k p, x = .Tuple l k p := by
  cases x <;> first | (cases h; done) | (cases h; exact ⟨_, _, rfl⟩)
theorem asLst_ok {x : Expr} {l : List Expr} (h : asLst x = some l) : ∃ p, x = .List l p := by
  cases x <;> first | (cases h; done) | (cases h; exact ⟨_, rfl⟩)
theorem asSub_ok {x a b : Expr} (h : asSub x = some (a, b)) : ∃ p, x = .Subscript a b p := by
  cases x <;> first | (cases h; done) | (cases h; exact ⟨_, rfl⟩)
theorem asSlice_ok {x : Expr} {a b : Option Expr} (h : asSlice x = some (a, b)) : ∃ p, x = .Slice a b none p := by
  unfold asSlice at h
  split at h
  · cases h; exact ⟨_, rfl⟩
  · cases h
theorem asCall_ok {x a : Expr} {y : Str} {l : List Expr} (h : asCall x = some (y, a, l)) : ∃ p q, x = .Call (.Name y p) (a :: l) [] q := by
  unfold asCall at h
  split at h
  · cases h; exact ⟨_, _, rfl⟩
  · cases h
/-- an attribute of what a name holds, or of what a call gives -/
def asAttr : Expr → Option (Expr × Str)
  | .Attribute (.Name y p) x _ => some (.Name y p, x)
  | .Attribute (.Call (.Name y q) (a :: l) k p) x _ => some (.Call (.Name y q) (a :: l) k p, x)
  | .Attribute (.Attribute e y p) x _ => some (.Attribute e y p, x)
  | .Attribute (.Subscript a b p) x _ => some (.Subscript a b p, x)
  | _ => none
theorem asAttr_ok {e b : Expr} {x : Str} (h : asAttr e = some (b, x)) : ∃ p, e = .Attribute b x p ∧ ∀ env, attributeBase b x env (eval b env) = eval b env := by
  unfold asAttr at h
  split at h <;> first | (cases h; done) | (cases h; exact ⟨_, rfl, fun env => rfl⟩)
/-- what a method is read of -/
def isBase : Expr → Bool
  | .Name .. => true
  | .Constant .. => true
  | .Attribute .. => true
  | .Subscript .. => true
  | .Call _ (_ :: _) _ _ => true
  | _ => false
theorem isBase_ok {b : Expr} (h : isBase b = true) (x : Str) (env : Env) (w : Sem Value) : attributeBase b x env w = w := by
  unfold isBase at h
  split at h <;> first | rfl | (cases h; done) | skip
  rename_i f _ _ _ _
  cases f <;> rfl
/-- a method called, without keywords, in one line -/
def asMth : Expr → Option (Expr × Str × List Expr)
  | .Call (.Attribute b x ap) es [] cp => if (isBase b && (ap.endLine == cp.line)) = true then some (b, x, es) else none
  | _ => none
theorem asMth_ok {e b : Expr} {x : Str} {es : List Expr} (h : asMth e = some (b, x, es)) : ∃ ap cp, e = .Call (.Attribute b x ap) es [] cp ∧ (ap.endLine == cp.line) = true ∧ ∀ y env w, attributeBase b y env w = w := by
  unfold asMth at h
  split at h
  · rename_i b' x' ap es' cp
    by_cases hc : (isBase b' && (ap.endLine == cp.line)) = true
    · rw [if_pos hc] at h
      cases h
      obtain ⟨h1, h2⟩ := Bool.and_eq_true_iff.mp hc
      exact ⟨_, _, rfl, h2, fun y env w => isBase_ok h1 y env w⟩
    · rw [if_neg hc] at h; cases h
  · cases h
/-- dict(zip(a, b)) -/
def asDzip : Expr → Option (Expr × Expr)
  | .Call (.Name y _) [.Call (.Name z _) [a, b] [] _] [] _ => if (y == ("dict" : Str) && z == ("zip" : Str)) = true then some (a, b) else none
  | _ => none
theorem asDzip_ok {e a b : Expr} (h : asDzip e = some (a, b)) : ∃ p q r t, e = .Call (.Name "dict" p) [.Call (.Name "zip" q) [a, b] [] r] [] t := by
  unfold asDzip at h
  split at h
  · split at h
    · rename_i hc
      cases h
      obtain ⟨h1, h2⟩ := Bool.and_eq_true_iff.mp hc
      rw [beq_iff_eq.mp h1, beq_iff_eq.mp h2]
      exact ⟨_, _, _, _, rfl⟩
    · cases h
  · cases h
def mtName : Mt → Str
  | .split => "split" | .join => "join" | .upper => "upper" | .replace => "replace" | .index => "index" | .count => "count" | .get => "get" | .items => "items"
def mtArgs : Mt → List Expr → Bool
  | .split, [_] => true
  | .get, [_, _] => true
  | _, _ => false
/-- isinstance(e, C) -/
def asIsc : Expr → Option (Expr × Str)
  | .Call (.Name y _) [a, .Name z _] [] _ => if y == ("isinstance" : Str) then some (a, z) else none
  | _ => none
theorem asIsc_ok {e a : Expr} {z : Str} (h : asIsc e = some (a, z)) : ∃ p q r, e = .Call (.Name "isinstance" p) [a, .Name z q] [] r := by
  unfold asIsc at h
  split at h
  · split at h
    · rename_i hy
      cases h
      rw [beq_iff_eq.mp hy]
      exact ⟨_, _, _, rfl⟩
    · cases h
  · cases h
/-- a comprehension of one clause, of two -/
def asLc1 : Expr → Option (Expr × Expr × Expr × List Expr × Scope)
  | .ListComp e [⟨t, i, fs, 0⟩] sc _ => some (e, t, i, fs, sc)
  | _ => none
def asLc2 : Expr → Option (Expr × Expr × Expr × List Expr × Expr × Expr × List Expr × Scope)
  | .ListComp e [⟨t, i, fs, 0⟩, ⟨t2, i2, fs2, 0⟩] sc _ => some (e, t, i, fs, t2, i2, fs2, sc)
  | _ => none
theorem asLc1_ok {x e t i : Expr} {fs : List Expr} {sc : Scope} (h : asLc1 x = some (e, t, i, fs, sc)) : ∃ p, x = .ListComp e [⟨t, i, fs, 0⟩] sc p := by
  unfold asLc1 at h
  split at h
  · cases h; exact ⟨_, rfl⟩
  · cases h
theorem asLc2_ok {x e t i t2 i2 : Expr} {fs fs2 : List Expr} {sc : Scope} (h : asLc2 x = some (e, t, i, fs, t2, i2, fs2, sc)) : ∃ p, x = .ListComp e [⟨t, i, fs, 0⟩, ⟨t2, i2, fs2, 0⟩] sc p := by
  unfold asLc2 at h
  split at h
  · cases h; exact ⟨_, rfl⟩
  · cases h
/-- a written constant -/
def sameConst : Ct → Const → Bool
  | .int n, .int m => n == m
  | .str n, .str m => n == m
  | .bl n, .bool m => n == m
  | .non, .none => true
  | _, _ => false
end Ev
set_option Elab.async false
set_option linter.all false
set_option maxRecDepth 100000
set_option maxHeartbeats 4000000
/-! Ev, part E: the looks at a text. -/
namespace Ev
open PySem PySem.Spec PyProof.Rows L2

def locB (sc : Scope) (x : Str) : Bool := match sc.names.lookup x with
  | some .local => true
  | some .cell => true
  | _ => false
mutual
/-- the target's text -/
def chkT (N : List Str) (sc : Scope) : Tg → Expr → Bool
  | .nm i, x => optB (asName x) fun y => N[i]? == some y && locB sc y
  | .tp l, x => optB (asTup x) fun xs => chkTs N sc l xs
  | .hs _ _, _ => false
def chkTs (N : List Str) (sc : Scope) : List Tg → List Expr → Bool
  | [], [] => true
  | t :: r, x :: xs => plainX x && (chkT N sc t x && chkTs N sc r xs)
  | _, _ => false
end
def ownOf (N : List Str) (vs : List Nat) : List (Str × Nat) := vs.map fun i => (N[i]?.getD "", i)
/-! ### lambdas -/
def parsOf (p : Arguments) : List Str := p.args.map (·.arg)
/-- plain parameters, two at most -/
def parsB (p : Arguments) : Bool := p.posonlyargs.isEmpty && (p.vararg.isNone && (p.kwonlyargs.isEmpty && (p.kw_defaults.isEmpty && (p.kwarg.isNone && (p.defaults.isEmpty && (match p.args with
  | [] => true
  | [_] => true
  | [a, b] => !(a.arg == b.arg) && !(b.arg == a.arg)
  | _ => false))))))
def namesOf (N : List Str) (fv : List Nat) : List Str := fv.map fun i => N[i]?.getD ""
/-- a lambda's names; what it captures stands at fv -/
def lamP (N : List Str) (sc : Scope) (n : Nat) (fv : List Nat) (ex : List Str) (p : Arguments) (scope : Scope) : Bool :=
  parsB p && (n == p.args.length && (NdefX.nscB (parsOf p ++ namesOf N fv ++ ex) (parsOf p) (namesOf N fv) scope && (NdefX.ndefB sc scope (namesOf N fv) && fv.all fun i => decide (i < N.length))))
def Gx.lamG (g : Gx) (ps : List Str) (fv : List Nat) (ex : List Str) : Gx := { g with N := ps ++ namesOf g.N fv ++ ex, top := false, lam := false }
def asStar : Expr → Option Expr
  | .Starred e _ => some e
  | _ => none
theorem asStar_ok {x e : Expr} (h : asStar x = some e) : ∃ p, x = .Starred e p := by
  cases x <;> first | (cases h; done) | (cases h; exact ⟨_, rfl⟩)
/-- a call by a name; its last argument is a lambda -/
def asCallL : Expr → Option (Str × List Expr × Arguments × Expr × Scope)
  | .Call (.Name y _) es [] _ => match es.getLast? with
    | some (.Lambda p b sc _) => some (y, es.dropLast, p, b, sc)
    | _ => none
  | _ => none
theorem asCallL_ok {x : Expr} {y : Str} {es : List Expr} {p : Arguments} {b : Expr} {sc : Scope} (h : asCallL x = some (y, es, p, b, sc)) : ∃ q r l, x = .Call (.Name y q) (es ++ [.Lambda p b sc l]) [] r := by
  unfold asCallL at h
  split at h
  · rename_i y q l r
    split at h
    · rename_i p b sc lp e
      cases h
      obtain ⟨l', e⟩ := List.getLast?_eq_some_iff.mp e
      refine ⟨q, r, lp, ?_⟩
      rw [e, List.dropLast_concat]
    · cases h
  · cases h
mutual
def chkE : Gx → Scope → E → Expr → Bool
  | g, sc, .var i, x => optB (asName x) fun y => g.N[i]? == some y && (visB sc y && okName y)
  | g, _, .cst d, x => optB (asConst x) fun k => sameConst d k
  | g, sc, .glb f, x => optB (asName x) fun y => f == y && (gloB sc y && okName y)
  | g, sc, .bty f n, x => optB (asName x) fun y => f == y && (gloB sc y && (g.free.contains y && bltTy.contains (y, n)))
  | g, sc, .bop p a b, x => optB (asBin x) fun t => t.2.1 == boOp p && (chkE g sc a t.1 && chkE g sc b t.2.2)
  | g, sc, .neg a, x => optB (asUn x) fun t => t.1 == .USub && chkE g sc a t.2
  | g, sc, .cmp p a b, x => optB (asCmp1 x) fun t => t.2.1 == coOp p && (chkE g sc a t.1 && (plainX t.2.2 && chkE g sc b t.2.2))
  | g, sc, .cm2 p p' a b d, x => optB (asCmp2 x) fun t => t.2.1 == coOp p && (t.2.2.2.1 == coOp p' && (chkE g sc a t.1 && (chkE g sc b t.2.2.1 && (plainX t.2.2.2.2 && chkE g sc d t.2.2.2.2))))
  | g, sc, .and a b, x => optB (asBool x) fun t => t.1 == .And && (noIf t.2.1 && (chkE g sc a t.2.1 && (noIf t.2.2 && chkE g sc b t.2.2)))
  | g, sc, .or a b, x => optB (asBool x) fun t => t.1 == .Or && (noIf t.2.1 && (chkE g sc a t.2.1 && (noIf t.2.2 && chkE g sc b t.2.2)))
  | g, sc, .not a, x => optB (asUn x) fun t => t.1 == .Not && (noIf t.2 && chkE g sc a t.2)
  | g, sc, .ite d a b, x => optB (asIf x) fun t => noIf t.1 && (chkE g sc d t.1 && (chkE g sc a t.2.1 && chkE g sc b t.2.2))
  | g, sc, .tup es, x => optB (asTup x) fun xs => chkEd g sc es xs
  | g, sc, .lst es, x => optB (asLst x) fun xs => chkEd g sc es xs
  | g, sc, .hnew es, x => optB (asLst x) fun xs => chkEs g sc es xs
  | g, sc, .lrng es, x => optB (asCall x) fun t => t.1 == ("list" : Str) && (gloB sc "list" && (g.free.contains "list" && (t.2.2.isEmpty && optB (asCall t.2.1) fun u => u.1 == ("range" : Str) && (gloB sc "range" && (g.free.contains "range" && (chkEs g sc es (u.2.1 :: u.2.2) && (match u.2.2 with | [] => true | [_] => true | _ => false)))))))
  | g, sc, .idx a i, x => optB (asSub x) fun t => chkE g sc a t.1 && (plainX t.2 && chkE g sc i t.2)
  | g, sc, .sl a lo hi, x => optB (asSub x) fun t => optB (asSlice t.2) fun u => chkE g sc a t.1 && (chkO g sc lo u.1 && chkO g sc hi u.2)
  | g, sc, .call f es, x => optB (asCall x) fun t => f == t.1 && (gloB sc t.1 && (okName t.1 && (g.defs.contains t.1 && chkEs g sc es (t.2.1 :: t.2.2))))
  | g, sc, .call0 f, x => optB (asCall0 x) fun t => f == t && (gloB sc t && (okName t && g.defs.contains t))
  | g, sc, .callk f es ks kes pm, x => optB (asCallK x) fun t => f == t.1 && (gloB sc t.1 && (okName t.1 && (g.defs.contains t.1 && (g.kws.contains (t.1, t.2.1.length, ks, pm) && (chkEs g sc es t.2.1 && (decide (t.2.2.map (·.arg) = ks.map some) && chkEs g sc kes (t.2.2.map (·.value))))))))
  | g, sc, .blt b es, x => optB (asCall x) fun t => blName b == t.1 && (gloB sc t.1 && (okName t.1 && (g.free.contains t.1 && chkEs g sc es (t.2.1 :: t.2.2))))
  | g, sc, .callv i es, x => match es with
    | .nil => optB (asCall0 x) fun y => g.N[i]? == some y && (visB sc y && okName y)
    | .cons e r => optB (asCall x) fun t => g.N[i]? == some t.1 && (visB sc t.1 && (okName t.1 && (plainX t.2.1 && (chkE g sc e t.2.1 && chkEs g sc r t.2.2))))
    | .star _ _ => false
  | g, sc, .comp e t it d, x => optB (asLc1 x) fun u => chkI g sc it u.2.1 u.2.2.1 && (blkC g.N sc u.2.2.2.2 (ownOf g.N t.vars) && (chkT g.N u.2.2.2.2 t u.2.1 && (chkC g.blk (relS u.2.2.2.2 sc) d u.2.2.2.1 && chkE g.blk (relS u.2.2.2.2 sc) e u.1)))
  | g, sc, .comp2 e t it d t2 it2 d2, x => optB (asLc2 x) fun u => chkI g sc it u.2.1 u.2.2.1 && (blkC g.N sc u.2.2.2.2.2.2.2 (ownOf g.N (t.vars ++ t2.vars)) && (chkT g.N u.2.2.2.2.2.2.2 t u.2.1 && (chkT g.N u.2.2.2.2.2.2.2 t2 u.2.2.2.2.1 && (chkC g.blk (relS u.2.2.2.2.2.2.2 sc) d u.2.2.2.1 &&
      (chkI g.blk (relS u.2.2.2.2.2.2.2 sc) it2 u.2.2.2.2.1 u.2.2.2.2.2.1 && (chkC g.blk (relS u.2.2.2.2.2.2.2 sc) d2 u.2.2.2.2.2.2.1 && chkE g.blk (relS u.2.2.2.2.2.2.2 sc) e u.1))))))
  | g, sc, .mth m a es, x => optB (asMth x) fun t => mtName m == t.2.1 && (mtArgs m t.2.2 && (chkE g sc a t.1 && chkEs g sc es t.2.2))
  | g, sc, .dzip es, x => optB (asDzip x) fun t => gloB sc "zip" && (g.free.contains "zip" && (gloB sc "dict" && (g.free.contains "dict" && chkEs g sc es [t.1, t.2])))
  | g, sc, .fld a c y, x => optB (asAttr x) fun t => y == t.2 && (g.flds.contains (c, y) && chkE g sc a t.1)
  | g, sc, .prop a c y, x => optB (asAttr x) fun t => y == t.2 && (g.props.contains (c, y) && chkE g sc a t.1)
  | g, sc, .mk c es, x => optB (asCall x) fun t => c == t.1 && (gloB sc t.1 && (okName t.1 && (g.clss.contains t.1 && chkEs g sc es (t.2.1 :: t.2.2))))
  | g, sc, .isc a c, x => optB (asIsc x) fun t => c == t.2 && (gloB sc "isinstance" && (g.free.contains "isinstance" && (gloB sc c && (okName c && (g.iscs.contains c && (plainX t.1 && chkE g sc a t.1))))))
  | g, sc, .calll f es n b fv ex, x => optB (asCallL x) fun t => f == t.1 && (gloB sc t.1 && (okName t.1 && (g.defs.contains t.1 && (chkEs g sc es t.2.1 && (g.top && (g.lam && (lamP g.N sc n fv ex t.2.2.1 t.2.2.2.2 && chkE (g.lamG (parsOf t.2.2.1) fv ex) t.2.2.2.2 b t.2.2.2.1)))))))
def chkEs : Gx → Scope → Es → List Expr → Bool
  | g, _, .nil, [] => true
  | g, sc, .cons e r, x :: xs => plainX x && (chkE g sc e x && chkEs g sc r xs)
  | g, _, _, _ => false
/-- a display: stars too -/
def chkEd : Gx → Scope → Es → List Expr → Bool
  | g, _, .nil, [] => true
  | g, sc, .cons e r, x :: xs => plainX x && (chkE g sc e x && chkEd g sc r xs)
  | g, sc, .star e r, x :: xs => optB (asStar x) fun y => chkE g sc e y && chkEd g sc r xs
  | g, _, _, _ => false
def chkO : Gx → Scope → Eo → Option Expr → Bool
  | g, _, .no, none => true
  | g, sc, .so e, some x => chkE g sc e x
  | g, _, _, _ => false
/-- a clause's tests -/
def chkC : Gx → Scope → Eo → List Expr → Bool
  | g, _, .no, [] => true
  | g, sc, .so e, [x] => noIf x && chkE g sc e x
  | g, _, _, _ => false
/-- what is walked; the target -/
def chkI : Gx → Scope → It → Expr → Expr → Bool
  | g, sc, .val e, _, x => plainX x && chkE g sc e x
  | g, sc, .rng es, _, x => optB (asCall x) fun t => t.1 == ("range" : Str) && (gloB sc "range" && (g.free.contains "range" && (chkEs g sc es (t.2.1 :: t.2.2) && (match t.2.2 with | [] => true | [_] => true | _ => false))))
  | g, sc, .enum es, tg, x => optB (asCall x) fun t => t.1 == ("enumerate" : Str) && (gloB sc "enumerate" && (g.free.contains "enumerate" && (chkEs g sc es (t.2.1 :: t.2.2) && (t.2.2.isEmpty && (asTup tg).isSome))))
  | g, sc, .zip es, tg, x => optB (asCall x) fun t => t.1 == ("zip" : Str) && (gloB sc "zip" && (g.free.contains "zip" && (chkEs g sc es (t.2.1 :: t.2.2) && ((match t.2.2 with | [_] => true | _ => false) && (asTup tg).isSome))))
end
/-- what is kept of a made lambda's text -/
def clChk (g : Gx) (q : Cl) : Prop := parsOf q.params = q.ps ∧ parsB q.params = true ∧ NdefX.NScope (q.ps ++ q.fv ++ q.ex) q.ps q.fv q.scope ∧ chkE { g with N := q.ps ++ q.fv ++ q.ex, top := false, lam := false } q.scope q.e q.body = true
theorem bind_lam {qual : Str} {params : Arguments} {body : Expr} {scope : Scope} {cl : List (Str × Addr)} {pm cv ctv : Value} {us : List Value} (h : parsB params = true) (hl : us.length = (parsOf params).length) :
    bindArgs (PySem.W.kla_fn "<lambda>" qual params body scope cl pm cv ctv) ⟨us, []⟩ = pure ((parsOf params).zip us) := by
  obtain ⟨po, as, va, ko, kd, kw, df⟩ := params
  unfold parsB at h
  simp only [Bool.and_eq_true, List.isEmpty_iff, Option.isNone_iff_eq_none] at h
  obtain ⟨rfl, rfl, rfl, rfl, rfl, rfl, h⟩ := h
  have hl : us.length = (as.map (·.arg)).length := hl
  rw [List.length_map] at hl
  split at h
  · cases us with
    | nil => rfl
    | cons _ _ => cases hl
  · rename_i a
    match us, hl with
    | [u], _ =>
      unfold bindArgs
      simp [parsOf, seqItems?] <;> rfl
  · rename_i a b
    match us, hl with
    | [u, v], _ =>
      obtain ⟨h1, h2⟩ := Bool.and_eq_true_iff.mp h
      simp only [Bool.not_eq_true'] at h1 h2
      unfold bindArgs
      simp [parsOf, seqItems?, List.lookup, h1, h2] <;> rfl
  · cases h
end Ev
set_option Elab.async false
set_option linter.all false
set_option maxRecDepth 100000
set_option maxHeartbeats 4000000
/-! Ev, part M: expressions: what the meaning says is what the model does. -/
namespace Ev
open PySem PySem.Spec PyProof.Rows L2

/-- a def's promise by the meaning -/
def spM (c : Cn) (n : Nat) (m : List D → M D) : Sp := fun vs H Q E => vs.length = n ∧ ∃ z ds, Wf c z H ∧ RepL c.K c.mg z vs ds ∧ (m ds).w (Po c z H Q) (Px c z H E)
/-- the fixed part of the heap holds more -/
def BLe (b b' : Heap) : Prop := ∀ a o, b.get? a = some o → b'.get? a = some o
/-- a made lambda stands in the fixed part of the heap -/
structure ClB (g : Gx) (q : Cl) (base : Heap) : Prop where
  obj : ∃ pm ctv, base.get? q.a = some (PySem.W.kla_obj "<lambda>" q.qual q.params q.body q.scope q.cells pm q.c' ctv)
  all : ∀ y a, q.cells.lookup y = some a → ∃ v, base.IsCell a v
  inj : ∀ x y a, q.cells.lookup x = some a → q.cells.lookup y = some a → x = y
  len : q.ws.length = q.fv.length
  has : ∀ (i : Nat) (y : Str), q.fv[i]? = some y → ∃ a, q.cells.lookup y = some a ∧ ∀ v, q.ws[i]? = some v → ∃ u, RelV v u ∧ base.IsCell a (some u)
  chk : clChk g q
def ClsB (g : Gx) (cl : List Cl) (base : Heap) : Prop := ∀ q ∈ cl, ClB g q base
/-- a lambda's promise -/
def LamOk (c : Cn) (o : Ora) (k : Nat) (P : Program) (w : World) (base : Heap) (q : Cl) : Prop :=
  ∀ (A : Around) (outer : List Env) (s : Shared) (H : Hp) (us : List Value) (vs : List V) (Q : VK) (E : XK), Room k A → Env0 P w c.K c.mg base A outer s H → Vals vs us → spM c q.ps.length (o.clo q.ps.length q.ex.length q.e q.env) vs H Q E →
    codeAny (model P w) A (.call (.ref q.a) ⟨us, []⟩) (CR (L2.CX P w) outer P w H s Q E) s
/-- the promise of __init__: the new object's one attribute -/
def spI (c : Cn) (C : Addr) (n : Nat) (m : List D → M D) : Sp := fun vs H Q E => ∃ x dx us H0, vs = .ref x :: us ∧ us.length = n ∧ H = upd (upd H0 dx (.own x)) x (.ins C dx []) ∧ H0 x = none ∧ H0 dx = none ∧ dx ≠ x ∧
  ∃ z ds, Wf c z H0 ∧ RepL c.K c.mg z us ds ∧ D.nosL ds = true ∧ (m ds).w (fun d => ∀ H' z', Wf c z' H' → Ext z H0 z' H' → Rep c.K c.mg z' (.ref x) d → Q .non H') (Px c z H0 E)
def one (m : D → M D) : List D → M D
  | [d] => m d
  | _ => stuck
/-- a class whose objects tell their type plainly -/
structure TyC (K : PySem.W.Frag) (C : Addr) : Prop where
  cl : L2.Cls K C
  ha : PySem.W.findIn K (.ref C) "__class__" = some (some (.builtin "object.__class__"))
  hn : PySem.W.specialIn K (.builtin "object.__class__") "__get__" = some (some (.builtin "getset_descriptor.__get__"))
  tk : PySem.W.takesIn K (.builtin "object.__class__") = some true
  hm : PySem.W.mroIn K C (.type "object") = some true
structure OraOk (c : Cn) (g : Gx) (o : Ora) (k : Nat) (P : Program) (w : World) (base : Heap) : Prop where
  defs : ∀ f, g.defs.contains f = true → ∃ a fd ps, c.mg f = some (.ref a) ∧ PySem.W.keepIn c.K (.ref a) = true ∧ L2.Binds c.K fd ps [] ∧ o.pars f = some ps ∧ (∀ ds, ds.length ≠ ps.length → o.call f ds = stuck) ∧ FnOk P w c.K c.mg base (L2.CX P w) k a fd ps (spM c ps.length (o.call f)) ∧ (∃ oc od osl, c.K.lookup a = some ⟨oc, od, .func fd, osl⟩) ∧
    ∀ n ks pm, g.kws.contains (f, n, ks, pm) = true → ∀ (s : Shared) (us ws : List Value), c.K.In s.heap → us.length = n → ws.length = ks.length → BindsTo s fd ⟨us, ks.zip ws⟩ (ps.zip (permV pm us ws))
  free : ∀ x, g.free.contains x = true → c.mg x = none
  globs : ∀ x d, o.glob x = some d → ∃ u v, c.mg x = some u ∧ RelV v u ∧ ∀ z, Rep c.K c.mg z v d
  lams : ∀ q ∈ c.cl, LamOk c o k P w base q
  cln : ∀ n m b env ds, ds.length ≠ n → o.clo n m b env ds = stuck
  makes : ∀ cn, g.clss.contains cn = true → ∃ C f fd sps n, c.mg cn = some (.ref C) ∧ L2.Mk c.K C f ∧ L2.Binds c.K fd sps [] ∧ (∀ ds, ds.length ≠ n → o.make cn ds = stuck) ∧
    ((∀ ds, o.make cn ds = stuck) ∨ ∃ j, j + 1 ≤ k ∧ FnOk P w c.K c.mg base (L2.CX P w) j f fd sps (spI c C n (o.make cn)))
  props : ∀ cn x, g.props.contains (cn, x) = true → ∃ C p gt fd sps, c.mg cn = some (.ref C) ∧ L2.Cls c.K C ∧ L2.PropOf c.K C x p gt ∧ L2.Binds c.K fd sps [] ∧
    ((∀ d, o.prop cn x d = stuck) ∨ ∃ j, j + 1 ≤ k ∧ FnOk P w c.K c.mg base (L2.CX P w) j gt fd sps (spM c 1 (one (o.prop cn x))))
  flds : ∀ cn x, g.flds.contains (cn, x) = true → ∃ C, c.mg cn = some (.ref C) ∧ L2.Cls c.K C ∧ L2.NoAttr c.K C x
  iscs : ∀ cn, g.iscs.contains cn = true → ∃ C, c.mg cn = some (.ref C) ∧ TyC c.K C ∧ PySem.W.kitOne c.K (.ref C) (.ref C) = some true ∧ ∀ n : String, ["NoneType", "bool", "int", "str", "tuple", "list"].contains n = true → PySem.W.kitOne c.K (.type n) (.ref C) = some false
  par : ∀ f, (o.pars f).isSome = true → g.defs.contains f = true
/-- .. whatever lambdas were made -/
def OraA (c : Cn) (g : Gx) (o : Ora) (k : Nat) (P : Program) (w : World) : Prop := ∀ cl base, BLe c.b0 base → ClsB g cl base → OraOk (c.wc cl) g o k P w base
/-- what the making of lambdas needs -/
def LamTab (c : Cn) (X : Cx) : Prop := ∃ c0 P0, X.env.code = .ref c0 ∧ LamX.TabB X.base X.mg c0 P0 ∧ (P0, X.env.qual ++ "<lambda>") ∈ c.T ∧ ∀ p ∈ c.T, p.1 = P0 → p.2 = X.env.qual ++ "<lambda>"
structure Sx (c : Cn) (g : Gx) (o : Ora) (k : Nat) (X : Cx) : Prop where
  hK : X.K = c.K
  hmg : X.mg = c.mg
  calm : X.calm = true
  nd : X.N.Nodup
  hN : X.N = g.N
  room : Room k X.A
  oraA : OraA c g o k X.prog X.w
  le : BLe c.b0 X.base
  cls : ClsB g c.cl X.base
  top : g.top = true → ∀ x, X.fn x = true
  lam : g.lam = true → LamTab c X
theorem Sx.ora {c : Cn} {g : Gx} {o : Ora} {k : Nat} {X : Cx} (S : Sx c g o k X) : OraOk c g o k X.prog X.w X.base := S.oraA c.cl X.base S.le S.cls
/-- the same but for the names' list -/
structure Gx.Eq (g g' : Gx) : Prop where
  d : g'.defs = g.defs
  f : g'.free = g.free
  k : g'.kws = g.kws
  cl : g'.clss = g.clss
  pr : g'.props = g.props
  fl : g'.flds = g.flds
  is : g'.iscs = g.iscs
theorem clChk.to {g g' : Gx} {q : Cl} (e : g.Eq g') (h : clChk g q) : clChk g' q := by
  obtain ⟨h1, h2, h3, h4⟩ := h
  refine ⟨h1, h2, h3, ?_⟩
  obtain ⟨N, d, f, k, t, l, a1, a2, a3, a4⟩ := g
  obtain ⟨N', d', f', k', t', l', b1, b2, b3, b4⟩ := g'
  obtain ⟨rfl, rfl, rfl, rfl, rfl, rfl, rfl⟩ := e
  exact h4
theorem ClsB.to {g g' : Gx} {cl : List Cl} {base : Heap} (e : g.Eq g') (h : ClsB g cl base) : ClsB g' cl base := fun q hq => { h q hq with chk := (h q hq).chk.to e }
theorem OraOk.to {c : Cn} {g g' : Gx} {o : Ora} {k : Nat} {P : Program} {w : World} {base : Heap} (h : OraOk c g o k P w base) (e : g.Eq g') : OraOk c g' o k P w base :=
  ⟨e.d ▸ e.k ▸ h.defs, e.f ▸ h.free, h.globs, h.lams, h.cln, e.cl ▸ h.makes, e.pr ▸ h.props, e.fl ▸ h.flds, e.is ▸ h.iscs, e.d ▸ h.par⟩
theorem Gx.Eq.symm {g g' : Gx} (e : g.Eq g') : g'.Eq g := ⟨e.d.symm, e.f.symm, e.k.symm, e.cl.symm, e.pr.symm, e.fl.symm, e.is.symm⟩
theorem OraA.to {c : Cn} {g g' : Gx} {o : Ora} {k : Nat} {P : Program} {w : World} (h : OraA c g o k P w) (e : g.Eq g') : OraA c g' o k P w := fun cl base hb hc => (h cl base hb (hc.to e.symm)).to e
theorem OraA.wc {c : Cn} {g : Gx} {o : Ora} {k : Nat} {P : Program} {w : World} (h : OraA c g o k P w) (cl : List Cl) : OraA (c.wc cl) g o k P w := h
theorem ba3 {a b : Bool} (h : (a && b) = true) : a = true ∧ b = true := Bool.and_eq_true_iff.mp h
theorem look_w {v : Vw} {i : Nat} {Q : D → Prop} {R : Xn → Prop} (h : (look v i).w Q R) : ∃ d, v[i]? = some (some d) ∧ Q d := by
  induction v generalizing i with
  | nil => exact h.elim
  | cons x r ih =>
    cases i with
    | zero =>
      cases x with
      | none => exact h.elim
      | some d => exact ⟨d, by simp, h⟩
    | succ i =>
      obtain ⟨d, h1, h2⟩ := ih (i := i) (by cases x <;> exact h)
      exact ⟨d, by simpa using h1, h2⟩
theorem visB_ok {sc : Scope} {x : Str} (h : visB sc x = true) : Vis sc x := by
  unfold visB at h
  split at h <;> first | (cases h; done) | skip
  · rename_i e; exact .inl e
  · rename_i e; exact .inr (.inl e)
  · rename_i e; exact .inr (.inr e)
theorem gloB_ok {X : Cx} {x : Str} (h : gloB X.env.scope x = true) : Gl X x := by
  unfold gloB at h
  split at h <;> first | (cases h; done) | (rename_i e; exact e)
theorem okName_ok {x : Str} (h : okName x = true) : (x == ("__debug__" : Str)) = false ∧ (x == ("__classdict__" : Str)) = false ∧ x ≠ "__name__" := by
  obtain ⟨h1, h2⟩ := ba3 h
  obtain ⟨h2, h3⟩ := ba3 h2
  refine ⟨by simpa using h1, by simpa using h2, fun e => ?_⟩
  subst e
  simp at h3
theorem star_plain {x : Expr} {xs : List Expr} {env : Env} (h : plainX x = true) : starEach (x :: xs) env = (false, eval x env) :: starEach xs env := by
  cases x <;> first | rfl | cases h
theorem plain_mark {x : Expr} {op : CmpOp} (h : plainX x = true) : behindInMarks op x = false := by
  cases x <;> first | rfl | cases h
theorem plainIx_of {x : Expr} (h : plainX x = true) : PlainIx x := by
  intro o i
  cases x <;> first | rfl | cases h
theorem isTrue_of {x : Expr} {env : Env} (h : noIf x = true) (h1 : ∀ a b c d, x ≠ .Compare a b c d) (h2 : ∀ a b c, x ≠ .BoolOp a b c) (h3 : ∀ a c, x ≠ .UnaryOp .Not a c) :
    ∀ whole, isTrue x env whole = (do let v ← whole; standAt x.pos; holding [v] (truthy v)) := by
  intro whole
  cases x with
  | IfExp _ _ _ _ => cases h
  | Compare a b c d => exact absurd rfl (h1 a b c d)
  | BoolOp a b c => exact absurd rfl (h2 a b c)
  | UnaryOp op a p => cases op <;> first | rfl | exact absurd rfl (h3 a p)
  | _ => rfl
theorem bltTy_ok {x : Str} {n : String} (h : bltTy.contains (x, n) = true) : bootBuiltins x = some (.type n) ∧ x ≠ "__name__" ∧ (x == ("__debug__" : Str)) = false := by
  have h : (x, n) ∈ bltTy := by simpa using h
  unfold bltTy at h
  simp only [List.mem_cons, Prod.mk.injEq, List.not_mem_nil, or_false] at h
  rcases h with ⟨rfl, rfl⟩ | ⟨rfl, rfl⟩ | ⟨rfl, rfl⟩ | ⟨rfl, rfl⟩ | ⟨rfl, rfl⟩ | ⟨rfl, rfl⟩ <;> exact ⟨by decide +kernel, by decide +kernel, by decide +kernel⟩
theorem boot_blV (b : Bl) : bootBuiltins (blName b) = some (blV b) := by
  cases b <;> decide +kernel
section
variable {c : Cn} {g : Gx} {o : Ora} {k : Nat} {X : Cx} {W : WX}
theorem pe_blt {b : Bl} {r : List V → Hp → VK → Prop} (hc : CallR X (blV b) r) {x : Str} {p pos : Pos} {e : Expr} {es : List Expr} {t : TA} (hx : blName b = x) (hg : Gl X x) (hm : X.mg x = none) (ha : PA X (e :: es) t) (ok : okName x = true)
    (he : starEach (e :: es) X.env = (false, eval e X.env) :: starEach es X.env) (hpl : (backTo pos (starEach es X.env)).any (·.1) = false) : PE X (.Call (.Name x p) (e :: es) [] pos) (tCB r t) := by
  obtain ⟨o1, o2, o3⟩ := okName_ok ok
  have hv : bootBuiltins x = some (blV b) := hx ▸ boot_blV b
  unfold blV at hc hv
  cases hb : blId b with
  | inl n => rw [hb] at hc hv; exact pe_callB hc hg hm hv ha o3 o1 he hpl
  | inr n => rw [hb] at hc hv; exact pe_callTy hc hg hm hv ha o3 o1 he hpl
theorem pt_of_val {x : Expr} {m : M D} {v : Vw} (hK : X.K = c.K) (h : PE X x (tM c W v m)) (hi : noIf x = true) (h1 : ∀ a b c d, x ≠ .Compare a b c d) (h2 : ∀ a b c, x ≠ .BoolOp a b c) (h3 : ∀ a c, x ≠ .UnaryOp .Not a c) :
    PT X x (tMB c W v (M.bind m D.truth)) := by
  refine PT.imp (pt_truth h (isTrue_of hi h1 h2 h3)) fun σ H Q q => ?_
  refine tM.mono (tMB.bind q) fun x H1 ⟨z1, d, w, vo, r, q⟩ => ?_
  obtain ⟨k, h1, h2⟩ := truth_rep w r q
  exact ⟨k, hK ▸ h1, h2 _ _ w (.refl _ _)⟩
/-- behind the second of two parts -/
theorem two_parts {ma mb : M D} {f : D → D → M D} {v : Vw} {σ : L2.St} {H : Hp} {Q : VK} {r : R2} (h : tM c W v (M.bind ma fun x => M.bind mb fun y => f x y) σ H Q)
    (hr : ∀ x y H, rM c f x y H Q → r x y H Q) : tM c W v ma σ H fun x H1 => tM c W v mb σ H1 fun y H2 => r x y H2 Q := by
  obtain ⟨z, w, vo, q⟩ := h
  refine ⟨z, w, vo, ma.mono (fun d p x H1 z1 w1 e1 r1 => ?_) (fun _ p => p) q⟩
  refine ⟨z1, w1, vo.ext e1, mb.mono (fun e p2 y H2 z2 w2 e2 r2 => ?_) (fun _ p => Px.ext e1 p) p⟩
  exact hr x y H2 ⟨z2, d, e, _, w2, e2.rep r1, r2, (f d e).mono (fun _ p => Po.ext (e1.trans e2) p) (fun _ p => p) p2⟩
theorem one_part {ma : M D} {f : D → M D} {v : Vw} {σ : L2.St} {H : Hp} {Q : VK} {r : V → Hp → Prop} (h : tM c W v (M.bind ma f) σ H Q)
    (hr : ∀ x H, (∃ z d R, Wf c z H ∧ Rep c.K c.mg z x d ∧ (f d).w (Po c z H Q) R) → r x H) : tM c W v ma σ H r := by
  obtain ⟨z, w, vo, q⟩ := h
  refine ⟨z, w, vo, ma.mono (fun d p x H1 z1 w1 e1 r1 => ?_) (fun _ p => p) q⟩
  exact hr x H1 ⟨z1, d, _, w1, r1, (f d).mono (fun _ p => Po.ext e1 p) (fun _ p => p) p⟩
theorem list_part {ma : M (List D)} {f : List D → M D} {v : Vw} {σ : L2.St} {H : Hp} {Q : VK} {r : List V → Hp → Prop} (h : tM c W v (M.bind ma f) σ H Q)
    (hr : ∀ x H z d, Wf c z H → RepL c.K c.mg z x d → (f d).w (Po c z H Q) (Px c z H fun cls dd H' => W cls dd σ H') → r x H) : tML c W v ma σ H r := by
  obtain ⟨z, w, vo, q⟩ := h
  refine ⟨z, w, vo, ma.mono (fun d p x H1 z1 w1 e1 r1 => ?_) (fun _ p => p) q⟩
  exact hr x H1 z1 d w1 r1 ((f d).mono (fun _ p => Po.ext e1 p) (fun _ p => Px.ext e1 p) p)

def tMO (c : Cn) (W : WX) (v : Vw) (m : M (Option Int)) : TO := fun σ H Q => ∃ z, Wf c z H ∧ VOk c z σ v ∧ m.w (fun o => ∀ H' z', Wf c z' H' → Ext z H z' H' → Q o H') (Px c z H fun cls dd H' => W cls dd σ H')
theorem bind_bl {m : M Bool} {f : Bool → Bool} {Q : D → Prop} {R : Xn → Prop} (q : (M.bind m fun k => ret (.bl (f k))).w Q R) : (M.bind m fun k => ret (.bl (f k))).w (fun y => Q y ∧ ∃ k, y = .bl k) R :=
  m.mono (fun _ p => ⟨p, _, rfl⟩) (fun _ p => p) q
theorem cmpD_bl {p : Co} {d e : D} {Q : D → Prop} {R : Xn → Prop} (q : (cmpD p d e).w Q R) : (cmpD p d e).w (fun y => Q y ∧ ∃ k, y = .bl k) R := by
  cases p with
  | eq => exact ⟨q.1, q.2, _, rfl⟩
  | ne => exact ⟨q.1, q.2, _, rfl⟩
  | lt => exact bind_bl (f := fun k => k) q
  | gt => exact bind_bl (f := fun k => k) q
  | le => exact bind_bl (f := fun k => !k) q
  | ge => exact bind_bl (f := fun k => !k) q
  | inn => exact bind_bl (f := fun k => k) q
  | nin => exact bind_bl (f := fun k => !k) q
  | is => exact bind_bl (f := fun k => k) q
  | isn => exact bind_bl (f := fun k => !k) q
/-- the test of a value that is a truth value -/
theorem test_of {f : D → D → M D} {x y : V} {H : Hp} {z : Fz} {d e : D} {Q : Bool → Hp → Prop} {R : Xn → Prop} (hf : ∀ d e Q R, (f d e).w Q R → (f d e).w (fun y => Q y ∧ ∃ k, y = .bl k) R) (w : Wf c z H) (rd : Rep c.K c.mg z x d) (re : Rep c.K c.mg z y e)
    (q : (f d e).w (fun y => y.truth.w (PoB c z H Q) R) R) : rM c f x y H fun x H' => ∃ k, x = .bl k ∧ Q k H' := by
  refine ⟨z, d, e, R, w, rd, re, (f d e).mono (fun yy p x' H' z' w' e' r' => ?_) (fun _ p => p) (hf d e _ _ q)⟩
  obtain ⟨p, k, rfl⟩ := p
  exact ⟨k, r'.bl_inv, p _ _ w' e'⟩
/-- and, or: the second part -/
theorem and_part {ma mb : M D} {v : Vw} {σ : L2.St} {H : Hp} {Q : Bool → Hp → Prop}
    (h : tMB c W v (M.bind (M.bind ma fun x => match x with | .bl true => mb | .bl false => ret (.bl false) | _ => stuck) D.truth) σ H Q) : tAnd (tMB c W v (M.bind ma D.truth)) (tMB c W v (M.bind mb D.truth)) σ H Q := by
  obtain ⟨z, w, vo, q⟩ := h
  refine ⟨z, w, vo, ma.mono (fun d p => ?_) (fun _ p => p) q⟩
  cases d <;> first | exact p.elim | skip
  rename_i b
  cases b with
  | false => exact fun H1 z1 w1 e1 => p _ _ w1 e1
  | true => exact fun H1 z1 w1 e1 => ⟨z1, w1, vo.ext e1, (M.bind mb D.truth).mono (fun _ p => PoB.ext e1 p) (fun _ p => Px.ext e1 p) p⟩
theorem or_part {ma mb : M D} {v : Vw} {σ : L2.St} {H : Hp} {Q : Bool → Hp → Prop}
    (h : tMB c W v (M.bind (M.bind ma fun x => match x with | .bl true => ret (.bl true) | .bl false => mb | _ => stuck) D.truth) σ H Q) : tOr (tMB c W v (M.bind ma D.truth)) (tMB c W v (M.bind mb D.truth)) σ H Q := by
  obtain ⟨z, w, vo, q⟩ := h
  refine ⟨z, w, vo, ma.mono (fun d p => ?_) (fun _ p => p) q⟩
  cases d <;> first | exact p.elim | skip
  rename_i b
  cases b with
  | true => exact fun H1 z1 w1 e1 => p _ _ w1 e1
  | false => exact fun H1 z1 w1 e1 => ⟨z1, w1, vo.ext e1, (M.bind mb D.truth).mono (fun _ p => PoB.ext e1 p) (fun _ p => Px.ext e1 p) p⟩
theorem and_partV {ma mb : M D} {v : Vw} {σ : L2.St} {H : Hp} {Q : VK}
    (h : tM c W v (M.bind ma fun x => match x with | .bl true => mb | .bl false => ret (.bl false) | _ => stuck) σ H Q) : tAndV (tM c W v ma) (tM c W v mb) σ H Q := by
  obtain ⟨z, w, vo, q⟩ := h
  refine ⟨z, w, vo, ma.mono (fun d p x H1 z1 w1 e1 r1 => ?_) (fun _ p => p) q⟩
  cases d <;> first | exact p.elim | skip
  rename_i b
  refine ⟨b, r1.bl_inv, ?_⟩
  cases b with
  | false => exact p _ _ _ w1 e1 (.bl false)
  | true => exact ⟨z1, w1, vo.ext e1, mb.mono (fun _ p => Po.ext e1 p) (fun _ p => Px.ext e1 p) p⟩
theorem or_partV {ma mb : M D} {v : Vw} {σ : L2.St} {H : Hp} {Q : VK}
    (h : tM c W v (M.bind ma fun x => match x with | .bl true => ret (.bl true) | .bl false => mb | _ => stuck) σ H Q) : tOrV (tM c W v ma) (tM c W v mb) σ H Q := by
  obtain ⟨z, w, vo, q⟩ := h
  refine ⟨z, w, vo, ma.mono (fun d p x H1 z1 w1 e1 r1 => ?_) (fun _ p => p) q⟩
  cases d <;> first | exact p.elim | skip
  rename_i b
  refine ⟨b, r1.bl_inv, ?_⟩
  cases b with
  | true => exact p _ _ _ w1 e1 (.bl true)
  | false => exact ⟨z1, w1, vo.ext e1, mb.mono (fun _ p => Po.ext e1 p) (fun _ p => Px.ext e1 p) p⟩

/-- chained comparisons: all parts -/
theorem chain_parts {ma mb md : M D} {p p' : Co} {v : Vw} {σ : L2.St} {H : Hp} {Q : VK} (h : tM c W v (M.bind ma fun x => M.bind mb fun y => M.bind (cmpD p x y) fun k => match k with
      | .bl true => M.bind md fun z => cmpD p' y z
      | .bl false => ret (.bl false)
      | _ => stuck) σ H Q) : tChain (rM c (cmpD p)) (rM c (cmpD p')) (tM c W v ma) (tM c W v mb) (tM c W v md) σ H Q := by
  obtain ⟨z, w, vo, q⟩ := h
  refine ⟨z, w, vo, ma.mono (fun d1 p1 x1 H1 z1 w1 e1 r1 => ?_) (fun _ p => p) q⟩
  refine ⟨z1, w1, vo.ext e1, mb.mono (fun d2 p2 x2 H2 z2 w2 e2 r2 => ?_) (fun _ p => Px.ext e1 p) p1⟩
  refine ⟨z2, d1, d2, _, w2, e2.rep r1, r2, (cmpD p d1 d2).mono (fun d3 p3 x3 H3 z3 w3 e3 r3 => ?_) (fun _ p => p) p2⟩
  cases d3 <;> first | exact p3.elim | skip
  rename_i kk
  refine ⟨kk, r3.bl_inv, ?_⟩
  cases kk with
  | false => exact p3 _ _ _ w3 (e1.trans (e2.trans e3)) (.bl false)
  | true =>
    refine ⟨z3, w3, vo.ext (e1.trans (e2.trans e3)), md.mono (fun d4 p4 x4 H4 z4 w4 e4 r4 => ?_) (fun _ p => Px.ext (e1.trans (e2.trans e3)) p) p3⟩
    exact ⟨z4, d2, d4, _, w4, e4.rep (e3.rep r2), r4, (cmpD p' d2 d4).mono (fun _ p => Po.ext (e1.trans (e2.trans (e3.trans e4))) p) (fun _ p => p) p4⟩
theorem chain_test {ma mb md : M D} {p p' : Co} {v : Vw} {σ : L2.St} {H : Hp} {Q : Bool → Hp → Prop} (h : tMB c W v (M.bind (M.bind ma fun x => M.bind mb fun y => M.bind (cmpD p x y) fun k => match k with
      | .bl true => M.bind md fun z => cmpD p' y z
      | .bl false => ret (.bl false)
      | _ => stuck) D.truth) σ H Q) : tTest (tChain (rM c (cmpD p)) (rM c (cmpD p')) (tM c W v ma) (tM c W v mb) (tM c W v md)) σ H Q := by
  obtain ⟨z, w, vo, q⟩ := h
  refine ⟨z, w, vo, ma.mono (fun d1 p1 x1 H1 z1 w1 e1 r1 => ?_) (fun _ p => p) q⟩
  refine ⟨z1, w1, vo.ext e1, mb.mono (fun d2 p2 x2 H2 z2 w2 e2 r2 => ?_) (fun _ p => Px.ext e1 p) p1⟩
  refine ⟨z2, d1, d2, _, w2, e2.rep r1, r2, (cmpD p d1 d2).mono (fun d3 p3 x3 H3 z3 w3 e3 r3 => ?_) (fun _ p => p) p2⟩
  cases d3 <;> first | exact p3.elim | skip
  rename_i kk
  refine ⟨kk, r3.bl_inv, ?_⟩
  cases kk with
  | false => exact ⟨false, rfl, p3 _ _ w3 (e1.trans (e2.trans e3))⟩
  | true =>
    refine ⟨z3, w3, vo.ext (e1.trans (e2.trans e3)), md.mono (fun d4 p4 x4 H4 z4 w4 e4 r4 => ?_) (fun _ p => Px.ext (e1.trans (e2.trans e3)) p) p3⟩
    have e9 := e1.trans (e2.trans (e3.trans e4))
    refine test_of (R := Px c z4 H4 fun cls dd H' => W cls dd σ H') (fun d e Q R => cmpD_bl) w4 (e4.rep (e3.rep r2)) r4 ?_
    exact (cmpD p' d2 d4).mono (fun y py => y.truth.mono (fun _ p => PoB.ext e9 p) (fun _ p => Px.ext e9 p) py) (fun _ p => Px.ext e9 p) p4
theorem cmp_test {ma mb : M D} {p : Co} {v : Vw} {σ : L2.St} {H : Hp} {Q : Bool → Hp → Prop} (h : tMB c W v (M.bind (M.bind ma fun x => M.bind mb fun y => cmpD p x y) D.truth) σ H Q) :
    tTest (tOp (rM c (cmpD p)) (tM c W v ma) (tM c W v mb)) σ H Q := by
  obtain ⟨z, w, vo, q⟩ := h
  refine ⟨z, w, vo, ma.mono (fun d1 p1 x1 H1 z1 w1 e1 r1 => ?_) (fun _ p => p) q⟩
  refine ⟨z1, w1, vo.ext e1, mb.mono (fun d2 p2 x2 H2 z2 w2 e2 r2 => ?_) (fun _ p => Px.ext e1 p) p1⟩
  refine test_of (R := Px c z2 H2 fun cls dd H' => W cls dd σ H') (fun d e Q R => cmpD_bl) w2 (e2.rep r1) r2 ?_
  exact (cmpD p d1 d2).mono (fun y py => y.truth.mono (fun _ p => PoB.ext (e1.trans e2) p) (fun _ p => Px.ext (e1.trans e2) p) py) (fun _ p => Px.ext (e1.trans e2) p) p2
theorem if_parts {md : M Bool} {ma mb : M D} {v : Vw} {σ : L2.St} {H : Hp} {Q : VK} (h : tM c W v (M.bind md fun k => if k = true then ma else mb) σ H Q) : tIf (tMB c W v md) (tM c W v ma) (tM c W v mb) σ H Q := by
  obtain ⟨z, w, vo, q⟩ := h
  refine ⟨z, w, vo, md.mono (fun kk p H1 z1 w1 e1 => ?_) (fun _ p => p) q⟩
  cases kk with
  | true => exact ⟨z1, w1, vo.ext e1, ma.mono (fun _ p => Po.ext e1 p) (fun _ p => Px.ext e1 p) p⟩
  | false => exact ⟨z1, w1, vo.ext e1, mb.mono (fun _ p => Po.ext e1 p) (fun _ p => Px.ext e1 p) p⟩
theorem sl_parts {ma : M D} {ml mh : M (Option Int)} {v : Vw} {σ : L2.St} {H : Hp} {Q : VK} (h : tM c W v (M.bind ma fun x => M.bind ml fun l => M.bind mh fun h => slD x l h) σ H Q) :
    tSl (fun x lo hi H Q => ∃ z d R, Wf c z H ∧ Rep c.K c.mg z x d ∧ (slD d lo hi).w (Po c z H Q) R) (tM c W v ma) (tMO c W v ml) (tMO c W v mh) σ H Q := by
  obtain ⟨z, w, vo, q⟩ := h
  refine ⟨z, w, vo, ma.mono (fun d1 p1 x1 H1 z1 w1 e1 r1 => ?_) (fun _ p => p) q⟩
  refine ⟨z1, w1, vo.ext e1, ml.mono (fun o2 p2 H2 z2 w2 e2 => ?_) (fun _ p => Px.ext e1 p) p1⟩
  refine ⟨z2, w2, vo.ext (e1.trans e2), mh.mono (fun o3 p3 H3 z3 w3 e3 => ?_) (fun _ p => Px.ext (e1.trans e2) p) p2⟩
  exact ⟨z3, d1, _, w3, e3.rep (e2.rep r1), (slD d1 o2 o3).mono (fun _ p => Po.ext (e1.trans (e2.trans e3)) p) (fun _ p => p) p3⟩
theorem cons_parts {ma : M D} {mb : M (List D)} {v : Vw} {σ : L2.St} {H : Hp} {Q : List V → Hp → Prop} (h : tML c W v (M.bind ma fun x => M.bind mb fun xs => ret (x :: xs)) σ H Q) : tCons (tM c W v ma) (tML c W v mb) σ H Q := by
  obtain ⟨z, w, vo, q⟩ := h
  refine ⟨z, w, vo, ma.mono (fun d p x H1 z1 w1 e1 r1 => ?_) (fun _ p => p) q⟩
  refine ⟨z1, w1, vo.ext e1, mb.mono (fun e p2 y H2 z2 w2 e2 r2 => ?_) (fun _ p => Px.ext e1 p) p⟩
  exact p2 _ _ _ w2 (e1.trans e2) (.cons (e2.rep r1) r2)
theorem call_parts {ml : M (List D)} {m : List D → M D} {n : Nat} {v : Vw} {σ : L2.St} {H : Hp} {Q : VK} (hn : ∀ ds, ds.length ≠ n → m ds = stuck) (h : tM c W v (M.bind ml m) σ H Q) : tCallS (spM c n m) (WE W) (tML c W v ml) σ H Q := by
  obtain ⟨z, w, vo, q⟩ := h
  refine ⟨z, w, vo, ml.mono (fun ds p xs H1 z1 w1 e1 r1 => ?_) (fun _ p => p) q⟩
  refine ⟨?_, z1, ds, w1, r1, (m ds).mono (fun _ p => Po.ext e1 p) (fun _ p => Px.ext e1 p) p⟩
  rw [r1.length]
  by_cases hl : ds.length = n
  · exact hl
  · rw [hn ds hl] at p; exact p.elim

theorem vals_app {vs zs : List V} {us ws : List Value} (r : Vals vs us) (q : Vals zs ws) : Vals (vs ++ zs) (us ++ ws) := r.append q
theorem vals_perm {pm : List Nat} {vs zs : List V} {us ws : List Value} (r : Vals vs us) (q : Vals zs ws) : Vals (permV pm vs zs) (permV pm us ws) := by
  have a := r.append q
  unfold permV
  induction pm with
  | nil => exact .nil
  | cons i pm ih =>
    rw [List.filterMap_cons, List.filterMap_cons]
    cases e : (vs ++ zs)[i]? with
    | none =>
      have e2 : (us ++ ws)[i]? = none := by
        rw [List.getElem?_eq_none_iff] at e ⊢
        rw [← a.length]; exact e
      rw [e2]; exact ih
    | some x =>
      obtain ⟨u, e2, ru⟩ := a.get e
      rw [e2]; exact .cons ru ih
theorem repL_perm {z : Fz} {pm : List Nat} {vs zs : List V} {ds es : List D} (r : RepL c.K c.mg z vs ds) (q : RepL c.K c.mg z zs es) : RepL c.K c.mg z (permV pm vs zs) (permV pm ds es) := by
  have a := r.append q
  unfold permV
  induction pm with
  | nil => exact .nil
  | cons i pm ih =>
    rw [List.filterMap_cons, List.filterMap_cons]
    cases e : (vs ++ zs)[i]? with
    | none =>
      have e2 : (ds ++ es)[i]? = none := by
        rw [List.getElem?_eq_none_iff] at e ⊢
        rw [← a.length]; exact e
      rw [e2]; exact ih
    | some x =>
      obtain ⟨u, e2, ru⟩ := a.get e
      rw [e2]; exact .cons ru ih
def tCallKS (n m : Nat) (sp : Sp) (pm : List Nat) (E : L2.St → XK) (t tk : TA) : TE := fun σ H Q => t σ H fun vs H1 => tk σ H1 fun zs H2 => (vs.length = n ∧ zs.length = m) ∧ sp (permV pm vs zs) H2 Q (E σ)
section
variable {CX : CXT} {f : Addr} {fd : FuncData} {ps ks : List Str} {sp : Sp} {pm : List Nat} {n : Nat} {E : L2.St → XK} {t tk : TA} {x : Str} {p pos : Pos} {kws : List Keyword} {e : Expr} {es : List Expr}
theorem run_fnKS {pins : List (Addr × Obj)} {σ : L2.St} {H : Hp} {s : Shared} {Q : VK} {us ws : List Value} {vs zs : List V} (F : FnOk X.prog X.w X.K X.mg X.base CX k f fd ps sp) (hr : Room k X.A)
    (hb : ∀ (s : Shared) (us ws : List Value), X.K.In s.heap → us.length = n → ws.length = ks.length → BindsTo s fd ⟨us, ks.zip ws⟩ (ps.zip (permV pm us ws))) (hx : PassesAt CX X σ (E σ))
    (I : Inv X pins σ H s) (r : Vals vs us) (rz : Vals zs ws) (l1 : vs.length = n) (l2 : zs.length = ks.length) (h : sp (permV pm vs zs) H Q (E σ)) : wpAny (model X.prog X.w) X.A (call (.ref f) us (ks.zip ws)) (EP X pins σ Q) X.xe s := by
  refine wpAny_call (codeAny_mono (F.run X.A X.stack s H ⟨us, ks.zip ws⟩ (permV pm us ws) (permV pm vs zs) Q (E σ) hr I.env0 (hb s us ws I.kIn (by rw [← r.length]; exact l1) (by rw [← rz.length]; exact l2)) (vals_perm r rz) h) fun r s' hq => ?_)
  cases r with
  | error e => exact hx pins H s e s' I hq
  | ok fl =>
    cases fl with
    | ret u => exact I.after hq
    | next => exact False.elim hq
    | brk => exact False.elim hq
    | cont => exact False.elim hq
theorem kw_all {env : Env} : ∀ {kws : List Keyword} {ks : List Str}, kws.map (·.arg) = ks.map some → (backToKw pos (keywordEach kws env)).all (·.1.isSome) = true ∧ (backToKw pos (keywordEach kws env)).filterMap (·.1) = ks ∧ (backToKw pos (keywordEach kws env)).any (·.1.isNone) = false
  | [], [], _ => ⟨rfl, rfl, rfl⟩
  | [], _ :: _, h => by cases h
  | _ :: _, [], h => by cases h
  | ⟨a, v, q⟩ :: kws, y :: ks, h => by
    have h1 : a = some y := (List.cons.inj h).1
    subst h1
    obtain ⟨e1, e2, e3⟩ := kw_all (env := env) (List.cons.inj h).2
    refine ⟨?_, ?_, ?_⟩
    · show (true && (backToKw pos (keywordEach kws env)).all (·.1.isSome)) = true
      rw [e1]; rfl
    · show y :: (backToKw pos (keywordEach kws env)).filterMap (·.1) = y :: ks
      rw [e2]
    · show (false || (backToKw pos (keywordEach kws env)).any (·.1.isNone)) = false
      rw [e3]; rfl
theorem pe_callKS (F : FnOk X.prog X.w X.K X.mg X.base CX k f fd ps sp) (hr : Room k X.A) (hg : Gl X x) (hm : X.mg x = some (.ref f)) (hk : PySem.W.keepIn X.K (.ref f) = true)
    (hb : ∀ (s : Shared) (us ws : List Value), X.K.In s.heap → us.length = n → ws.length = ks.length → BindsTo s fd ⟨us, ks.zip ws⟩ (ps.zip (permV pm us ws))) (hx : ∀ σ, PassesAt CX X σ (E σ))
    (ha : PA X (e :: es) t) (hkw : PK X kws tk) (hks : kws.map (·.arg) = ks.map some) (hdb : (x == ("__debug__" : Str)) = false) (he : starEach (e :: es) X.env = (false, eval e X.env) :: starEach es X.env) (hpl : (backTo pos (starEach (e :: es) X.env)).any (·.1) = false) :
    PE X (.Call (.Name x p) (e :: es) kws pos) (tCallKS n ks.length sp pm E t tk) := by
  obtain ⟨k1, k2, k3⟩ := kw_all (pos := pos) (env := X.env) hks
  refine ⟨fun pins s σ H Q I h => ?_⟩
  refine wpAny_Call_Name_kw (ld_glob I hg hm ?_ hdb)
  refine PySem.W.callWith_KW (h₀ := X.base) I.ok.mod.kin hk k1 (thn (ha.run pos pins s σ H _ I h) fun us s1 ⟨vs, H1, I1, r, q⟩ => ?_) (by rw [hpl, k3]; rfl) he
  refine thn (hkw.run pos pins s1 σ H1 _ I1 q) fun ws s2 ⟨zs, H2, I2, rz, ⟨l1, l2⟩, q2⟩ => ⟨I2.kIn, ?_⟩
  rw [k2]
  exact run_fnKS F hr hb (hx σ) I2 r rz l1 l2 q2
theorem pe_callKS0 (F : FnOk X.prog X.w X.K X.mg X.base CX k f fd ps sp) (hr : Room k X.A) (hg : Gl X x) (hm : X.mg x = some (.ref f)) (hk : PySem.W.keepIn X.K (.ref f) = true)
    (hb : ∀ (s : Shared) (us ws : List Value), X.K.In s.heap → us.length = 0 → ws.length = ks.length → BindsTo s fd ⟨us, ks.zip ws⟩ (ps.zip (permV pm us ws))) (hx : ∀ σ, PassesAt CX X σ (E σ))
    (hkw : PK X kws tk) (hks : kws.map (·.arg) = ks.map some) (hdb : (x == ("__debug__" : Str)) = false) :
    PE X (.Call (.Name x p) [] kws pos) (tCallKS 0 ks.length sp pm E tNil tk) := by
  obtain ⟨k1, k2, k3⟩ := kw_all (pos := pos) (env := X.env) hks
  refine ⟨fun pins s σ H Q I h => ?_⟩
  refine wpAny_Call_Name_kw (ld_glob I hg hm ?_ hdb)
  refine PySem.W.callWith_KW0 (h₀ := X.base) I.ok.mod.kin hk k1 ?_ (by rw [k3]; rfl)
  refine thn (hkw.run pos pins s σ H _ I h) fun ws s2 ⟨zs, H2, I2, rz, ⟨l1, l2⟩, q2⟩ => ⟨I2.kIn, ?_⟩
  rw [k2]
  exact run_fnKS F hr hb (hx σ) I2 .nil rz l1 l2 q2
theorem pe_callS0 (F : FnOk X.prog X.w X.K X.mg X.base CX k f fd ps sp) (hr : Room k X.A) (hg : Gl X x) (hm : X.mg x = some (.ref f)) (hk : PySem.W.keepIn X.K (.ref f) = true) (hb : Binds X.K fd ps []) (hx : ∀ σ, PassesAt CX X σ (E σ))
    (hdb : (x == ("__debug__" : Str)) = false) : PE X (.Call (.Name x p) [] [] pos) (fun σ H Q => sp [] H Q (E σ)) := by
  refine ⟨fun pins s σ H Q I h => ?_⟩
  refine wpAny_Call_Name_kw (ld_glob I hg hm ?_ hdb)
  refine PySem.W.callWith_K0 (first := []) I.kIn hk ?_
  exact run_fnS F hr hb (hx σ) I .nil h
theorem callk_parts {ml mk : M (List D)} {m : List D → M D} {n n' n2 : Nat} {pm : List Nat} {v : Vw} {σ : L2.St} {H : Hp} {Q : VK} (hn : ∀ ds, ds.length ≠ n → m ds = stuck) (h1 : ∀ Q R, ml.w Q R → ml.w (fun ds => Q ds ∧ ds.length = n') R) (h2 : ∀ Q R, mk.w Q R → mk.w (fun ds => Q ds ∧ ds.length = n2) R)
    (h : tM c W v (M.bind ml fun xs => M.bind mk fun ys => m (permV pm xs ys)) σ H Q) : tCallKS n' n2 (spM c n m) pm (WE W) (tML c W v ml) (tML c W v mk) σ H Q := by
  obtain ⟨z, w, vo, q⟩ := h
  refine ⟨z, w, vo, ml.mono (fun ds p xs H1 z1 w1 e1 r1 => ?_) (fun _ p => p) (h1 _ _ q)⟩
  obtain ⟨p, l1⟩ := p
  refine ⟨z1, w1, vo.ext e1, mk.mono (fun es p ys H2 z2 w2 e2 r2 => ?_) (fun _ p => Px.ext e1 p) (h2 _ _ p)⟩
  obtain ⟨p, l2⟩ := p
  have rr := repL_perm (pm := pm) (e2.repL r1) r2
  refine ⟨⟨by rw [r1.length]; exact l1, by rw [r2.length]; exact l2⟩, ?_, z2, _, w2, rr, (m (permV pm ds es)).mono (fun _ p => Po.ext (e1.trans e2) p) (fun _ p => Px.ext (e1.trans e2) p) p⟩
  rw [rr.length]
  by_cases hl : (permV pm ds es).length = n
  · exact hl
  · have p : (m (permV pm ds es)).w _ _ := p
    rw [hn _ hl] at p; exact p.elim
end
end
end Ev
set_option Elab.async false
set_option linter.all false
set_option maxRecDepth 100000
set_option maxHeartbeats 4000000
/-! Ev, part N: targets; what is walked. -/
namespace Ev
open PySem PySem.Spec PyProof.Rows L2

/-! ### slots -/
theorem setV_eq : ∀ (v : Vw) (i : Nat) (d : D), setV v i d = v.set i (some d)
  | [], _, _ => rfl
  | _ :: _, 0, _ => rfl
  | x :: r, i + 1, d => by show x :: setV r i d = x :: r.set i (some d); rw [setV_eq r i d]
theorem wipeAt_eq : ∀ (v : Vw) (i : Nat), wipeAt v i = v.set i none
  | [], _ => rfl
  | _ :: _, 0 => rfl
  | x :: r, i + 1 => by show x :: wipeAt r i = x :: r.set i none; rw [wipeAt_eq r i]
section
variable {c : Cn} {z : Fz} {σ : L2.St} {v : Vw}
theorem VOk.set (vo : VOk c z σ v) {i : Nat} {x : V} {d : D} (r : Rep c.K c.mg z x d) : VOk c z (σ.set i (some x)) (setV v i d) := by
  rw [setV_eq]
  refine ⟨by simp [vo.1], fun j e h => ?_⟩
  by_cases hj : i = j
  · subst hj
    by_cases hl : i < v.length
    · rw [List.getElem?_set_self hl] at h
      cases h
      exact ⟨x, by rw [List.getElem?_set_self (by rw [← vo.1]; exact hl)], r⟩
    · rw [List.getElem?_eq_none (by simpa using hl)] at h; cases h
  · rw [List.getElem?_set_ne hj] at h
    obtain ⟨y, h1, h2⟩ := vo.2 j e h
    exact ⟨y, by rw [List.getElem?_set_ne hj]; exact h1, h2⟩
theorem VOk.wipe (vo : VOk c z σ v) : ∀ is : List Nat, VOk c z (L2.wipe σ is) (wipeV v is)
  | [] => vo
  | i :: is => by
    have ih := VOk.wipe vo is
    show VOk c z ((L2.wipe σ is).set i none) (wipeAt (wipeV v is) i)
    rw [wipeAt_eq]
    refine ⟨by simp [ih.1], fun j e h => ?_⟩
    by_cases hj : i = j
    · subst hj
      by_cases hl : i < (wipeV v is).length
      · rw [List.getElem?_set_self hl] at h; cases h
      · rw [List.getElem?_eq_none (by simpa using hl)] at h; cases h
    · rw [List.getElem?_set_ne hj] at h
      obtain ⟨y, h1, h2⟩ := ih.2 j e h
      exact ⟨y, by rw [List.getElem?_set_ne hj]; exact h1, h2⟩
end
/-- alike but at these places -/
def Bar (is : List Nat) (σ σ' : L2.St) : Prop := σ'.length = σ.length ∧ ∀ j, j ∉ is → σ'[j]? = σ[j]?
theorem Bar.refl (is : List Nat) (σ : L2.St) : Bar is σ σ := ⟨rfl, fun _ _ => rfl⟩
theorem Bar.trans {is : List Nat} {a b d : L2.St} (h : Bar is a b) (h' : Bar is b d) : Bar is a d := ⟨h'.1.trans h.1, fun j hj => (h'.2 j hj).trans (h.2 j hj)⟩
theorem Bar.mono {is js : List Nat} {a b : L2.St} (h : Bar is a b) (hs : ∀ i ∈ is, i ∈ js) : Bar js a b := ⟨h.1, fun j hj => h.2 j fun q => hj (hs j q)⟩
theorem Bar.set (i : Nat) (σ : L2.St) (x : Option V) : Bar [i] σ (σ.set i x) := ⟨by simp, fun j hj => by rw [List.getElem?_set_ne (fun e => hj (by simp [e]))]⟩
theorem wipe_at (σ : L2.St) : ∀ (is : List Nat) (j : Nat), (wipe σ is)[j]? = if j ∈ is ∧ j < σ.length then some none else σ[j]?
  | [], j => by simp [wipe]
  | i :: is, j => by
    have ih := wipe_at σ is j
    show ((wipe σ is).set i none)[j]? = _
    by_cases hj : i = j
    · subst hj
      by_cases hl : i < σ.length
      · rw [List.getElem?_set_self (by rw [wipe_length]; exact hl)]; simp [hl]
      · rw [List.getElem?_eq_none (by simp [wipe_length]; omega)]; simp [hl]
    · rw [List.getElem?_set_ne hj, ih]
      have : (j ∈ i :: is) = (j ∈ is) := by simp [Ne.symm hj]
      simp [Ne.symm hj]
theorem Bar.wipe {is : List Nat} {a b : L2.St} (h : Bar is a b) : L2.wipe b is = L2.wipe a is := by
  apply List.ext_getElem?
  intro j
  rw [wipe_at, wipe_at, h.1]
  by_cases hj : j ∈ is
  · by_cases hl : j < a.length
    · simp [hj, hl]
    · rw [if_neg (fun q => hl q.2), if_neg (fun q => hl q.2), List.getElem?_eq_none (by rw [h.1]; omega), List.getElem?_eq_none (by omega)]
  · simp [hj]
    exact h.2 j hj

/-! ### targets -/
mutual
def tgG (K : PySem.W.Frag) : Tg → TG
  | .nm i => gName i
  | .tp l => gTup K l.length (tgGs K l)
  | .hs _ _ => fun _ _ _ _ => False
def tgGs (K : PySem.W.Frag) : List Tg → TGs
  | [] => gNil
  | t :: r => gCons (tgG K t) (tgGs K r)
end
theorem assignEach_cons {x : Expr} {xs : List Expr} {env : Env} (h : plainX x = true) : assignEach (x :: xs) env = (false, assign x env) :: assignEach xs env := by
  cases x <;> first | rfl | cases h
theorem chkTs_each {N : List Str} {sc : Scope} : ∀ {l : List Tg} {xs : List Expr} {env : Env}, chkTs N sc l xs = true → (assignEach xs env).length = l.length ∧ (assignEach xs env).findIdx? (·.1) = none
  | [], [], _, _ => ⟨rfl, rfl⟩
  | [], _ :: _, _, h => by cases h
  | _ :: _, [], _, h => by cases h
  | t :: r, x :: xs, env, h => by
    obtain ⟨h1, ha⟩ := ba3 h
    obtain ⟨h2, h3⟩ := ba3 ha
    obtain ⟨e1, e2⟩ := chkTs_each (env := env) h3
    rw [assignEach_cons h1]
    refine ⟨by rw [List.length_cons, List.length_cons, e1], ?_⟩
    rw [List.findIdx?_cons]
    simp [e2]
section
variable {X : Cx}
mutual
theorem tg_ok (nd : X.N.Nodup) (hc : X.calm = true) {sc : Scope} (hO : ∀ x, locB sc x = true → Loc X.env.scope x ∧ (X.fn x = true ∨ X.env.scope.names.lookup x = some .local)) : ∀ (t : Tg) (x : Expr), chkT X.N sc t x = true → PG X x (tgG X.K t)
  | .nm i, x, h => by
    obtain ⟨y, hy, h⟩ := optB_ok h
    obtain ⟨p, rfl⟩ := asName_ok hy
    obtain ⟨h1, h2⟩ := ba3 h
    obtain ⟨h3, h4⟩ := hO y h2
    exact pg_name nd (beq_iff_eq.mp h1) h3 h4
  | .tp l, x, h => by
    obtain ⟨xs, hy, h⟩ := optB_ok h
    obtain ⟨k, p, rfl⟩ := asTup_ok hy
    obtain ⟨e1, e2⟩ := chkTs_each (env := X.env) h
    exact pg_tup hc (tgs_ok nd hc hO l xs h) e1 e2
  | .hs _ _, x, h => by cases h
theorem tgs_ok (nd : X.N.Nodup) (hc : X.calm = true) {sc : Scope} (hO : ∀ x, locB sc x = true → Loc X.env.scope x ∧ (X.fn x = true ∨ X.env.scope.names.lookup x = some .local)) : ∀ (l : List Tg) (xs : List Expr), chkTs X.N sc l xs = true → PGs X xs (tgGs X.K l)
  | [], [], _ => pgs_nil
  | [], _ :: _, h => by cases h
  | _ :: _, [], h => by cases h
  | t :: r, x :: xs, h => by
    obtain ⟨h1, ha⟩ := ba3 h
    obtain ⟨h2, h3⟩ := ba3 ha
    refine pgs_cons (tg_ok nd hc hO t x h2) (tgs_ok nd hc hO r xs h3) ?_
    rw [assignEach_cons h1] <;> rfl
end
end
section
variable {c : Cn}
mutual
/-- what a target does, by the meaning -/
theorem bind_ok : ∀ (t : Tg) (d : D) (x : V) (z : Fz) (H : Hp) (σ : L2.St) (v v' : Vw) (Q : L2.St → Hp → Prop), Wf c z H → Rep c.K c.mg z x d → VOk c z σ v → bindT t d v = some v' →
    (∀ σ', VOk c z σ' v' → Bar t.vars σ σ' → Q σ' H) → tgG c.K t x σ H Q
  | .nm i, d, x, z, H, σ, v, v', Q, w, r, vo, e, q => by cases e; exact q _ (vo.set r) (Bar.set i σ _)
  | .tp l, d, x, z, H, σ, v, v', Q, w, r, vo, e, q => by
    cases d <;> first | (cases e; done) | skip
    obtain ⟨a, vs, rfl, s1, r1⟩ := r.tup_inv
    obtain ⟨h1, h2⟩ := binds_ok l _ vs z H σ v v' Q w r1 vo e q
    exact ⟨a, vs, rfl, w.sqT s1, h1, h2⟩
  | .hs _ _, d, x, z, H, σ, v, v', Q, w, r, vo, e, q => by cases e
theorem binds_ok : ∀ (l : List Tg) (ds : List D) (vs : List V) (z : Fz) (H : Hp) (σ : L2.St) (v v' : Vw) (Q : L2.St → Hp → Prop), Wf c z H → RepL c.K c.mg z vs ds → VOk c z σ v → bindTL l ds v = some v' →
    (∀ σ', VOk c z σ' v' → Bar (Tg.varsL l) σ σ' → Q σ' H) → vs.length = l.length ∧ tgGs c.K l vs σ H Q
  | [], [], vs, z, H, σ, v, v', Q, w, r, vo, e, q => by
    cases r; cases e
    exact ⟨rfl, rfl, q _ vo (Bar.refl _ _)⟩
  | [], _ :: _, _, _, _, _, _, _, _, _, _, _, e, _ => by cases e
  | _ :: _, [], _, _, _, _, _, _, _, _, _, _, e, _ => by cases e
  | t :: l, d :: ds, vs, z, H, σ, v, v', Q, w, r, vo, e, q => by
    cases r with
    | @cons x vs _ _ r rs =>
      obtain ⟨v1, e1, e2⟩ := Option.bind_eq_some_iff.mp (show (bindT t d v).bind (fun v => bindTL l ds v) = some v' from e)
      refine ⟨?_, x, vs, rfl, ?_⟩
      · rw [List.length_cons, List.length_cons, rs.length, bindTL_len l ds v1 v' e2]
      · refine bind_ok t d x z H σ v v1 _ w r vo e1 fun σ' vo' b => ?_
        exact (binds_ok l ds vs z H σ' v1 v' Q w rs vo' e2 fun σ'' vo'' b2 => q σ'' vo'' ((b.mono fun i hi => List.mem_append_left _ hi).trans (b2.mono fun i hi => List.mem_append_right _ hi))).2
theorem bindTL_len : ∀ (l : List Tg) (ds : List D) (v v' : Vw), bindTL l ds v = some v' → ds.length = l.length
  | [], [], _, _, _ => rfl
  | [], _ :: _, _, _, e => by cases e
  | _ :: _, [], _, _, e => by cases e
  | t :: l, d :: ds, v, v', e => by
    obtain ⟨v1, e1, e2⟩ := Option.bind_eq_some_iff.mp (show (bindT t d v).bind (fun v => bindTL l ds v) = some v' from e)
    rw [List.length_cons, List.length_cons, bindTL_len l ds v1 v' e2]
end
end
end Ev
set_option Elab.async false
set_option linter.all false
set_option maxRecDepth 100000
set_option maxHeartbeats 4000000
/-! Ev, part O: what is walked. -/
namespace Ev
open PySem PySem.Spec PyProof.Rows L2 RZ

theorem meets_enum1 {v : Value} {o : Obj} {H : Heap → Prop} (B : Begins v o H) :
    Meets (Builtin.«enumerate.__new__» ⟨[.type "enumerate", v], []⟩) (fun _ R s => H s.heap ∧
      R (.ok (.ret (.ref (s.heap.push o).objs.size))) { s with heap := (s.heap.push o).push { cls := .type "enumerate", data := .fields #[.none, .bool false, .ref s.heap.objs.size, rawInt 0, .none, .none] } }) :=
  .of_wp fun prog w A R s h => by
    obtain ⟨hp, g, d, tk, os⟩ := s
    obtain ⟨h1, h⟩ := h
    have hsub := sub_enumerate
    have begin1 : ∀ {A' : Around} {E : Value → Shared → Prop} {Q : Value → Shared → Prop}, Q (.ref hp.objs.size) ⟨hp.push o, g, d, tk, os⟩ → wpAny (model prog w) A' (pyIter v) Q E ⟨hp, g, d, tk, os⟩ :=
      fun q => B.iter prog w _ _ ⟨hp, g, d, tk, os⟩ _ h1 q
    wp_walk using begin1
    refine wpAny_stack_any fun st => wpAny_pure ?_
    split
    · rename_i c _ _ _ _ _
      cases (c == Value.type "enumerate")
      · wp_walk using begin1
        exact ⟨_, rfl, h⟩
      · wp_walk using begin1
        exact ⟨_, rfl, h⟩
    · wp_walk using begin1
      exact ⟨_, rfl, h⟩
theorem call_enum1 {prog : Program} {w : World} {A : Around} {E : Value → Shared → Prop} {s : Shared} {v : Value} {o : Obj} {H : Heap → Prop} {Q : Value → Shared → Prop} (B : Begins v o H) (h1 : H s.heap)
    (h : ∀ h', IsEnum h' (s.heap.objs.size + 1) s.heap.objs.size 0 .none → h'.get? s.heap.objs.size = some o → h'.objs.size = s.heap.objs.size + 2 →
      (∀ b u, s.heap.get? b = some u → h'.get? b = some u) → Q (.ref (s.heap.objs.size + 1)) { s with heap := h' }) :
    wpAny (model prog w) A (call (.type "enumerate") [v]) Q E s := by
  refine callType_new F.called_enumerate (by decide) (F.typeCall_enumerate_1 _) (F.newCall_enumerate_1 _) (fun obj => F.args_object_init_2 obj _) F.entry_enumerate_new (meets_enum1 B) ⟨h1, ?_⟩
  have hz : (s.heap.push o).objs.size = s.heap.objs.size + 1 := Heap.size_push ..
  show _ ∧ _
  rw [hz]
  have he : IsEnum ((s.heap.push o).push { cls := .type "enumerate", data := .fields #[.none, .bool false, .ref s.heap.objs.size, rawInt 0, .none, .none] }) (s.heap.objs.size + 1) s.heap.objs.size 0 .none := by
    have q := Heap.get?_push_size (s.heap.push o) (o := { cls := .type "enumerate", data := .fields #[.none, .bool false, .ref s.heap.objs.size, rawInt 0, .none, .none] }) rfl
    rw [hz] at q; exact q
  exact ⟨⟨_, he, rfl⟩, h _ he (Heap.get?_push_of_some _ (Heap.get?_push_size _ B.free)) (by rw [Heap.size_push, hz]) fun b u x => Heap.get?_push_of_some _ (Heap.get?_push_of_some _ x)⟩

/-- enumerate(a tuple): each item in a new pair -/
def ItnT (K : PySem.W.Frag) (a : Addr) : L2.It :=
  ⟨fun i H => ∃ (xs : List V) (x : V), SqT K H a xs ∧ xs[i]? = some x, fun i H v H' => ∃ T x, v = .ref T ∧ H T = none ∧ H' = upd H T (.tup [.int (i : Nat), x]) ∧ ∀ xs, SqT K H a xs → xs[i]? = some x, fun i H => ∃ xs : List V, SqT K H a xs ∧ i = xs.length⟩
theorem turn_enumT {P : Program} {w : World} {K : PySem.W.Frag} {elts : List Expr} {kk : Nat} {tpos : Pos} (a e it : Addr) :
    Turn P w K (.Tuple elts kk tpos) (ItnT K a) [e, it] e (fun i h => (∃ old, IsEnum h e it ((i : Nat) : Int) old) ∧ h.IsTupleIter it a i ∧ e ≠ it) where
  mem := by simp
  obj := fun i h st b hb => by
    obtain ⟨⟨old, he⟩, ⟨o, ho, hc, hd⟩, _⟩ := st
    have e' : b = e ∨ b = it := by simpa using hb
    rcases e' with rfl | rfl
    · exact ⟨_, he, fun v q => nomatch q⟩
    · exact ⟨o, ho, fun v q => by rw [hd] at q; cases q⟩
  keep := fun i h h' st k => let ⟨⟨old, he⟩, hi, hne⟩ := st; ⟨⟨old, k e (by simp) _ he⟩, hi.at fun o q => k it (by simp) o q, hne⟩
  item := by
    intro X hP hw hK hc i pins s σ H E I hf st hg
    subst hP hw hK
    obtain ⟨⟨old, he⟩, hit, hne⟩ := st
    obtain ⟨xs, x, hq, hx⟩ := hg
    obtain ⟨its, rv, p, hz⟩ := I.tuple hq
    obtain ⟨u, hu, ru⟩ := rv.get hx
    have hel : e < s.heap.objs.size := Heap.lt_size he
    have hil : it < s.heap.objs.size := by obtain ⟨_, q, _⟩ := hit; exact Heap.lt_size q
    have p' : s.heap.IsTuple a its.toArray := p
    have hta : a ≠ it := fun q => by
      subst q
      obtain ⟨o1, g1, c1, _⟩ := p'
      obtain ⟨o2, g2, c2, _⟩ := hit
      rw [g1] at g2; cases g2; rw [c1] at c2; exact absurd c2 (by decide)
    have hea : e ∉ [it, a] := fun q => by
      have q' : e = it ∨ e = a := by simpa using q
      rcases q' with q' | q'
      · exact hne q'
      · subst q'
        obtain ⟨o1, g1, c1, _⟩ := p'
        have g2 := he
        rw [show s.heap.get? e = some _ from he] at g1; cases g1; exact absurd (Value.type.inj c1) (by decide)
    refine wpAny_pyNext_enum_itemD (Draws.tuple (show X.A.in1.handled = none from I.ok.hd hc) it a hta its.toArray) he ⟨hit, p'⟩ (by
      have := (List.getElem?_eq_some_iff.mp hx).1; have := rv.length; simp; omega) hne hea fun x' h' tk hP ho st' hT hsz hk => ?_
    have ex : x' = u := by
      have hP' : its[i]? = some x' := by simpa using hP
      rw [hu] at hP'; exact (Option.some.inj hP').symm
    subst ex
    refine ⟨_, rfl, wpAny_letOwnedTupleGo_enum (s := { s with heap := h', toks := tk + 1 }) ho fun h'' he' sb => ?_⟩
    have hT2 : h''.get? s.heap.objs.size = some { cls := .type "tuple", data := .seq #[.int i tk, x'] } := (sb.2 _ (Nat.ne_of_gt hel)).trans hT
    have new : ObjOk X.prog X.w (upd H s.heap.objs.size (.tup [.int (i : Nat), x])) h'' s.heap.objs.size (.tup [.int (i : Nat), x]) :=
      ⟨by show 2 ≤ sizeLine; decide, [.int i tk, x'], .cons ⟨_, rfl⟩ (.cons ru .nil), ⟨_, hT2, rfl, _, rfl⟩⟩
    have I1 : Inv X pins σ (upd H s.heap.objs.size (.tup [.int (i : Nat), x])) { s with heap := h'', toks := tk + 1 } :=
      I.turnedNew (ch := [e, it]) (fun b ob hb q => (sb.2 b (fun z => hb (by simp [z]))).trans (hk b ob (fun z => hb (by simp [z])) (fun z => hb (by simp [z])) q)) hf (Nat.le_refl _) new
    refine ⟨.ref s.heap.objs.size, _, I1, rfl, ⟨_, x, rfl, I.hok.fresh (Nat.le_refl _), rfl, fun ys hy => by rw [I.tuple_inj hy hq]; exact hx⟩, ⟨⟨x', ?_⟩, st'.1.at fun o q => (sb.2 it (Ne.symm hne)).trans q, hne⟩, fun b hb => ?_⟩
    · have e1 : ((i + 1 : Nat) : Int) = (i : Int) + 1 := by omega
      rw [e1]; exact he'
    · have hb' : b < s.heap.objs.size := by
        have e' : b = e ∨ b = it := by simpa using hb
        rcases e' with rfl | rfl
        · exact hel
        · exact hil
      rw [upd_ne (Nat.ne_of_lt hb')]
      exact (hf b hb).1
  done := by
    intro X hP hw hK hc i pins s σ H E I hf st hg
    subst hP hw hK
    obtain ⟨⟨old, he⟩, hit, hne⟩ := st
    obtain ⟨xs, hq, hx⟩ := hg
    obtain ⟨its, rv, p, hz⟩ := I.tuple hq
    obtain ⟨f0, f1, f2, f3, f4, f5⟩ := hf it (by simp)
    have hl := rv.length
    have p' : s.heap.IsTuple a its.toArray := p
    have hta : a ≠ it := fun q => by
      subst q
      obtain ⟨o1, g1, c1, _⟩ := p'
      obtain ⟨o2, g2, c2, _⟩ := hit
      rw [g1] at g2; cases g2; rw [c1] at c2; exact absurd c2 (by decide)
    have hi : i = its.toArray.size := by simp; omega
    subst hi
    exact wpAny_pyNext_enum_endD (Draws.tuple (show X.A.in1.handled = none from I.ok.hd hc) it a hta its.toArray) he ⟨hit, p'⟩ fun h' eb => ⟨rfl, I.turned (t' := s.toks) (fun b o hb q => eb b o hb q) f0 f1 f3 f4 f5⟩
  self := fun A i s Q E st h => let ⟨⟨_, he⟩, _⟩ := st; wpAny_pyIter_enum he h

def iEnumA (K : PySem.W.Frag) (ta : TA) : TI := fun σ H R => ta σ H fun vs H1 => ∃ a xs, vs = [.ref a] ∧ ((SqL K H1 a xs ∧ R (Ite K a) H1) ∨ (SqT K H1 a xs ∧ R (ItnT K a) H1))
theorem pi_enumA {X : Cx} {e : Expr} {ta : TA} {p pos tpos : Pos} {elts : List Expr} {kk : Nat} (hg : Gl X "enumerate") (hm : X.mg "enumerate" = none) (ha : PA X [e] ta) (hs : starEach [e] X.env = [(false, eval e X.env)]) :
    PI X (.Tuple elts kk tpos) (.Call (.Name "enumerate" p) [e] [] pos) (iEnumA X.K ta) := by
  refine ⟨fun pins s σ H R I h => ?_⟩
  refine Call_ (ld_blt I hg hm boot_enumerate (PyProof.Rows.callWith_type1 (thn (ha.run pos pins s σ H _ I h) fun us s1 ⟨vs, H1, I1, r1, q1⟩ => ?_) hs rfl))
  obtain ⟨a, xs, ex, q1⟩ := q1
  subst ex
  cases r1 with
  | cons r rr =>
    cases rr
    cases r
    have fresh2 : ∀ c, c ∈ [s1.heap.objs.size + 1, s1.heap.objs.size] → FpOk X pins H1 c := fun c hcm => by
      have e' : c = s1.heap.objs.size + 1 ∨ c = s1.heap.objs.size := by simpa using hcm
      have hle : s1.heap.objs.size ≤ c := by
        rcases e' with z | z
        · rw [z]; exact Nat.le_add_right _ _
        · rw [z]; exact Nat.le_refl _
      exact I1.fpOk hle (I1.hok.fresh hle)
    rcases q1 with ⟨hq, q⟩ | ⟨hq, q⟩
    · obtain ⟨its, rv, p', hz⟩ := I1.list hq
      refine call_enumerate_list p'.isList fun h' he hit hsz hk => wpAny_pyIter_enum he ?_
      exact ⟨s1.heap.objs.size + 1, [s1.heap.objs.size + 1, s1.heap.objs.size], _, _, H1, rfl, I1.kept (t' := s1.toks) hk, turn_enum a (s1.heap.objs.size + 1) s1.heap.objs.size, ⟨⟨.none, he⟩, hit, Nat.succ_ne_self _⟩, fresh2, q⟩
    · obtain ⟨its, rv, p', hz⟩ := I1.tuple hq
      refine call_enum1 (begins_tuple a its.toArray) (show s1.heap.IsTuple a its.toArray from p') fun h' he hit hsz hk => wpAny_pyIter_enum he ?_
      exact ⟨s1.heap.objs.size + 1, [s1.heap.objs.size + 1, s1.heap.objs.size], _, _, H1, rfl, I1.kept (t' := s1.toks) hk, turn_enumT a (s1.heap.objs.size + 1) s1.heap.objs.size, ⟨⟨.none, he⟩, ⟨_, hit, rfl, rfl⟩, Nat.succ_ne_self _⟩, fresh2, q⟩
theorem walk_enumT {K : PySem.W.Frag} {a : Addr} {xs : List V} : Walk (ItnT K a) xs.length (fun H => SqT K H a xs) (YPair (fun i => some (.int (i : Nat))) (fun i => xs[i]?)) := by
  refine ⟨fun i _ hi q => ⟨xs, xs[i], q, by simp [hi]⟩, fun _ q => ⟨xs, q, rfl⟩, fun i H v H' _ q y => ?_⟩
  obtain ⟨T, x, h1, h2, h3, h4⟩ := y
  exact ⟨T, .int (i : Nat), x, h1, h2, h3, rfl, h4 xs q⟩
theorem walk_zipX {K : PySem.W.Frag} {t u : Bool} {a b : Addr} {xs ys : List V} {n : Nat} (hn : n = min xs.length ys.length) : Walk (EvZip.ItzX K t u a b) n (fun H => EvZip.SX t K H a xs ∧ EvZip.SX u K H b ys) (YPair (fun i => xs[i]?) (fun i => ys[i]?)) := by
  subst hn
  refine ⟨fun i _ hi q => ?_, fun _ q => ⟨xs, ys, q.1, q.2, rfl⟩, fun i H v H' _ q y => ?_⟩
  · have h1 : i < xs.length := by omega
    have h2 : i < ys.length := by omega
    exact ⟨xs, ys, xs[i], ys[i], q.1, q.2, by simp [h1], by simp [h2]⟩
  · obtain ⟨T, x, z, h1, h2, h3, h4, h5⟩ := y
    exact ⟨T, x, z, h1, h2, h3, h4 xs q.1, h5 ys q.2⟩
theorem sx_mono {K : PySem.W.Frag} {t : Bool} {H H' : Hp} {a : Addr} {vs : List V} (h : ∀ b o, H b = some o → H' b = some o) (q : EvZip.SX t K H a vs) : EvZip.SX t K H' a vs := by
  cases t with
  | true => exact sqT_mono h q
  | false => exact sqL_mono h q
/-- a list, a tuple -/
theorem rep_seq {K : PySem.W.Frag} {mg : Str → Option Value} {z : Fz} {x : V} {d : D} {ds : List D} (r : Rep K mg z x d) (e : d = .tup ds ∨ d = .lst ds) : ∃ t a vs, x = .ref a ∧ EvZip.SX t K z.F a vs ∧ RepL K mg z vs ds := by
  rcases e with rfl | rfl
  · obtain ⟨a, vs, rfl, s, q⟩ := r.tup_inv
    exact ⟨true, a, vs, rfl, s, q⟩
  · obtain ⟨a, vs, rfl, s, q⟩ := r.lst_inv
    exact ⟨false, a, vs, rfl, s, q⟩

/-! ### by the meaning -/
/-- an iterator gives these data, one by one, while what is seen stands -/
def Wk (c : Cn) (ds : List D) (z : Fz) (J : L2.It) : Prop := ∃ (G : Hp → Prop) (Y : Nat → Hp → V → Hp → Prop), Walk J ds.length G Y ∧ (∀ z' H', Wf c z' H' → z.Le z' → G H') ∧
  ∀ i z1 H1 x H2, i < ds.length → Wf c z1 H1 → z.Le z1 → Y i H1 x H2 → ∃ z2 d, Wf c z2 H2 ∧ Ext z1 H1 z2 H2 ∧ ds[i]? = some d ∧ Rep c.K c.mg z2 x d
def tMI (c : Cn) (W : WX) (v : Vw) (m : M (List D)) : TI := fun σ H R => ∃ z, Wf c z H ∧ VOk c z σ v ∧ m.w (fun ds => ∀ J H' z', Wf c z' H' → Ext z H z' H' → Wk c ds z' J → R J H') (Px c z H fun cls dd H' => W cls dd σ H')
section
variable {c : Cn} {z : Fz}
theorem wk_at {xs : List V} {ds : List D} {J : L2.It} {G : Hp → Prop} (w : Walk J xs.length G (YAt xs)) (r : RepL c.K c.mg z xs ds) (hG : ∀ z' H', Wf c z' H' → z.Le z' → G H') : Wk c ds z J := by
  rw [r.length] at w
  refine ⟨G, YAt xs, w, hG, fun i z1 H1 x H2 hi w1 l y => ?_⟩
  obtain ⟨rfl, e⟩ := y
  obtain ⟨d, h1, h2⟩ := r.get e
  exact ⟨z1, d, w1, .refl _ _, h1, h2.mono l⟩
theorem wk_pair {xs ys : Nat → Option V} {ds : List D} {J : L2.It} {n : Nat} {G : Hp → Prop} (w : Walk J n G (YPair xs ys)) (hn : n = ds.length) (hG : ∀ z' H', Wf c z' H' → z.Le z' → G H')
    (h : ∀ i x y, xs i = some x → ys i = some y → i < n → ∃ d e, ds[i]? = some (.tup [d, e]) ∧ Rep c.K c.mg z x d ∧ Rep c.K c.mg z y e) : Wk c ds z J := by
  subst hn
  refine ⟨G, _, w, hG, fun i z1 H1 x H2 hi w1 l y => ?_⟩
  obtain ⟨T, x1, y1, rfl, hT, rfl, e1, e2⟩ := y
  obtain ⟨d, e, h1, h2, h3⟩ := h i x1 y1 e1 e2 hi
  obtain ⟨w2, x2⟩ := alloc (o := .tup [x1, y1]) w1 hT (fun _ e => by cases e)
  exact ⟨_, _, w2, x2, h1, .tup (SqT.of upd_same) (.cons (h2.mono (l.trans x2.le)) (.cons (h3.mono (l.trans x2.le)) .nil))⟩
theorem wk_fn {f : Nat → V} {ds : List D} {J : L2.It} {n : Nat} (w : Walk J n (fun _ => True) (YFn f)) (hn : n = ds.length) (h : ∀ i, i < n → ∃ d, ds[i]? = some d ∧ Rep c.K c.mg z (f i) d) : Wk c ds z J := by
  subst hn
  refine ⟨_, _, w, fun _ _ _ _ => trivial, fun i z1 H1 x H2 hi w1 l y => ?_⟩
  obtain ⟨rfl, rfl⟩ := y
  obtain ⟨d, h1, h2⟩ := h i hi
  exact ⟨z1, d, w1, .refl _ _, h1, h2.mono l⟩
theorem wk_str {x : Str} : Wk c (D.signs x) z (Its x) := by
  have e : (D.signs x).length = x.cps.size := by simp [D.signs]
  refine ⟨_, _, e ▸ walk_str, fun _ _ _ _ => trivial, fun i z1 H1 y H2 hi w1 l q => ?_⟩
  obtain ⟨rfl, ch, h1, rfl⟩ := q
  refine ⟨z1, _, w1, .refl _ _, ?_, .str _⟩
  show ((x.cps.toList).map _)[i]? = _
  rw [List.getElem?_map, show x.cps.toList[i]? = some ch by simpa using h1]; rfl
end
section
variable {c : Cn} {X : Cx} {W : WX} {v : Vw}
/-- a value that is walked -/
theorem pi_val (hK : X.K = c.K) {tg e : Expr} {m : M D} (he : PE X e (tM c W v m)) : PI X tg e (tMI c W v (M.bind m D.iter)) := by
  refine ⟨fun pins s σ H R I h => ?_⟩
  obtain ⟨z, w, vo, q⟩ := h
  refine thn (he.run pins s σ H (fun x H1 => ∃ z1 d, Wf c z1 H1 ∧ Ext z H z1 H1 ∧ Rep c.K c.mg z1 x d ∧ (D.iter d).w (fun ds => ∀ J H' z', Wf c z' H' → Ext z H z' H' → Wk c ds z' J → R J H') (fun _ => True)) I
    ⟨z, w, vo, m.mono (fun d p x H' z' w' e r => ⟨z', d, w', e, r, (D.iter d).mono (fun _ p => p) (fun _ _ => trivial) p⟩) (fun _ p => p) q⟩) fun u s1 ⟨x, H1, I1, r1, z1, d, w1, x1, rd, q⟩ => ?_
  cases d with
  | tup ds =>
    obtain ⟨a, vs, rfl, s1', rl⟩ := rd.tup_inv
    cases r1
    obtain ⟨its, rv, p, hz⟩ := I1.tuple (hK ▸ w1.sqT s1')
    refine wpAny_pyIter_tuple (show s1.heap.IsTuple a its.toArray from p) ?_
    refine pi_one (tk := s1.toks) I1 _ (turn_tuple a _) ⟨_, Heap.get?_push_size _ rfl, rfl, rfl⟩ (q _ _ z1 w1 x1 ?_)
    exact wk_at walk_tup rl fun z' H' w' l => hK ▸ w'.sqT (sqT_mono l.f s1')
  | lst ds =>
    obtain ⟨a, vs, rfl, s1', rl⟩ := rd.lst_inv
    cases r1
    obtain ⟨its, rv, p, hz⟩ := I1.list (hK ▸ w1.sqL s1')
    refine wpAny_pyIter_list p.isList ?_
    refine pi_one (tk := s1.toks) I1 _ (turn_list a _) ⟨_, Heap.get?_push_size _ rfl, rfl, rfl⟩ (q _ _ z1 w1 x1 ?_)
    exact wk_at walk_list rl fun z' H' w' l => hK ▸ w'.sqL (sqL_mono l.f s1')
  | str y =>
    obtain rfl := rd.str_inv
    obtain ⟨t, rfl⟩ := r1
    cases ha : y.cps.all (· < 128)
    · exact wpAny_pyIter_wide ha (pi_one (tk := s1.toks) I1 _ (turn_str _ y t "str_iterator" (.inr rfl)) ⟨_, Heap.get?_push_size _ rfl, rfl, rfl⟩ (q _ _ z1 w1 x1 wk_str))
    · exact wpAny_pyIter_ascii ha (pi_one (tk := s1.toks) I1 _ (turn_str _ y t "str_ascii_iterator" (.inl rfl)) ⟨_, Heap.get?_push_size _ rfl, rfl, rfl⟩ (q _ _ z1 w1 x1 wk_str))
  | _ => exact q.elim
theorem PI.imp {tg e : Expr} {t t' : TI} (h : PI X tg e t) (i : ∀ σ H Q, t' σ H Q → t σ H Q) : PI X tg e t' := ⟨fun pins s σ H Q I q => h.run pins s σ H Q I (i σ H Q q)⟩
end
end Ev
set_option Elab.async false
set_option linter.all false
set_option maxRecDepth 100000
set_option maxHeartbeats 4000000
/-! Ev, part P: lists that are still changed; comprehensions. -/
namespace Ev
open PySem PySem.Spec PyProof.Rows L2

/-- a list that nobody else sees -/
structure Ow (z : Fz) (H : Hp) (p : Addr) (vs : List V) : Prop where
  at_ : H p = some (.lst vs)
  nf : z.F p = none
  nh : ¬ z.hs p
section
variable {c : Cn} {z z' : Fz} {H H' : Hp} {p : Addr} {vs ws : List V}
theorem Ow.ext (o : Ow z H p vs) (x : Ext z H z' H') : Ow z' H' p vs where
  at_ := x.keep _ _ o.at_ o.nh (fun _ e => by cases e)
  nf := by
    cases e : z'.F p with
    | none => rfl
    | some u => have := x.fn p u (by rw [o.at_]; simp) e; rw [o.nf] at this; cases this
  nh := fun q => by
    rcases x.hn p q with q | q
    · exact o.nh q
    · rw [o.at_] at q; cases q
theorem Ow.new (w : Wf c z H) (hp : H p = none) : Ow z (upd H p (.lst vs)) p vs where
  at_ := upd_same
  nf := by
    cases e : z.F p with
    | none => rfl
    | some u => rw [w.f p u e] at hp; cases hp
  nh := fun q => by
    obtain ⟨⟨i, j, k, e⟩, _⟩ := w.hs p q
    rw [e] at hp; cases hp
theorem Tabs.upd (t : LamX.Tabs c.T H) (o : H p = some (.lst vs)) : LamX.Tabs c.T (upd H p (.lst ws)) := fun q hq => by
  obtain ⟨ps, h1, h2, h3⟩ := t q hq
  refine ⟨ps, ?_, h2, fun pos cv hc => ?_⟩
  · rw [upd_ne (fun e => by rw [e, o] at h1; cases h1)]; exact h1
  · obtain ⟨a, e1, e2⟩ := h3 pos cv hc
    exact ⟨a, e1, by rw [upd_ne (fun e => by rw [e, o] at e2; cases e2)]; exact e2⟩
theorem ClW.updL (x : ClW c z H) (o : H p = some (.lst vs)) : ClW c z (L2.upd H p (.lst ws)) := x.ext (.refl z) rfl fun b q e => by
  rw [upd_ne (fun h => by rw [h, o] at e; unfold LamX.CodeO at e; cases e)]; exact e
/-- it may change -/
theorem Wf.upd (w : Wf c z H) (o : Ow z H p vs) : Wf c z (upd H p (.lst ws)) := by
  refine ⟨fun b u e => ?_, fun a ha => ?_, w.tb, Tabs.upd w.ts o.at_, w.cl.updL o.at_⟩
  · rw [upd_ne (fun q => by rw [q, o.nf] at e; cases e)]; exact w.f b u e
  · rw [upd_ne (fun (q : a = p) => o.nh (q ▸ ha))]; exact w.hs a ha
theorem Ow.upd (o : Ow z H p vs) : Ow z (upd H p (.lst ws)) p ws := ⟨upd_same, o.nf, o.nh⟩
/-- new since z, H, it may change -/
theorem Ext.upd (x : Ext z H z' H') (hp : H p = none) : Ext z H z' (upd H' p (.lst ws)) where
  keep := fun b o e n t => by rw [upd_ne (ne_of_none e hp)]; exact x.keep b o e n t
  there := fun b e => by
    by_cases hb : b = p
    · subst hb; rw [upd_same]; simp
    · rw [upd_ne hb]; exact x.there b e
  le := x.le
  fn := x.fn
  hn := x.hn
  ce := x.ce
  se := x.se
theorem Wf.new (w : Wf c z H) (hp : H p = none) : Wf c z (L2.upd H p (.lst vs)) := by
  have o : Ow z (L2.upd H p (.lst vs)) p vs := Ow.new w hp
  refine ⟨fun b u e => ?_, fun a ha => ?_, w.tb, w.ts.ext fun b u e => by rw [upd_ne (ne_of_none e hp)]; exact e, w.cl.ext (.refl z) rfl fun b q e => by rw [upd_ne (ne_of_none e hp)]; exact e⟩
  · rw [upd_ne (fun q => by rw [q, o.nf] at e; cases e)]; exact w.f b u e
  · rw [upd_ne (fun (q : a = p) => o.nh (q ▸ ha))]; exact w.hs a ha
/-- not changed any more -/
def Fz.frz (z : Fz) (p : Addr) (vs : List V) : Fz := { z with F := L2.upd z.F p (.lst vs) }
theorem Fz.le_frz (o : z.F p = none) : z.Le (z.frz p vs) := ⟨fun b u e => by
  show L2.upd z.F p (.lst vs) b = some u
  rw [upd_ne (fun q => by rw [q, o] at e; cases e)]; exact e, fun _ h => h, fun _ _ _ _ _ h => h, fun _ h => h⟩
theorem Wf.frz (w : Wf c z H) (o : Ow z H p vs) : Wf c (z.frz p vs) H := by
  refine ⟨fun b u e => ?_, fun a ha => ?_, fun b ps e => ?_, w.ts, w.cl.ext (Fz.le_frz o.nf) rfl fun _ _ e => e⟩
  · have e : L2.upd z.F p (.lst vs) b = some u := e
    by_cases hb : b = p
    · subst hb; rw [upd_same] at e; rw [o.at_]; exact e
    · rw [upd_ne hb] at e; exact w.f b u e
  · have ne : a ≠ p := fun q => o.nh (q ▸ ha)
    show (∃ i j k : Int, H a = _) ∧ L2.upd z.F p (.lst vs) a = none
    rw [upd_ne ne]; exact w.hs a ha
  · have e : L2.upd z.F p (.lst vs) b = some (.tbl ps) := e
    by_cases hb : b = p
    · subst hb; rw [upd_same] at e; cases e
    · rw [upd_ne hb] at e; exact w.tb b ps e
theorem Ext.frz (x : Ext z H z' H') (o : Ow z' H' p vs) (hp : H p = none) : Ext z H (z'.frz p vs) H' where
  keep := x.keep
  there := x.there
  le := x.le.trans (Fz.le_frz o.nf)
  fn := fun b u e q => x.fn b u e (by
    have q : L2.upd z'.F p (.lst vs) b = some u := q
    rwa [upd_ne (fun (r : b = p) => e (r ▸ hp))] at q)
  hn := x.hn
  ce := x.ce
  se := x.se
theorem Fz.frz_at : (z.frz p vs).F p = some (.lst vs) := upd_same
end
/-! ### what makes a new list -/
def tF (c : Cn) (W : WX) (v : Vw) (m : M (List D)) : TE := fun σ H Q => ∃ z, Wf c z H ∧ VOk c z σ v ∧
  m.w (fun ds => ∀ p vs H' z', Wf c z' H' → Ext z H z' H' → Ow z' H' p vs → H p = none → RepL c.K c.mg z' vs ds → Q (.ref p) H') (Px c z H fun cls dd H' => W cls dd σ H')
section
variable {c : Cn} {W : WX} {v : Vw} {X : Cx}
theorem tF.tM {m : M (List D)} {σ : L2.St} {H : Hp} {Q : VK} (h : tM c W v (M.bind m fun ds => ret (.lst ds)) σ H Q) : tF c W v m σ H Q := by
  obtain ⟨z, w, vo, q⟩ := h
  refine ⟨z, w, vo, m.mono (fun ds p a vs H' z' w' x o hp r => ?_) (fun _ p => p) q⟩
  exact p (.ref a) H' (z'.frz a vs) (w'.frz o) (x.frz o hp) (.lst (SqL.of Fz.frz_at) (r.mono (Fz.le_frz o.nf)))
theorem PE.frz {e : Expr} {m : M (List D)} (h : PE X e (tF c W v m)) : PE X e (tM c W v (M.bind m fun ds => ret (.lst ds))) := PE.imp h fun σ H Q q => tF.tM q
theorem PE.ex {ι : Type} {e : Expr} {t : ι → TE} (h : ∀ i, PE X e (t i)) : PE X e (fun σ H Q => ∃ i, t i σ H Q) := ⟨fun pins s σ H Q I ⟨i, q⟩ => (h i).run pins s σ H Q I q⟩
theorem PT.ex {ι : Type} {e : Expr} {t : ι → TT} (h : ∀ i, PT X e (t i)) : PT X e (fun σ H Q => ∃ i, t i σ H Q) := ⟨fun pins s σ H Q I ⟨i, q⟩ => (h i).run pins s σ H Q I q⟩
theorem PI.ex {ι : Type} {tg e : Expr} {t : ι → TI} (h : ∀ i, PI X tg e (t i)) : PI X tg e (fun σ H Q => ∃ i, t i σ H Q) := ⟨fun pins s σ H Q I ⟨i, q⟩ => (h i).run pins s σ H Q I q⟩
end
theorem VOk.le {c : Cn} {z z' : Fz} {σ : L2.St} {v : Vw} (vo : VOk c z σ v) (l : z.Le z') : VOk c z' σ v := ⟨vo.1, fun i d e => by
  obtain ⟨x, h1, h2⟩ := vo.2 i d e
  exact ⟨x, h1, h2.mono l⟩⟩
theorem wipe_wipe (σ : L2.St) (is : List Nat) : L2.wipe (L2.wipe σ is) is = L2.wipe σ is := by
  have b : Bar is σ (L2.wipe σ is) := ⟨wipe_length _ _, fun j hj => by rw [wipe_at]; simp [hj]⟩
  exact b.wipe
/-- nothing is let out of a block -/
abbrev W0 : WX := fun _ _ _ _ => False
theorem ofO_w {α : Type} {o : Option α} {Q : α → Prop} {R : Xn → Prop} (h : (M.ofO o).w Q R) : ∃ a, o = some a ∧ Q a := by
  cases o with
  | none => exact h.elim
  | some a => exact ⟨a, rfl, h⟩
/-- the places of a block's own names -/
theorem ownOf_snd (N : List Str) (vs : List Nat) : (ownOf N vs).map (·.2) = vs := by
  unfold ownOf
  rw [List.map_map]
  exact List.map_id' vs
theorem relS_keep {scope sc : Scope} {x : Str} {kd : NameKind} (hk : kd ≠ .free) (h : scope.names.lookup x = some kd) : (relS scope sc).names.lookup x = some kd := lookup_relS_keep hk h
theorem locB_blk {scope : Scope} {X : Cx} {s : Shared} {H : Hp} {C : Addr} {cl : List (Str × Addr)} {fp : List Addr} : ∀ x, locB scope x = true →
    Loc (X.blk s H scope (compEnvC scope cl C X.env) fp).env.scope x ∧ ((X.blk s H scope (compEnvC scope cl C X.env) fp).fn x = true ∨ (X.blk s H scope (compEnvC scope cl C X.env) fp).env.scope.names.lookup x = some .local) := fun x h => by
  unfold locB at h
  split at h <;> first | (cases h; done) | skip
  · rename_i e
    have e2 : (relS scope X.env.scope).names.lookup x = some .local := relS_keep (by simp) e
    exact ⟨.inl e2, .inr e2⟩
  · rename_i e
    have e2 : (relS scope X.env.scope).names.lookup x = some .cell := relS_keep (by simp) e
    refine ⟨.inr e2, .inl ?_⟩
    show (scope.names.lookup x == some .cell) = true
    rw [e]; rfl
theorem PTs.ex {ι : Type} {X : Cx} {e : List Expr} {t : ι → TT} (h : ∀ i, PTs X e (t i)) : PTs X e (fun σ H Q => ∃ i, t i σ H Q) := ⟨fun pins s σ H Q I ⟨i, q⟩ => (h i).run pins s σ H Q I q⟩
theorem PTs.imp {X : Cx} {e : List Expr} {t t' : TT} (h : PTs X e t) (i : ∀ σ H Q, t' σ H Q → t σ H Q) : PTs X e t' := ⟨fun pins s σ H Q I q => h.run pins s σ H Q I (i σ H Q q)⟩
theorem fold_plain {x : Expr} (h : plainX x = true) (env : Env) : ∀ y, foldedSetIterable x env y = pure y := fun y => by
  cases x <;> first | rfl | cases h
/-- what range, enumerate, zip give -/
theorem rng_wk {c : Cn} {z : Fz} {i : Int} {n : Nat} : Wk c ((List.range n).map fun (j : Nat) => D.int (i + (j : Int))) z (Itr i n) := by
  refine wk_fn walk_range (by simp) fun j hj => ⟨.int (i + (j : Int)), ?_, .int _⟩
  rw [List.getElem?_map, List.getElem?_range hj]; rfl
theorem enum_at {c : Cn} {z : Fz} {xs : List V} {ds : List D} (r : RepL c.K c.mg z xs ds) {n : Nat} (hn : n = ds.length) : ∀ i x y, (fun i : Nat => some (V.int (i : Nat))) i = some x → (fun i : Nat => xs[i]?) i = some y → i < n → ∃ d e, (ds.zipIdx.map fun p => D.tup [.int p.2, p.1])[i]? = some (.tup [d, e]) ∧ Rep c.K c.mg z x d ∧ Rep c.K c.mg z y e := fun i x y h1 h2 hi => by
  have h1 : some (V.int (i : Nat)) = some x := h1
  obtain ⟨d, e1, e2⟩ := r.get h2
  cases h1
  refine ⟨.int i, d, ?_, .int _, e2⟩
  rw [List.getElem?_map, List.getElem?_zipIdx, e1]
  simp
theorem zip_at {c : Cn} {z : Fz} {xs ys : List V} {ds es : List D} (r : RepL c.K c.mg z xs ds) (q : RepL c.K c.mg z ys es) {n : Nat} : ∀ i x y, (fun i : Nat => xs[i]?) i = some x → (fun i : Nat => ys[i]?) i = some y → i < n → ∃ d e, (List.zipWith (fun a b => D.tup [a, b]) ds es)[i]? = some (.tup [d, e]) ∧ Rep c.K c.mg z x d ∧ Rep c.K c.mg z y e := fun i x y h1 h2 _ => by
  obtain ⟨d, e1, e2⟩ := r.get h1
  obtain ⟨e, e3, e4⟩ := q.get h2
  refine ⟨d, e, ?_, e2, e4⟩
  rw [List.getElem?_zipWith, e1, e3]
section
variable {c : Cn} {W : WX} {v : Vw}
/-- a range: wherever -/
def tMR (c : Cn) (W : WX) (v : Vw) (m : M (List D)) : TI := fun σ H R => ∃ z, Wf c z H ∧ VOk c z σ v ∧ m.w (fun ds => ∀ J H' z', Wf c z' H' → Ext z H z' H' → (∀ z2, Wk c ds z2 J) → R J H') (Px c z H fun cls dd H' => W cls dd σ H')
theorem tMI.r {m : M (List D)} {σ : L2.St} {H : Hp} {R : L2.It → Hp → Prop} (h : tMI c W v m σ H R) : tMR c W v m σ H R := by
  obtain ⟨z, w, vo, q⟩ := h
  exact ⟨z, w, vo, m.mono (fun ds p J H' z' w' x k => p J H' z' w' x (k z')) (fun _ p => p) q⟩
theorem rng_parts {m : M (List D)} {σ : L2.St} {H : Hp} {R : L2.It → Hp → Prop} (h : tMR c W v (M.bind m rngD) σ H R) (hl : ∀ Q R, m.w Q R → m.w (fun ds => Q ds ∧ ds.length = 1) R) : iRng1 (tML c W v m) σ H R := by
  obtain ⟨z, w, vo, q⟩ := h
  refine ⟨z, w, vo, m.mono (fun ds p vs H1 z1 w1 x1 r => ?_) (fun _ p => p) (hl _ _ q)⟩
  obtain ⟨p, hn⟩ := p
  match ds, hn with
  | [d], _ =>
    cases d <;> first | exact p.elim | skip
    obtain ⟨y, rfl, ry⟩ := r.one_inv
    obtain ⟨⟨b1, b2⟩, p⟩ := p
    exact ⟨_, by rw [ry.int_inv], b1, b2, p _ _ z1 w1 x1 fun _ => rng_wk⟩
theorem rng_parts2 {m : M (List D)} {σ : L2.St} {H : Hp} {R : L2.It → Hp → Prop} (h : tMR c W v (M.bind m rngD) σ H R) (hl : ∀ Q R, m.w Q R → m.w (fun ds => Q ds ∧ ds.length = 2) R) : iRng2 (tML c W v m) σ H R := by
  obtain ⟨z, w, vo, q⟩ := h
  refine ⟨z, w, vo, m.mono (fun ds p vs H1 z1 w1 x1 r => ?_) (fun _ p => p) (hl _ _ q)⟩
  obtain ⟨p, hn⟩ := p
  match ds, hn with
  | [d, e], _ =>
    cases d <;> cases e <;> first | exact p.elim | skip
    obtain ⟨y, y2, rfl, ry, ry2⟩ := r.two_inv
    obtain ⟨⟨b1, b2, b3, b4⟩, p⟩ := p
    exact ⟨_, _, by rw [ry.int_inv, ry2.int_inv], ⟨b1, b2, b3, b4⟩, p _ _ z1 w1 x1 fun _ => rng_wk⟩
theorem enum_parts {m : M (List D)} {σ : L2.St} {H : Hp} {R : L2.It → Hp → Prop} (h : tMI c W v (M.bind m enumD) σ H R) : iEnumA c.K (tML c W v m) σ H R := by
  obtain ⟨z, w, vo, q⟩ := h
  refine ⟨z, w, vo, m.mono (fun ds p vs H1 z1 w1 x1 r => ?_) (fun _ p => p) q⟩
  match ds with
  | [] => exact p.elim
  | _ :: _ :: _ => exact p.elim
  | [d] =>
    obtain ⟨y, rfl, ry⟩ := r.one_inv
    cases d <;> first | exact p.elim | skip
    · obtain ⟨a, xs, rfl, s1, rl⟩ := ry.tup_inv
      refine ⟨a, xs, rfl, .inr ⟨w1.sqT s1, p _ _ z1 w1 x1 ?_⟩⟩
      exact wk_pair walk_enumT (by rw [rl.length]; simp) (fun z' H' w' l => w'.sqT (sqT_mono l.f s1)) (enum_at rl rl.length)
    · obtain ⟨a, xs, rfl, s1, rl⟩ := ry.lst_inv
      refine ⟨a, xs, rfl, .inl ⟨w1.sqL s1, p _ _ z1 w1 x1 ?_⟩⟩
      exact wk_pair walk_enum (by rw [rl.length]; simp) (fun z' H' w' l => w'.sqL (sqL_mono l.f s1)) (enum_at rl rl.length)
theorem zip_parts {m : M (List D)} {σ : L2.St} {H : Hp} {R : L2.It → Hp → Prop} (h : tMI c W v (M.bind m zipD) σ H R) : EvZip.iZipX c.K (tML c W v m) σ H R := by
  obtain ⟨z, w, vo, q⟩ := h
  refine ⟨z, w, vo, m.mono (fun ds p vs H1 z1 w1 x1 r => ?_) (fun _ p => p) q⟩
  have key : ∃ d e xs ys, ds = [d, e] ∧ (d = .tup xs ∨ d = .lst xs) ∧ (e = .tup ys ∨ e = .lst ys) ∧ zipD ds = ret (List.zipWith (fun a b => D.tup [a, b]) xs ys) := by
    match ds with
    | [] => exact p.elim
    | [d] => cases d <;> exact p.elim
    | d :: e :: _ :: _ => cases d <;> cases e <;> exact p.elim
    | [d, e] =>
      cases d <;> first | exact p.elim | skip
      all_goals (cases e <;> first | exact p.elim | skip)
      · exact ⟨_, _, _, _, rfl, .inl rfl, .inl rfl, rfl⟩
      · exact ⟨_, _, _, _, rfl, .inl rfl, .inr rfl, rfl⟩
      · exact ⟨_, _, _, _, rfl, .inr rfl, .inl rfl, rfl⟩
      · exact ⟨_, _, _, _, rfl, .inr rfl, .inr rfl, rfl⟩
  obtain ⟨d, e, xs, ys, rfl, hd, he, hz⟩ := key
  rw [hz] at p
  obtain ⟨y, y2, rfl, ry, ry2⟩ := r.two_inv
  obtain ⟨t, a, us, rfl, s1, rl⟩ := rep_seq ry hd
  obtain ⟨u, b, ws, rfl, s2, rl2⟩ := rep_seq ry2 he
  refine ⟨t, u, a, b, us, ws, rfl, sx_mono w1.f s1, sx_mono w1.f s2, p _ _ z1 w1 x1 ?_⟩
  exact wk_pair (n := min us.length ws.length) (walk_zipX rfl) (by rw [rl.length, rl2.length]; simp) (fun z' H' w' l => ⟨sx_mono w'.f (sx_mono l.f s1), sx_mono w'.f (sx_mono l.f s2)⟩) (zip_at rl rl2)
theorem lc_parts {t : Tg} {mi : M (List D)} {mc : Vw → M Bool} {me : Vw → M D} {σ : L2.St} {H : Hp} {Q : VK} (h : tF c W v (lcM t v mi mc me) σ H Q) :
    tLc (tMI c W v mi) (tgG c.K t) (fun σ H Q => ∃ v', tMB c W0 v' (mc v') σ H Q) (fun σ H Q => ∃ v', tM c W0 v' (me v') σ H Q) t.vars σ H Q := by
  obtain ⟨z, w, vo, q⟩ := h
  refine ⟨z, w, vo, mi.mono (fun ds p J H1 z1 w1 x1 wk Dn hD => ?_) (fun _ p => p) q⟩
  obtain ⟨hlen, p⟩ := p
  obtain ⟨G, Y, wl, hG, hY⟩ := wk
  have hDH : H Dn = none := by
    cases e : H Dn with
    | none => rfl
    | some u => exact absurd hD (x1.there Dn (by rw [e]; simp))
  -- what is left to do
  let P2 : List (Option D) → Prop := fun os => ∀ p vs H' z', Wf c z' H' → Ext z H z' H' → Ow z' H' p vs → H p = none → RepL c.K c.mg z' vs (os.filterMap id) → Q (.ref p) H'
  refine lc_it (D := Dn) (Qd := fun H => Q (.ref Dn) H) (tt := fun σ H Q => ∃ v', tMB c W0 v' (mc v') σ H Q) (te := fun σ H Q => ∃ v', tM c W0 v' (me v') σ H Q) wl (Pv := fun i H2 => ∃ z2 acc os, Wf c z2 H2 ∧ Ext z1 H1 z2 H2 ∧ Ow z2 H2 Dn acc ∧ acc.length ≤ i ∧ RepL c.K c.mg z2 acc (os.filterMap id) ∧ (M.mapM (lcStep t v mc me) (ds.drop i)).w (fun rs => P2 (os ++ rs)) (fun _ => False)) ?_ ?_ ?_ ?_
  · have e := alloc (o := .lst []) w1 hD (fun _ e => by cases e)
    refine ⟨z1, [], [], Wf.new w1 hD, (Ext.refl z1 H1).upd hD, Ow.new w1 hD, Nat.zero_le _, .nil, ?_⟩
    exact M.mono _ (fun rs p => p) (fun _ z => z) p
  · rintro i H2 hi ⟨z2, acc, os, w2, x2, _⟩
    exact hG z2 H2 w2 x2.le
  · rintro i x H2 H3 hi ⟨z2, acc, os, w2, x2, o2, hl, r2, q2⟩ y
    obtain ⟨z3, d, w3, x3, hd, rd⟩ := hY i z2 H2 x H3 hi w2 x2.le y
    have ed : ds.drop i = d :: ds.drop (i + 1) := by
      have hlt : i < ds.length := hi
      rw [List.drop_eq_getElem_cons hlt]
      rw [List.getElem?_eq_getElem hlt] at hd
      rw [Option.some.inj hd]
    rw [ed, M.mapM_cons] at q2
    obtain ⟨v', hv', q3⟩ := ofO_w (show (M.ofO (bindT t d (wipeV v t.vars))).w _ _ from q2)
    have vo3 : VOk c z3 (L2.wipe σ t.vars) (wipeV v t.vars) := ((vo.ext x1).ext (x2.trans x3)).wipe _
    refine bind_ok t d x z3 H3 _ _ v' _ w3 rd vo3 hv' fun σ' vo' bar => ⟨?_, ?_⟩
    · have e := bar.wipe
      rw [wipe_wipe] at e; exact e
    have o3 := o2.ext x3
    refine ⟨v', z3, w3, vo', M.mono _ (fun b p3 H4 z4 w4 x4 => ?_) (fun _ z => z.elim) q3⟩
    cases b with
    | false =>
      have p3 : (M.mapM (lcStep t v mc me) (ds.drop (i + 1))).w (fun rs => P2 (os ++ (none :: rs))) (fun _ => False) := p3
      rw [if_neg (by simp)]
      refine ⟨z4, acc, os ++ [none], w4, x2.trans (x3.trans x4), o3.ext x4, by omega, ?_, ?_⟩
      · rw [List.filterMap_append]; simpa using (r2.mono (x3.trans x4).le)
      · exact M.mono _ (fun rs p => by rw [List.append_assoc]; exact p) (fun _ z => z) p3
    | true =>
      have p3 : (me v').w (fun y => (M.mapM (lcStep t v mc me) (ds.drop (i + 1))).w (fun rs => P2 (os ++ (some y :: rs))) (fun _ => False)) (fun _ => False) := p3
      rw [if_pos rfl]
      refine ⟨v', z4, w4, vo'.ext x4, M.mono _ (fun y p5 yv H5 z5 w5 x5 r5 => ?_) (fun _ z => z.elim) p3⟩
      have o5 := (o3.ext x4).ext x5
      refine ⟨acc, o5.at_, by have : i < ds.length := hi; omega, z5, acc ++ [yv], os ++ [some y], w5.upd o5, ?_, o5.upd, by simp; omega, ?_, ?_⟩
      · exact (x2.trans (x3.trans (x4.trans x5))).upd hD
      · rw [List.filterMap_append]
        exact (r2.mono (x3.trans (x4.trans x5)).le).append (.cons r5 .nil)
      · exact M.mono _ (fun rs p => by rw [List.append_assoc]; exact p) (fun _ z => z) p5
  · rintro H2 ⟨z2, acc, os, w2, x2, o2, _, r2, q2⟩
    rw [List.drop_length] at q2
    have q2 : P2 (os ++ []) := q2
    rw [List.append_nil] at q2
    exact q2 Dn acc H2 z2 w2 (x1.trans x2) o2 hDH r2

/-- behind a first clause: what is left of a turn -/
theorem lc2_parts {t t2 : Tg} {mi : M (List D)} {mc : Vw → M Bool} {mi2 : Vw → M (List D)} {mc2 : Vw → M Bool} {me : Vw → M D} {σ : L2.St} {H : Hp} {Q : VK} (h : tF c W v (lc2M t t2 v mi mc mi2 mc2 me) σ H Q) :
    tLc2 (tMI c W v mi) (tgG c.K t) (fun σ H Q => ∃ v', tMB c W0 v' (mc v') σ H Q) (fun σ H Q => ∃ v', tMI c W0 v' (mi2 v') σ H Q) (tgG c.K t2) (fun σ H Q => ∃ v', tMB c W0 v' (mc2 v') σ H Q) (fun σ H Q => ∃ v', tM c W0 v' (me v') σ H Q) (t.vars ++ t2.vars) t2.vars σ H Q := by
  obtain ⟨z, w, vo, q⟩ := h
  refine ⟨z, w, vo, mi.mono (fun ds p J H1 z1 w1 x1 wk Dn hD => ?_) (fun _ p => p) q⟩
  obtain ⟨hlen, p⟩ := p
  obtain ⟨G, Y, wl, hG, hY⟩ := wk
  have hDH : H Dn = none := by
    cases e : H Dn with
    | none => rfl
    | some u => exact absurd hD (x1.there Dn (by rw [e]; simp))
  let P2 : List (List D) → Prop := fun xss => ∀ p vs H' z', Wf c z' H' → Ext z H z' H' → Ow z' H' p vs → H p = none → RepL c.K c.mg z' vs xss.flatten → Q (.ref p) H'
  let Pv : Nat → Hp → Prop := fun i H2 => ∃ z2 acc xss, Wf c z2 H2 ∧ Ext z1 H1 z2 H2 ∧ Ow z2 H2 Dn acc ∧ acc.length ≤ i * 4096 ∧ RepL c.K c.mg z2 acc xss.flatten ∧ (M.mapM (lc2Step t t2 v mc mi2 mc2 me) (ds.drop i)).w (fun rs => P2 (xss ++ rs)) (fun _ => False)
  suffices hh : ∀ i H2, i ≤ ds.length → Pv i H2 → (J.stop i H2 ∧ Q (.ref Dn) H2) ∨ (i < ds.length ∧ J.go i H2 ∧ ∀ x H', J.yld i H2 x H' → tgG c.K t x (L2.wipe σ (t.vars ++ t2.vars)) H' fun σ2 H2 => L2.wipe σ2 (t.vars ++ t2.vars) = L2.wipe σ (t.vars ++ t2.vars) ∧
      (∃ v', tMB c W0 v' (mc v') σ2 H2 fun b H3 => if b = true then (∃ v', tMI c W0 v' (mi2 v') σ2 H3 fun J1 H4 => ∃ W1 : Nat → Nat → Hp → Prop, (∃ m, W1 0 m H4) ∧ ∀ j k H, W1 j k H →
        (J1.stop j H ∧ Pv (i + 1) H) ∨ (J1.go j H ∧ ∃ Nx1 : Hp → Prop, (∀ H', Nx1 H' → ∃ k', k' < k ∧ W1 (j + 1) k' H') ∧ ∀ x H', J1.yld j H x H' → tgG c.K t2 x (L2.wipe σ2 t2.vars) H' fun σ3 H5 => L2.wipe σ3 t2.vars = L2.wipe σ2 t2.vars ∧ (∃ v', tMB c W0 v' (mc2 v') σ3 H5 fun b H6 =>
          if b = true then (∃ v', tM c W0 v' (me v') σ3 H6 fun y H7 => ∃ acc, H7 Dn = some (.lst acc) ∧ acc.length < sizeLine ∧ Nx1 (upd H7 Dn (.lst (acc ++ [y])))) else Nx1 H6)))
      else Pv (i + 1) H3)) by
    refine ⟨fun i m H2 => m = ds.length - i ∧ i ≤ ds.length ∧ Pv i H2, ⟨ds.length, by omega, Nat.zero_le _, z1, [], [], Wf.new w1 hD, (Ext.refl z1 H1).upd hD, Ow.new w1 hD, Nat.zero_le _, .nil, p⟩, ?_⟩
    rintro i m H2 ⟨rfl, hi, pv⟩
    rcases hh i H2 hi pv with ⟨h1, h2⟩ | ⟨hlt, h1, h2⟩
    · exact .inl ⟨h1, h2⟩
    · exact .inr ⟨h1, Pv (i + 1), fun H' p' => ⟨ds.length - (i + 1), by omega, rfl, by omega, p'⟩, fun x H' y => h2 x H' y⟩
  rintro i H2 hile ⟨z2, acc, xss, w2, x2, o2, hl, r2, q2⟩
  by_cases hlt : i < ds.length
  · refine .inr ⟨hlt, wl.goes i H2 hlt (hG z2 H2 w2 x2.le), fun x H3 yy => ?_⟩
    have y := wl.yields i H2 x H3 hlt (hG z2 H2 w2 x2.le) yy
    obtain ⟨z3, d, w3, x3, hd, rd⟩ := hY i z2 H2 x H3 hlt w2 x2.le y
    have ed : ds.drop i = d :: ds.drop (i + 1) := by
      rw [List.drop_eq_getElem_cons hlt]
      rw [List.getElem?_eq_getElem hlt] at hd
      rw [Option.some.inj hd]
    rw [ed, M.mapM_cons] at q2
    obtain ⟨v', hv', q3⟩ := ofO_w (show (M.ofO (bindT t d (wipeV v (t.vars ++ t2.vars)))).w _ _ from q2)
    have vo3 : VOk c z3 (L2.wipe σ (t.vars ++ t2.vars)) (wipeV v (t.vars ++ t2.vars)) := ((vo.ext x1).ext (x2.trans x3)).wipe _
    refine bind_ok t d x z3 H3 _ _ v' _ w3 rd vo3 hv' fun σ' vo' bar => ⟨?_, ?_⟩
    · have e := (bar.mono (js := t.vars ++ t2.vars) fun i hi => List.mem_append_left _ hi).wipe
      rw [wipe_wipe] at e; exact e
    have o3 := o2.ext x3
    refine ⟨v', z3, w3, vo', M.mono _ (fun b p3 H4 z4 w4 x4 => ?_) (fun _ z => z.elim) q3⟩
    cases b with
    | false =>
      have p3 : (M.mapM (lc2Step t t2 v mc mi2 mc2 me) (ds.drop (i + 1))).w (fun rs => P2 (xss ++ ([] :: rs))) (fun _ => False) := p3
      rw [if_neg (by simp)]
      refine ⟨z4, acc, xss ++ [[]], w4, x2.trans (x3.trans x4), o3.ext x4, by omega, ?_, ?_⟩
      · simpa using r2.mono (x3.trans x4).le
      · exact M.mono _ (fun rs p => by rw [List.append_assoc]; exact p) (fun _ z => z) p3
    | true =>
      have p3 : (M.bind (mi2 v') fun ds2 => M.must (ds2.length ≤ 4096) (M.bind (M.mapM (lcStep t2 v' mc2 me) ds2) fun os => ret (os.filterMap id))).w (fun l => (M.mapM (lc2Step t t2 v mc mi2 mc2 me) (ds.drop (i + 1))).w (fun rs => P2 (xss ++ (l :: rs))) (fun _ => False)) (fun _ => False) := p3
      rw [if_pos rfl]
      refine ⟨v', z4, w4, vo'.ext x4, M.mono _ (fun ds2 p4 J1 H5 z5 w5 x5 wk5 => ?_) (fun _ z => z.elim) p3⟩
      obtain ⟨hlen2, p4⟩ := p4
      obtain ⟨G5, Y5, wl5, hG5, hY5⟩ := wk5
      have o5 := (o3.ext x4).ext x5
      let P5 : List (Option D) → Prop := fun os => (M.mapM (lc2Step t t2 v mc mi2 mc2 me) (ds.drop (i + 1))).w (fun rs => P2 (xss ++ (os.filterMap id :: rs))) (fun _ => False)
      refine ⟨fun j k H6 => k = ds2.length - j ∧ j ≤ ds2.length ∧ ∃ z6 acc6 os, Wf c z6 H6 ∧ (z5.Le z6 ∧ Ext z1 H1 z6 H6) ∧ Ow z6 H6 Dn acc6 ∧ acc6.length ≤ i * 4096 + j ∧ RepL c.K c.mg z6 acc6 (xss.flatten ++ os.filterMap id) ∧ (M.mapM (lcStep t2 v' mc2 me) (ds2.drop j)).w (fun rs => P5 (os ++ rs)) (fun _ => False),
        ⟨ds2.length, by omega, Nat.zero_le _, z5, acc, [], w5, ⟨.refl _, x2.trans (x3.trans (x4.trans x5))⟩, o5, by omega, by simpa using r2.mono (x3.trans (x4.trans x5)).le, p4⟩, ?_⟩
      rintro j kk H6 ⟨rfl, hj, z6, acc6, os, w6, x6, o6, hl6, r6, q6⟩
      obtain ⟨l6, x6⟩ := x6
      by_cases hlt2 : j < ds2.length
      · refine .inr ⟨wl5.goes j H6 hlt2 (hG5 z6 H6 w6 l6), fun H7 => ∃ z7 acc7 os, Wf c z7 H7 ∧ (z5.Le z7 ∧ Ext z1 H1 z7 H7) ∧ Ow z7 H7 Dn acc7 ∧ acc7.length ≤ i * 4096 + (j + 1) ∧ RepL c.K c.mg z7 acc7 (xss.flatten ++ os.filterMap id) ∧ (M.mapM (lcStep t2 v' mc2 me) (ds2.drop (j + 1))).w (fun rs => P5 (os ++ rs)) (fun _ => False),
          fun H7 p7 => ⟨ds2.length - (j + 1), by omega, rfl, by omega, p7⟩, fun x7 H7 yy7 => ?_⟩
        have y7 := wl5.yields j H6 x7 H7 hlt2 (hG5 z6 H6 w6 l6) yy7
        obtain ⟨z7, d7, w7, x7', hd7, rd7⟩ := hY5 j z6 H6 x7 H7 hlt2 w6 l6 y7
        have ed7 : ds2.drop j = d7 :: ds2.drop (j + 1) := by
          rw [List.drop_eq_getElem_cons hlt2]
          rw [List.getElem?_eq_getElem hlt2] at hd7
          rw [Option.some.inj hd7]
        rw [ed7, M.mapM_cons] at q6
        obtain ⟨v7, hv7, q7⟩ := ofO_w (show (M.ofO (bindT t2 d7 (wipeV v' t2.vars))).w _ _ from q6)
        have vo7 : VOk c z7 (L2.wipe σ' t2.vars) (wipeV v' t2.vars) := (vo'.le ((x4.le.trans x5.le).trans (l6.trans x7'.le))).wipe _
        refine bind_ok t2 d7 x7 z7 H7 _ _ v7 _ w7 rd7 vo7 hv7 fun σ7 vo8 bar7 => ⟨?_, ?_⟩
        · have e := bar7.wipe
          rw [wipe_wipe] at e; exact e
        have o7 := o6.ext x7'
        refine ⟨v7, z7, w7, vo8, M.mono _ (fun b p8 H8 z8 w8 x8 => ?_) (fun _ z => z.elim) q7⟩
        cases b with
        | false =>
          have p8 : (M.mapM (lcStep t2 v' mc2 me) (ds2.drop (j + 1))).w (fun rs => P5 (os ++ (none :: rs))) (fun _ => False) := p8
          rw [if_neg (by simp)]
          refine ⟨z8, acc6, os ++ [none], w8, ⟨l6.trans (x7'.trans x8).le, x6.trans (x7'.trans x8)⟩, o7.ext x8, by omega, ?_, ?_⟩
          · rw [List.filterMap_append]; simpa using r6.mono (x7'.trans x8).le
          · exact M.mono _ (fun rs p => by rw [List.append_assoc]; exact p) (fun _ z => z) p8
        | true =>
          have p8 : (me v7).w (fun y => (M.mapM (lcStep t2 v' mc2 me) (ds2.drop (j + 1))).w (fun rs => P5 (os ++ (some y :: rs))) (fun _ => False)) (fun _ => False) := p8
          rw [if_pos rfl]
          refine ⟨v7, z8, w8, vo8.ext x8, M.mono _ (fun y p9 yv H9 z9 w9 x9 r9 => ?_) (fun _ z => z.elim) p8⟩
          have o9 := (o7.ext x8).ext x9
          have hsz : acc6.length < sizeLine := by
            show acc6.length < 2 ^ 24
            have : i < 4096 := by omega
            omega
          refine ⟨acc6, o9.at_, hsz, z9, acc6 ++ [yv], os ++ [some y], w9.upd o9, ?_, o9.upd, by simp; omega, ?_, ?_⟩
          · exact ⟨l6.trans (x7'.trans (x8.trans x9)).le, (x6.trans (x7'.trans (x8.trans x9))).upd hD⟩
          · rw [List.filterMap_append, ← List.append_assoc]
            exact (r6.mono (x7'.trans (x8.trans x9)).le).append (.cons r9 .nil)
          · exact M.mono _ (fun rs p => by rw [List.append_assoc]; exact p) (fun _ z => z) p9
      · have e : j = ds2.length := by omega
        subst e
        refine .inl ⟨wl5.stops H6 (hG5 z6 H6 w6 l6), ?_⟩
        rw [List.drop_length] at q6
        have q6 : P5 (os ++ []) := q6
        rw [List.append_nil] at q6
        refine ⟨z6, acc6, xss ++ [os.filterMap id], w6, x6, o6, by omega, by simpa using r6, ?_⟩
        exact M.mono _ (fun rs p => by rw [List.append_assoc]; exact p) (fun _ z => z) q6
  · have e : i = ds.length := by omega
    subst e
    refine .inl ⟨wl.stops H2 (hG z2 H2 w2 x2.le), ?_⟩
    rw [List.drop_length] at q2
    have q2 : P2 (xss ++ []) := q2
    rw [List.append_nil] at q2
    exact q2 Dn acc H2 z2 w2 (x1.trans x2) o2 hDH r2
end
end Ev
set_option Elab.async false
set_option linter.all false
set_option maxRecDepth 100000
set_option maxHeartbeats 4000000
/-! Ev, part U: lambdas: made, handed on, called. -/
namespace Ev
open PySem PySem.Spec PyProof.Rows L2
open LamX (CodeO Tabs TabB ExtN)

section
variable {X : Cx} {pins : List (Addr × Obj)} {σ : L2.St} {H : Hp} {s : Shared}
/-- what is known behind the making of a lambda -/
structure Made (X : Cx) (pins : List (Addr × Obj)) (σ : L2.St) (T : List (Addr × Str)) (H : Hp) (params : Arguments) (body : Expr) (scope : Scope) (f c' : Addr) (H1 : Hp) (s1 : Shared) : Prop where
  I : Inv X pins σ H1 s1
  x : ExtN H H1
  back : ∀ b, H1 b = none → H b = none
  tabs : Tabs T H1
  obj : ∃ pm ctv, s1.heap.get? f = some (PySem.W.kla_obj "<lambda>" (X.env.qual ++ "<lambda>") params body scope (cloFrom X.env.cells scope.names []) pm c' ctv)
  fn : H1 f = none
  fr : f ∉ frs X.stack
  code : H1 c' = some (CodeO c' (X.env.qual ++ "<lambda>"))
theorem upd_no {H : Hp} {a b : Addr} {o : HO} (e : L2.upd H a o b = none) : H b = none := by
  by_cases h : b = a
  · rw [h, upd_same] at e; cases e
  · rwa [upd_ne h] at e
theorem lam_mk {T : List (Addr × Str)} {c0 P0 : Addr} {params : Arguments} {body : Expr} {scope : Scope} {pos : Pos} {Er Q : Value → Shared → Prop} (I : Inv X pins σ H s) (tb : TabB X.base X.mg c0 P0) (hc0 : X.env.code = .ref c0)
    (hmem : (P0, X.env.qual ++ "<lambda>") ∈ T) (hone : ∀ p ∈ T, p.1 = P0 → p.2 = X.env.qual ++ "<lambda>") (hT : Tabs T H) (hdf : defaultsOf params X.env = ([], [])) (hcap : ∀ y ∈ scope.names, y.2 = .free → ∃ a, X.env.cells.lookup y.1 = some a)
    (k : ∀ f c' H1 s1, Made X pins σ T H params body scope f c' H1 s1 → Q (.ref f) s1) : wpAny (model X.prog X.w) X.A (eval (.Lambda params body scope pos) X.env) Q Er s := by
  obtain ⟨tab, hP, htr, hin⟩ := hT _ hmem
  have bats : s.heap.BuiltinsAt X.mg P0 := tb.bm.keeps I.bk
  have hPs : s.heap.get? P0 = some { cls := .none, data := .fields tab } := I.hok P0 _ hP
  have nofr : ∀ f, s.heap.objs.size ≤ f → f ∉ frs X.stack := fun f hf z => by
    rcases List.mem_cons.mp (I.stkSub _ z) with e | e
    · exact absurd I.lt (by rw [← e]; exact Nat.not_lt.mpr hf)
    · exact I.nofs hf e
  refine PySem.W.kla_eval hdf ?_
  cases hco : codeAmong pos tab.toList with
  | some cv =>
    obtain ⟨c', rfl, hcode⟩ := hin pos cv hco
    refine PySem.W.kla_makeFunctionHit (c := c0) (P := P0) (ps := tab) (mg := X.mg) (closure_ok hcap) I.ok.glob (I.mod.glob.keeps I.bk) hc0 (tb.code.keeps I.bk) hPs htr hco bats fun ctv h2 tk hx hsz => ?_
    exact k h2.objs.size c' H _ ⟨I.kept fun b o e => Heap.get?_push_of_some _ (hx b o e), ExtN.refl H, fun _ e => e, hT, ⟨_, ctv, Heap.get?_push_size _ rfl⟩, I.hok.fresh hsz, nofr _ hsz, hcode⟩
  | none =>
    refine PySem.W.kla_makeFunction (c := c0) (P := P0) (ps := tab) (mg := X.mg) (closure_ok hcap) I.ok.glob (I.mod.glob.keeps I.bk) hc0 (tb.code.keeps I.bk) hPs htr hco tb.gP bats fun c' ctv h2 tk hx hge hlt hrec htb => ?_
    obtain ⟨c2, oc, vs, t, e2, hoc, hd, hv⟩ := hrec
    cases e2
    have big : s.heap.objs.size ≤ h2.objs.size := by omega
    have nC : H c' = none := I.hok.fresh hge
    let lobj := PySem.W.kla_obj "<lambda>" (X.env.qual ++ "<lambda>") params body scope (cloFrom X.env.cells scope.names []) ((X.mg "__name__").getD .none) c' ctv
    let more : Array Value := #[rawInt pos.line, rawInt pos.col, .ref c']
    have J := LamX.inv_table (q := X.env.qual ++ "<lambda>") (t' := tk) (more := more) (h' := h2.push lobj) I hP (fun b o hb e => Heap.get?_push_of_some lobj (hx b o hb e)) (Heap.get?_push_of_some lobj htb) hge ⟨oc, vs, t, Heap.get?_push_of_some lobj hoc, hd, hv⟩
    have xn : ExtN H (upd (upd H P0 (.tbl (tab ++ more))) c' (CodeO c' (X.env.qual ++ "<lambda>"))) := fun b o e n => by
      rw [upd_ne (ne_of_none e nC), upd_ne (fun z => n tab (by rw [z, hP] at e; exact (Option.some.inj e).symm))]; exact e
    have el : (tab ++ more).toList = tab.toList ++ [rawInt pos.line, rawInt pos.col, .ref c'] := by simp [more]
    refine k h2.objs.size c' _ _ ⟨J, xn, fun b e => upd_no (upd_no e), fun p hp => ?_, ⟨_, ctv, Heap.get?_push_size _ rfl⟩, ?_, nofr _ big, upd_same⟩
    · by_cases hb : p.1 = P0
      · rw [hone p hp hb, hb]
        refine ⟨tab ++ more, by rw [upd_ne (ne_of_none hP nC), upd_same], by rw [el]; exact PySem.TriplesOk_snoc _ _ _ _ htr, fun p' cv hcv => ?_⟩
        rw [el] at hcv
        rcases LamX.among_app _ htr hcv with z | z
        · obtain ⟨c9, e1, e2⟩ := hin p' cv z
          exact ⟨c9, e1, xn _ _ e2 LamX.codeO_ne⟩
        · exact ⟨c', z, upd_same⟩
      · obtain ⟨tab', a1, a2, a3⟩ := hT p hp
        refine ⟨tab', by rw [upd_ne (ne_of_none a1 nC), upd_ne hb]; exact a1, a2, fun p' cv hcv => ?_⟩
        obtain ⟨c9, e1, e2⟩ := a3 p' cv hcv
        exact ⟨c9, e1, xn _ _ e2 LamX.codeO_ne⟩
    · have n1 : h2.objs.size ≠ c' := by omega
      have n2 : h2.objs.size ≠ P0 := fun z => Nat.lt_irrefl _ (Nat.lt_of_lt_of_le (z ▸ Heap.lt_size hPs) big)
      rw [upd_ne n1, upd_ne n2]
      exact I.hok.fresh big
end
section
variable {c : Cn} {g : Gx} {o : Ora} {k : Nat} {X : Cx} {W : WX}
/-- of the list of captured values -/
theorem caps_ok {z : Fz} {σ : L2.St} {v : Vw} (vo : VOk c z σ v) : ∀ {fv : List Nat} {env : List D}, caps v fv = some env → ∃ ws : List V, fv.map (NdefX.slotAt σ) = ws.map some ∧ RepL c.K c.mg z ws env
  | [], env, h => by cases h; exact ⟨[], rfl, .nil⟩
  | i :: fv, env, h => by
    have h : (match v[i]?, caps v fv with | some (some d), some ds => some (d :: ds) | _, _ => none) = some env := h
    split at h
    · rename_i d ds e1 e2
      cases h
      obtain ⟨x, hx, r⟩ := vo.2 i d e1
      obtain ⟨ws, h1, h2⟩ := caps_ok vo (fv := fv) e2
      exact ⟨x :: ws, by rw [List.map_cons, List.map_cons, NdefX.slotAt_of hx, h1], .cons r h2⟩
    · cases h
/-- the fixed part, grown by what b tells -/
theorem grown (h base : Heap) (le : BLe base h) (p : Addr → Bool) : ∃ G : Heap, BLe base G ∧ (∀ b, p b = true → G.get? b = h.get? b) ∧ (∀ b o, G.get? b = some o → h.get? b = some o ∧ (p b = true ∨ base.get? b = some o)) ∧ G.objs.size = h.objs.size := by
  obtain ⟨l, hl⟩ : ∃ l : List Addr, l = (List.range h.objs.size).filter fun b => !(p b || (base.get? b).isSome) := ⟨_, rfl⟩
  have m1 : ∀ b, b ∈ l ↔ b < h.objs.size ∧ p b = false ∧ base.get? b = none := fun b => by
    rw [hl, List.mem_filter, List.mem_range]
    cases p b <;> cases base.get? b <;> simp
  refine ⟨PySem.W.hideAll h l, fun b o e => ?_, fun b hp => ?_, fun b o e => ?_, PySem.W.hideAll_size _ _⟩
  · exact PySem.W.hideAll_get l (le b o e) fun hm => by rw [((m1 b).mp hm).2.2] at e; cases e
  · cases e : h.get? b with
    | some o => exact PySem.W.hideAll_get l e fun hm => by rw [((m1 b).mp hm).2.1] at hp; cases hp
    | none =>
      cases q : (PySem.W.hideAll h l).get? b with
      | none => rfl
      | some o => rw [PySem.W.of_hideAll l q] at e; cases e
  · have e1 := PySem.W.of_hideAll l e
    refine ⟨e1, ?_⟩
    cases hp : p b with
    | true => exact .inl rfl
    | false =>
      cases hb : base.get? b with
      | some o' => right; rw [le b o' hb] at e1; rw [← e1]
      | none => rw [PySem.W.hideAll_none l ((m1 b).mpr ⟨Heap.lt_size e1, hp, hb⟩)] at e; cases e
theorem Mod.le {K : PySem.W.Frag} {mg : Str → Option Value} {b b' : Heap} (m : Mod K mg b) (le : BLe b b') : Mod K mg b' := by
  obtain ⟨h1, h2, ⟨mb, h3, h4⟩, h5⟩ := m
  exact ⟨h1.keeps le, h2.keeps le, ⟨mb, h3.keeps le, h4⟩, h5.keeps le⟩
theorem IsCell.le {b b' : Heap} {a : Addr} {v : Option Value} (x : b.IsCell a v) (le : BLe b b') : b'.IsCell a v := by
  obtain ⟨o, h1, h2⟩ := x
  exact ⟨o, le _ _ h1, h2⟩
theorem ClB.le {q : Cl} {b b' : Heap} (x : ClB g q b) (le : BLe b b') : ClB g q b' := by
  obtain ⟨⟨pm, ctv, h1⟩, h2, h3, h4, h5, h6⟩ := x
  refine ⟨⟨pm, ctv, le _ _ h1⟩, fun y a e => ?_, h3, h4, fun i y e => ?_, h6⟩
  · obtain ⟨v, h⟩ := h2 y a e
    exact ⟨v, IsCell.le h le⟩
  · obtain ⟨a, e1, h⟩ := h5 i y e
    refine ⟨a, e1, fun v ev => ?_⟩
    obtain ⟨u, r, q⟩ := h v ev
    exact ⟨u, r, IsCell.le q le⟩
/-- a frame is no cell of the running def's -/
theorem cell_fr {pins : List (Addr × Obj)} {σ : L2.St} {H : Hp} {s : Shared} (I : Inv X pins σ H s) (hf : ∀ x, X.fn x = true) {L a : Addr} {y : Str} (hL : L ∈ frs X.stack) (ha : X.env.cells.lookup y = some a) : L ≠ a := by
  have h1 := I.ok.cab y a (hf y) ha
  have out : L ∈ X.fs → L ≠ a := fun hm e => by
    obtain ⟨_, o, ho, _⟩ := I.ok.funs.mem hm
    exact Nat.lt_irrefl _ (Nat.lt_of_lt_of_le (Heap.lt_size ho) (e ▸ h1))
  rcases I.ok.stk with e | ⟨e, hfr⟩
  · rw [e] at hL; exact out hL
  · rw [e] at hL
    have hL : L ∈ ((X.env :: X.outer).filterMap (·.frame)) := hL
    rw [List.filterMap_cons, hfr] at hL
    rcases List.mem_cons.mp hL with z | z
    · intro e2
      obtain ⟨m, ⟨o, es, ep, ho, hd, _⟩, _⟩ := I.loc
      obtain ⟨v, o', ho', hd'⟩ := I.cell y a ha
      rw [← e2, z, ho] at ho'
      cases ho'
      rw [hd] at hd'; cases hd'
    · exact out z
end
/-! ### arguments with a last one that is looked at by itself -/
structure PB (X : Cx) (es : List Expr) (t : TA) : Prop where
  run : ∀ (pos : Pos) (lam : Expr) (pins : List (Addr × Obj)) (s : Shared) (σ : L2.St) (H : Hp) (G : List V → Hp → Prop) (K : List Value → Shared → Prop), plainX lam = true → Inv X pins σ H s → t σ H G →
    (∀ us vs s1 H1, Inv X pins σ H1 s1 → Vals vs us → G vs H1 → wpAny (model X.prog X.w) X.A (eval lam X.env) (fun u s2 => K (us ++ [u]) s2) X.xe s1) → wpAny (model X.prog X.w) X.A (spliced (backTo pos (starEach (es ++ [lam]) X.env))) K X.xe s
section
variable {X : Cx} {e : Expr} {es : List Expr} {te : TE} {t t' : TA}
theorem PB.imp (h : PB X es t) (i : ∀ σ H Q, t' σ H Q → t σ H Q) : PB X es t' := ⟨fun pos lam pins s σ H G K hp I q => h.run pos lam pins s σ H G K hp I (i σ H G q)⟩
theorem pb_nil : PB X [] tNil := ⟨fun pos lam pins s σ H G K hp I q hl => by
  show wpAny _ _ (spliced (backTo pos (starEach [lam] X.env))) _ _ _
  rw [star_plain hp]
  exact Calls.spliced_cons (wpAny_mono (hl [] [] s H I .nil q) (fun u s2 hk => Calls.spliced_nil hk) fun _ _ h => h)⟩
theorem pb_cons (hx : plainX e = true) (ha : PE X e te) (hr : PB X es t) : PB X (e :: es) (tCons te t) := ⟨fun pos lam pins s σ H G K hp I q hl => by
  show wpAny _ _ (spliced (backTo pos (starEach (e :: (es ++ [lam])) X.env))) _ _ _
  rw [star_plain hx]
  refine Calls.spliced_cons (thn (ha.run pins s σ H _ I q) fun u s1 ⟨x, H1, I1, r1, q1⟩ => ?_)
  exact hr.run pos lam pins s1 σ H1 (fun xs H2 => G (x :: xs) H2) (fun us s2 => K (u :: us) s2) hp I1 q1 fun us vs s2 H2 I2 r2 q2 => hl (u :: us) (x :: vs) s2 H2 I2 (.cons r1 r2) q2⟩
end
/-! ### calls -/
section
variable {c : Cn} {g : Gx} {o : Ora} {k : Nat} {X : Cx} {W : WX}
/-- a call's end, in a frame -/
theorem call_end {pins : List (Addr × Obj)} {σ : L2.St} {H : Hp} {s : Shared} {Q : VK} {f : Value} {us : List Value} (tk : Takes X W) (I : Inv X pins σ H s)
    (h : codeAny (model X.prog X.w) X.A (.call f ⟨us, []⟩) (CR (L2.CX X.prog X.w) X.stack X.prog X.w H s Q (WE W σ)) s) : wpAny (model X.prog X.w) X.A (call f us) (EP X pins σ Q) X.xe s := by
  refine wpAny_call (codeAny_mono h fun r s' hq => ?_)
  cases r with
  | error e => exact passAt tk σ pins H s e s' I hq
  | ok fl =>
    cases fl with
    | ret u => exact I.after hq
    | next => exact False.elim hq
    | brk => exact False.elim hq
    | cont => exact False.elim hq
theorem pe_callv (S : Sx c g o k X) (tk : Takes X W) {i : Nat} {x : Str} {p pos : Pos} {e : Expr} {es : List Expr} {ml : M (List D)} {v : Vw} (hN : X.N[i]? = some x) (hv : Vis X.env.scope x) (o1 : (x == ("__debug__" : Str)) = false) (o2 : (x == ("__classdict__" : Str)) = false)
    (ha : PA X (e :: es) (tML c W v ml)) (he : starEach (e :: es) X.env = (false, eval e X.env) :: starEach es X.env) (hpl : (backTo pos (starEach es X.env)).any (·.1) = false) :
    PE X (.Call (.Name x p) (e :: es) [] pos) (tM c W v (M.bind (look v i) (callvM o ml))) := by
  refine ⟨fun pins s σ H Q I q => ?_⟩
  obtain ⟨z, w, vo, q⟩ := q
  obtain ⟨d, ed, q⟩ := look_w q
  obtain ⟨y, hy, r⟩ := vo.2 i d ed
  refine wpAny_Call_Name_kw (thn ((pe_var (pos := p) (i := i) hN hv o1 o2).run pins s σ H (fun v1 H1 => v1 = y ∧ H1 = H) I ⟨y, hy, rfl, rfl⟩) fun u s1 ⟨v1, H1, I1, r1, q1⟩ => ?_)
  obtain ⟨rfl, rfl⟩ := q1
  cases d <;> first | exact q.elim | skip
  · rename_i f
    cases r with
    | fn hf =>
    obtain rfl : u = Value.ref _ := r1
    have q : (if (o.pars f).isSome = true then M.bind ml fun xs => o.call f xs else stuck : M D).w (Po c z H1 Q) (Px c z H1 fun cls dd H' => W cls dd σ H') := q
    by_cases hp : (o.pars f).isSome = true
    · rw [if_pos hp] at q
      obtain ⟨a, fd, ps, m1, m2, m3, m4, m5, m6, _⟩ := S.ora.defs _ (S.ora.par f hp)
      rw [hf] at m1
      cases m1
      rw [← S.hK, ← S.hmg] at m6
      rw [← S.hK] at m2 m3
      refine PySem.W.callWith_K (h₀ := X.base) I.ok.mod.kin m2 (thn (ha.run pos pins s1 σ H1 _ I1 (call_parts (W := W) (v := v) (σ := σ) (H := H1) (Q := Q) m5 ⟨z, w, vo, q⟩)) fun us s2 ⟨vs, H2, I2, r2, q2⟩ => ⟨I2.kIn, ?_⟩) he hpl
      exact run_fnS m6 S.room m3 (passAt tk σ) I2 r2 q2
    · rw [if_neg hp] at q; exact q.elim
  · rename_i n mm b env
    cases r with
    | clo hz =>
    obtain rfl : u = Value.ref _ := r1
    obtain ⟨qq, hq, rfl, rfl, rfl, rfl, rfl⟩ := w.cl.to _ _ _ _ _ hz
    obtain ⟨pm, ctv, hobj⟩ := (S.cls qq hq).obj
    have hm : ∀ ds, ds.length ≠ qq.ps.length → o.clo qq.ps.length qq.ex.length qq.e qq.env ds = stuck := S.ora.cln _ _ _ _
    refine PySem.W.callWith_F (first := []) ⟨_, _, _, _, I1.bk _ _ hobj⟩ (thn (ha.run pos pins s1 σ H1 _ I1 (call_parts (W := W) (v := v) (σ := σ) (H := H1) (Q := Q) hm ⟨z, w, vo, q⟩)) fun us s2 ⟨vs, H2, I2, r2, q2⟩ => ⟨⟨_, _, _, _, I2.bk _ _ hobj⟩, ?_⟩) he hpl
    refine call_end tk I2 (S.ora.lams qq hq X.A X.stack s2 H2 us vs Q (WE W σ) S.room ?_ r2 q2)
    have e0 := I2.env0
    rw [S.hK, S.hmg] at e0
    exact e0
theorem pe_callv0 (S : Sx c g o k X) (tk : Takes X W) {i : Nat} {x : Str} {p pos : Pos} {v : Vw} (hN : X.N[i]? = some x) (hv : Vis X.env.scope x) (o1 : (x == ("__debug__" : Str)) = false) (o2 : (x == ("__classdict__" : Str)) = false) :
    PE X (.Call (.Name x p) [] [] pos) (tM c W v (M.bind (look v i) (callvM o (ret [])))) := by
  refine ⟨fun pins s σ H Q I q => ?_⟩
  obtain ⟨z, w, vo, q⟩ := q
  obtain ⟨d, ed, q⟩ := look_w q
  obtain ⟨y, hy, r⟩ := vo.2 i d ed
  refine wpAny_Call_Name_kw (thn ((pe_var (pos := p) (i := i) hN hv o1 o2).run pins s σ H (fun v1 H1 => v1 = y ∧ H1 = H) I ⟨y, hy, rfl, rfl⟩) fun u s1 ⟨v1, H1, I1, r1, q1⟩ => ?_)
  obtain ⟨rfl, rfl⟩ := q1
  cases d <;> first | exact q.elim | skip
  · rename_i f
    cases r with
    | fn hf =>
    obtain rfl : u = Value.ref _ := r1
    have q : (if (o.pars f).isSome = true then M.bind (ret []) fun xs => o.call f xs else stuck : M D).w (Po c z H1 Q) (Px c z H1 fun cls dd H' => W cls dd σ H') := q
    by_cases hp : (o.pars f).isSome = true
    · rw [if_pos hp] at q
      obtain ⟨a, fd, ps, m1, m2, m3, m4, m5, m6, _⟩ := S.ora.defs _ (S.ora.par f hp)
      rw [hf] at m1
      cases m1
      rw [← S.hK, ← S.hmg] at m6
      rw [← S.hK] at m2 m3
      refine PySem.W.callWith_K0 (first := []) I1.kIn m2 ?_
      refine run_fnS m6 S.room m3 (passAt tk σ) I1 .nil ⟨?_, z, [], w, .nil, q⟩
      by_cases hl : ([] : List D).length = ps.length
      · exact hl
      · have q : (o.call f []).w (Po c z H1 Q) (Px c z H1 fun cls dd H' => W cls dd σ H') := q
        rw [m5 _ hl] at q; exact q.elim
    · rw [if_neg hp] at q; exact q.elim
  · rename_i n mm b env
    cases r with
    | clo hz =>
    obtain rfl : u = Value.ref _ := r1
    obtain ⟨qq, hq, rfl, rfl, rfl, rfl, rfl⟩ := w.cl.to _ _ _ _ _ hz
    obtain ⟨pm, ctv, hobj⟩ := (S.cls qq hq).obj
    refine PySem.W.callWith_F0 (first := []) ⟨_, _, _, _, I1.bk _ _ hobj⟩ ?_
    have e0 := I1.env0
    rw [S.hK, S.hmg] at e0
    refine call_end tk I1 (S.ora.lams qq hq X.A X.stack s1 H1 [] [] Q (WE W σ) S.room e0 .nil ⟨?_, z, [], w, .nil, q⟩)
    by_cases hl : ([] : List D).length = qq.ps.length
    · exact hl
    · have q : (o.clo qq.ps.length qq.ex.length qq.e qq.env []).w (Po c z H1 Q) (Px c z H1 fun cls dd H' => W cls dd σ H') := q
      rw [S.ora.cln _ _ _ _ _ hl] at q; exact q.elim
/-- behind the making -/
theorem Made.wf {pins : List (Addr × Obj)} {σ : L2.St} {H H1 : Hp} {s1 : Shared} {params : Arguments} {body : Expr} {scope : Scope} {f c' : Addr} {z : Fz} (m : Made X pins σ c.T H params body scope f c' H1 s1) (w : Wf c z H) : Wf c z H1 ∧ Ext z H z H1 := by
  refine ⟨⟨fun b o e => m.x b o (w.f b o e) fun ps q => w.tb b ps (by rw [e, q]), fun a ha => ?_, w.tb, m.tabs, w.cl.ext (.refl z) rfl fun b q e => m.x b _ e LamX.codeO_ne⟩, ⟨fun b o e _ t => m.x b o e t, fun b e q => e (m.back b q), .refl z, fun b o e q => q, fun b q => .inl q, rfl, rfl⟩⟩
  obtain ⟨⟨i, j, k, e⟩, h2⟩ := w.hs a ha
  exact ⟨⟨i, j, k, m.x _ _ e fun ps q => by cases q⟩, h2⟩
/-- the lambda's cells, where it is made -/
theorem Made.cells {pins : List (Addr × Obj)} {σ : L2.St} {H H1 : Hp} {s1 : Shared} {params : Arguments} {body : Expr} {scope : Scope} {f c' : Addr} {T : List (Addr × Str)} {fv : List Nat} {ex : List Str} {n : Nat} (m : Made X pins σ T H params body scope f c' H1 s1) (hN : X.N = g.N)
    (hp : lamP g.N X.env.scope n fv ex params scope = true) : NdefX.CellsAt (cloFrom X.env.cells scope.names []) (namesOf g.N fv) (fv.map (NdefX.slotAt σ)) s1.heap H1 := by
  obtain ⟨h1, ha⟩ := ba3 hp
  obtain ⟨h2, hb⟩ := ba3 ha
  obtain ⟨h3, hc⟩ := ba3 hb
  obtain ⟨h4, h5⟩ := ba3 hc
  have e : fv.map (fun j => X.N[j]?) = (namesOf g.N fv).map some := by
    unfold namesOf
    rw [List.map_map]
    refine List.map_congr_left fun i hi => ?_
    have hl := of_decide_eq_true (List.all_eq_true.mp h5 i hi)
    rw [hN, Function.comp, List.getElem?_eq_getElem hl]; rfl
  exact NdefX.cells_of m.I (NdefX.Caps.made m.I.ok (NdefX.ndef_free h4) (NdefX.ndef_fr h4) e)
theorem pe_calll (S : Sx c g o k X) (tk : Takes X W) {f : Str} {xs : List Expr} {ml : M (List D)} {v : Vw} {params : Arguments} {body : Expr} {scope : Scope} {lpos p pos : Pos} {n : Nat} {b : Ev.E} {fv : List Nat} {ex : List Str} (hgl : gloB X.env.scope f = true) (hok : okName f = true) (hdef : g.defs.contains f = true)
    (pb : PB X xs (tML c W v ml)) (hxs : ∀ x ∈ xs, plainX x = true) (ht : g.top = true) (hl : g.lam = true) (hp : lamP g.N X.env.scope n fv ex params scope = true) (hc : chkE (g.lamG (parsOf params) fv ex) scope b body = true) :
    PE X (.Call (.Name f p) (xs ++ [.Lambda params body scope lpos]) [] pos) (tM c W v (M.bind ml fun ds => M.bind (M.ofO (caps v fv)) fun env => M.must (D.nosL env = true) (M.noc (o.call f (ds ++ [.clo n ex.length b env]))))) := by
  obtain ⟨a, fd, ps, m1, m2, m3, m4, m5, _, _⟩ := S.ora.defs _ hdef
  obtain ⟨o1, _, _⟩ := okName_ok hok
  obtain ⟨c0, P0, t1, t2, t3, t4⟩ := S.lam hl
  obtain ⟨l1, la⟩ := ba3 hp
  obtain ⟨l2, lb⟩ := ba3 la
  obtain ⟨l3, lc⟩ := ba3 lb
  obtain ⟨l4, l5⟩ := ba3 lc
  have hdf : defaultsOf params X.env = ([], []) := by
    obtain ⟨_, _, _, _, kd, _, df⟩ := params
    unfold parsB at l1
    simp only [Bool.and_eq_true, List.isEmpty_iff] at l1
    obtain ⟨_, _, _, rfl, _, rfl, _⟩ := l1
    rfl
  have hstar : ∀ (l : List Expr) (env : Env), (∀ x ∈ l, plainX x = true) → (backTo pos (starEach l env)).any (·.1) = false := by
    intro l env
    induction l with
    | nil => intro _; rfl
    | cons x l ih =>
      intro h
      rw [star_plain (h x List.mem_cons_self)]
      show (false || (backTo pos (starEach l env)).any (·.1)) = false
      rw [ih fun y hy => h y (List.mem_cons_of_mem _ hy)]; rfl
  have hall : ∀ x ∈ xs ++ [Expr.Lambda params body scope lpos], plainX x = true := fun x hx => by
    rcases List.mem_append.mp hx with h | h
    · exact hxs x h
    · rw [List.mem_singleton.mp h]; rfl
  obtain ⟨e1, l, hcons⟩ : ∃ e1 l, xs ++ [Expr.Lambda params body scope lpos] = e1 :: l := by
    cases xs with
    | nil => exact ⟨_, _, rfl⟩
    | cons x l => exact ⟨_, _, rfl⟩
  refine ⟨fun pins s σ H Q I q => ?_⟩
  obtain ⟨z, w, vo, q⟩ := q
  refine wpAny_Call_Name_kw (ld_glob I (gloB_ok hgl) (by rw [S.hmg]; exact m1) ?_ o1)
  have key : wpAny (model X.prog X.w) X.A (spliced (backTo pos (starEach (xs ++ [Expr.Lambda params body scope lpos]) X.env))) (fun us s1 => X.K.In s1.heap ∧ wpAny (model X.prog X.w) X.A (call (.ref a) ([] ++ us)) (EP X pins σ Q) X.xe s1) X.xe s := by
    refine pb.run pos _ pins s σ H (fun vs H1 => ∃ z1 ds, Wf c z1 H1 ∧ VOk c z1 σ v ∧ RepL c.K c.mg z1 vs ds ∧ (M.bind (M.ofO (caps v fv)) fun env => M.must (D.nosL env = true) (M.noc (o.call f (ds ++ [.clo n ex.length b env])))).w (Po c z1 H1 Q) (Px c z1 H1 fun cls dd H' => W cls dd σ H')) _ rfl I
      ⟨z, w, vo, ml.mono (fun ds p vs H1 z1 w1 x1 r1 => ⟨z1, ds, w1, vo.ext x1, r1, M.mono _ (fun _ p => Po.ext x1 p) (fun _ p => Px.ext x1 p) p⟩) (fun _ p => p) q⟩ fun us vs s1 H1 I1 r q => ?_
    obtain ⟨z1, ds, w1, vo1, rl, q⟩ := q
    obtain ⟨env, hcap, hno, q⟩ := w_ofO q
    obtain ⟨ws, hws, hwr⟩ := caps_ok vo1 hcap
    refine lam_mk I1 t2 t1 t3 t4 w1.ts hdf (fun y hy e => (NdefX.ndef_free l4 y hy e).elim (fun q => I1.ok.has _ (.inl q)) fun q => I1.ok.has _ (.inr q)) fun fa c' H2 s2 md => ?_
    obtain ⟨w2, x2⟩ := md.wf w1
    have ca := md.cells S.hN hp
    refine ⟨md.I.kIn, ?_⟩
    obtain ⟨pm, ctv, hobj⟩ := md.obj
    let cl := cloFrom X.env.cells scope.names []
    obtain ⟨B, bl, bp, bq, bs⟩ := grown s2.heap X.base md.I.bk fun d => d == fa || cl.any fun y => y.2 == d
    have inB : ∀ y d, cl.lookup y = some d → B.get? d = s2.heap.get? d := fun y d e => bp d (by
      have : (cl.any fun y => y.2 == d) = true := List.any_eq_true.mpr ⟨(y, d), PySem.mem_of_lookup e, by simp⟩
      simp [this])
    have inF : B.get? fa = s2.heap.get? fa := bp fa (by simp)
    have hcx : ∀ y d, (y, d) ∈ cl → X.env.cells.lookup y = some d := fun y d e => by
      rcases cloFrom_mem e with h | ⟨h1, h2⟩
      · cases h
      · obtain ⟨d1, hd1⟩ := (NdefX.ndef_free l4 _ h1 rfl).elim (fun q => md.I.ok.has _ (.inl q)) fun q => md.I.ok.has _ (.inr q)
        have hd1 : X.env.cells.lookup y = some d1 := hd1
        rw [h2, hd1]; rfl
    let qq : Cl := ⟨fa, parsOf params, namesOf g.N fv, ex, params, body, scope, cl, c', X.env.qual ++ "<lambda>", ws, b, env⟩
    have cB : ClB g qq B := by
      refine ⟨⟨pm, ctv, by rw [show B.get? qq.a = s2.heap.get? fa from inF]; exact hobj⟩, fun y d e => ?_, ca.inj, ?_, fun i y e => ?_, rfl, l1, NdefX.nscope_by l3, hc⟩
      · obtain ⟨_, v, o', h1, h2⟩ := ca.all y d e
        exact ⟨v, o', by rw [inB y d e]; exact h1, h2⟩
      · have := congrArg List.length hws
        rw [List.length_map, List.length_map] at this
        show ws.length = (namesOf g.N fv).length
        rw [← this]; unfold namesOf; rw [List.length_map]
      · obtain ⟨d, hd, hv⟩ := ca.has i y e
        refine ⟨d, hd, fun v0 ev => ?_⟩
        obtain ⟨u, ru, o', h1, h2⟩ := hv v0 (by rw [hws, List.getElem?_map, show ws[i]? = some v0 from ev]; rfl)
        exact ⟨u, ru, o', by rw [inB y d hd]; exact h1, h2⟩
    have cls : ClsB g (qq :: c.cl) B := fun q' hq' => by
      rcases List.mem_cons.mp hq' with rfl | h
      · exact cB
      · exact (S.cls q' h).le bl
    have or2 := S.oraA (qq :: c.cl) B (fun d o' e => bl d o' (S.le d o' e)) cls
    obtain ⟨a', fd', ps', n1, n2, n3, n4, n5, n6, _⟩ := or2.defs _ hdef
    have ea : a' = a := by
      have n1 : c.mg f = some (.ref a') := n1
      rw [m1] at n1; cases n1; rfl
    subst ea
    have e0 := md.I.env0
    have e1 : Env0 X.prog X.w (c.wc (qq :: c.cl)).K (c.wc (qq :: c.cl)).mg B X.A X.stack s2 H2 := by
      obtain ⟨f1, f2, f3, f4, f5, f6, f7, f8⟩ := e0
      have f2 : Mod c.K c.mg X.base := by rw [S.hK, S.hmg] at f2; exact f2
      refine ⟨f1, Mod.le f2 bl, fun d o' e => ?_, by rw [bs]; exact Nat.le_refl _, funFrames_none f5 fun L hL => ?_, f6, f7, f8⟩
      · obtain ⟨h1, h2⟩ := bq d o' e
        refine ⟨h1, ?_⟩
        rcases h2 with h2 | h2
        · rcases Bool.or_eq_true_iff.mp h2 with h3 | h3
          · rw [beq_iff_eq.mp h3]; exact md.fn
          · obtain ⟨⟨y, d'⟩, h4, h5⟩ := List.any_eq_true.mp h3
            have h5 : d' = d := beq_iff_eq.mp h5
            subst h5
            exact md.I.freeC y d' (hcx y d' h4)
        · exact (f3 d o' h2).2
      · cases e : B.get? L with
        | none => rfl
        | some o' =>
          exfalso
          rcases (bq L o' e).2 with h2 | h2
          · rcases Bool.or_eq_true_iff.mp h2 with h3 | h3
            · exact md.fr (beq_iff_eq.mp h3 ▸ hL)
            · obtain ⟨⟨y, d'⟩, h4, h5⟩ := List.any_eq_true.mp h3
              have h5 : d' = L := beq_iff_eq.mp h5
              exact cell_fr md.I (S.top ht) hL (hcx y d' h4) h5.symm
          · rw [(f5.mem hL).1] at h2; cases h2
    let z3 : Fz := { z1 with cl := fun a' n' m' b' env' => z1.cl a' n' m' b' env' ∨ (a' = fa ∧ n' = n ∧ m' = ex.length ∧ b' = b ∧ env' = env) }
    have l13 : z1.Le z3 := ⟨fun _ _ h => h, fun _ h => h, fun _ _ _ _ _ h => .inl h, fun _ h => h⟩
    have hn : (parsOf params).length = n := by
      have := beq_iff_eq.mp l2
      rw [this]; unfold parsOf; rw [List.length_map]
    have w3 : Wf (c.wc (qq :: c.cl)) z3 H2 := by
      refine ⟨w2.f, w2.hs, w2.tb, w2.ts, ⟨fun a' n' m' b' env' h => ?_, fun q' hq' => ?_, fun q' hq' => ?_, fun q' hq' => ?_⟩⟩
      · rcases h with h | ⟨rfl, rfl, rfl, rfl, rfl⟩
        · obtain ⟨q', h1, h2⟩ := w2.cl.to _ _ _ _ _ h
          exact ⟨q', List.mem_cons_of_mem _ h1, h2⟩
        · exact ⟨qq, List.mem_cons_self, rfl, hn, rfl, rfl, rfl⟩
      · rcases List.mem_cons.mp hq' with rfl | h
        · exact md.code
        · exact w2.cl.co q' h
      · rcases List.mem_cons.mp hq' with rfl | h
        · exact hwr.mono l13
        · exact (w2.cl.rp q' h).mono l13
      · rcases List.mem_cons.mp hq' with rfl | h
        · exact hno
        · exact w2.cl.no q' h
    have rl3 : RepL c.K c.mg z3 (vs ++ [.ref fa]) (ds ++ [.clo n ex.length b env]) := (rl.mono l13).append (.cons (.clo (.inr ⟨rfl, rfl, rfl, rfl, rfl⟩)) .nil)
    have down : ∀ {z' : Fz} {H' : Hp}, Wf (c.wc (qq :: c.cl)) z' H' → Ext z3 H2 z' H' → Wf c { z' with cl := z1.cl } H' ∧ Ext z1 H1 { z' with cl := z1.cl } H' := fun {z' H'} w' x' => by
      have lz : z1.Le { z' with cl := z1.cl } := ⟨fun b o h => x'.le.f b o h, fun b h => x'.le.h b h, fun _ _ _ _ _ h => h, fun b h => x'.le.s b h⟩
      refine ⟨⟨w'.f, w'.hs, w'.tb, w'.ts, ⟨w2.cl.to, fun q' hq' => w'.cl.co q' (List.mem_cons_of_mem _ hq'), fun q' hq' => (w2.cl.rp q' hq').mono lz, w2.cl.no⟩⟩, x2.trans ⟨x'.keep, x'.there, lz, x'.fn, x'.hn, rfl, x'.se⟩⟩
    have sp : spM (c.wc (qq :: c.cl)) ps'.length (o.call f) (vs ++ [.ref fa]) H2 Q (WE W σ) := by
      have q : (o.call f (ds ++ [.clo n ex.length b env])).w (fun d => d.noc = true ∧ Po c z1 H1 Q d) (fun x => x.noc = true ∧ Px c z1 H1 (fun cls dd H' => W cls dd σ H') x) := q
      refine ⟨?_, z3, _, w3, rl3, (o.call f (ds ++ [.clo n ex.length b env])).mono (fun d p x H' z' w' x' r' => ?_) (fun x p cls dd H' z' w' x' r' => ?_) q⟩
      · rw [rl3.length]
        by_cases hl : (ds ++ [D.clo n ex.length b env]).length = ps'.length
        · exact hl
        · rw [n5 _ hl] at q; exact q.elim
      · obtain ⟨w9, x9⟩ := down w' x'
        exact p.2 x H' _ w9 x9 (Rep.nocTo (z := z') (z' := { z' with cl := z1.cl }) (fun _ _ h => h) (fun _ h => h) d x p.1 r')
      · obtain ⟨w9, x9⟩ := down w' x'
        refine p.2 cls dd H' _ w9 x9 ⟨r'.1, ?_⟩
        have r2 := r'.2
        have p1 := p.1
        unfold Xn.noc at p1
        cases hv : x.val with
        | none => trivial
        | some fd =>
          rw [hv] at r2 p1
          obtain ⟨a9, v9, e9, e8, e7⟩ := r2
          exact ⟨a9, v9, e9, e8, Rep.nocTo (z := z') (z' := { z' with cl := z1.cl }) (fun _ _ h => h) (fun _ h => h) _ _ p1 e7⟩
    refine call_end tk md.I ?_
    have hlen : (us ++ [Value.ref fa]).length = ps'.length := by
      have := sp.1
      rw [← this, List.length_append, List.length_append, r.length]; rfl
    have bnd := n3 s2 (us ++ [Value.ref fa]) (e1.mod.kin.keeps fun b o e => (e1.bs b o e).1) (by rw [List.append_nil]; exact hlen)
    rw [List.append_nil] at bnd
    exact n6.run X.A X.stack s2 H2 _ _ (vs ++ [.ref fa]) Q (WE W σ) S.room e1 bnd (r.append (.cons (show RelV (.ref fa) (.ref fa) from rfl) .nil)) sp
  rw [hcons] at key hall ⊢
  exact PySem.W.callWith_K (h₀ := X.base) I.ok.mod.kin (by rw [S.hK]; exact m2) key (star_plain (hall e1 List.mem_cons_self)) (hstar l X.env fun x hx => hall x (List.mem_cons_of_mem _ hx))
/-! ### objects -/
theorem fld_look {K : PySem.W.Frag} {mg : Str → Option Value} {z : Fz} {x : Str} {d : D} : ∀ {fvs : List (Str × V)} {fs : List (Str × D)}, fvs.map (·.1) = fs.map (·.1) → RepL K mg z (fvs.map (·.2)) (fs.map (·.2)) → fs.lookup x = some d → ∃ v, fvs.lookup x = some v ∧ Rep K mg z v d
  | [], [], _, _, h => by cases h
  | [], _ :: _, e, _, _ => by cases e
  | _ :: _, [], e, _, _ => by cases e
  | (y, v) :: fvs, (y', d') :: fs, e, r, h => by
    obtain ⟨e1, e2⟩ := List.cons.inj e
    have e1 : y = y' := e1
    subst e1
    cases r with
    | cons r1 r2 =>
    rw [List.lookup_cons] at h ⊢
    cases q : (x == y) with
    | true => rw [q] at h; cases h; exact ⟨v, rfl, r1⟩
    | false => rw [q] at h; exact fld_look e2 r2 h
theorem pe_fldE (S : Sx c g o k X) {cn x : Str} {e : Expr} {p : Pos} {ma : M D} {v : Vw} (he : PE X e (tM c W v ma)) (hf : g.flds.contains (cn, x) = true) (hab : attributeBase e x X.env (eval e X.env) = eval e X.env) :
    PE X (.Attribute e x p) (tM c W v (M.bind ma (fldD cn x))) := by
  obtain ⟨C, m1, m2, m3⟩ := S.ora.flds _ _ hf
  rw [← S.hK] at m2 m3
  refine PE.imp (pe_fld he hab) fun σ H Q q => one_part q fun xv H1 ⟨z1, d, R, w, r, q⟩ => ?_
  cases d <;> first | exact q.elim | skip
  rename_i c' fs
  have q : (if c' = cn then M.ofO (fs.lookup x) else stuck : M D).w (Po c z1 H1 Q) R := q
  by_cases hc : c' = cn
  · subst hc
    rw [if_pos rfl] at q
    obtain ⟨d, hd, q⟩ := w_ofO q
    cases r with
    | obj e1 e2 e3 e4 r =>
      rw [m1] at e1
      cases e1
      obtain ⟨v, hv, rv⟩ := fld_look e4 r hd
      exact ⟨_, _, _, _, v, rfl, w.f _ _ e2, m2, m3, hv, Po.here w q rv⟩
  · rw [if_neg hc] at q; exact q.elim
theorem pe_propE (S : Sx c g o k X) {cn x : Str} {e : Expr} {p : Pos} {ma : M D} {v : Vw} (he : PE X e (tM c W v ma)) (hf : g.props.contains (cn, x) = true) (hab : attributeBase e x X.env (eval e X.env) = eval e X.env) :
    PE X (.Attribute e x p) (tM c W v (M.bind ma (propD o cn x))) := by
  obtain ⟨C, pp, gt, fd, sps, m1, m2, m3, m4, m5⟩ := S.ora.props _ _ hf
  rw [← S.hK] at m2 m3 m4
  have dead : (∀ d, o.prop cn x d = stuck) → ∀ (z1 : Fz) (d : D) (Q : D → Prop) (R : Xn → Prop), ¬ (propD o cn x d).w Q R := fun hs z1 d Q R q => by
    cases d <;> first | exact q.elim | skip
    rename_i c' fs
    have q : (if c' = cn then M.nox (o.prop cn x (.obj c' fs)) else stuck : M D).w Q R := q
    by_cases hc : c' = cn
    · rw [if_pos hc, hs] at q; exact q.elim
    · rw [if_neg hc] at q; exact q.elim
  rcases m5 with hs | ⟨j, hj, F⟩
  · refine PE.imp (pe_fld he hab) fun σ H Q q => one_part q fun xv H1 ⟨z1, d, R, w, r, q⟩ => ?_
    exact absurd q (dead hs z1 d _ _)
  · rw [← S.hK, ← S.hmg] at F
    refine PE.imp (pe_prop he m2 m3 F (S.room.mono hj) m4 .nil (passL (X := X.nox)) hab) fun σ H Q q => one_part q fun xv H1 ⟨z1, d, R, w, r, q⟩ => ?_
    cases d <;> first | exact q.elim | skip
    rename_i c' fs
    have q : (if c' = cn then M.nox (o.prop cn x (.obj c' fs)) else stuck : M D).w (Po c z1 H1 Q) R := q
    by_cases hc : c' = cn
    · subst hc
      rw [if_pos rfl] at q
      have r0 := r
      cases r with
      | obj e1 e2 e3 e4 r =>
        rw [m1] at e1
        cases e1
        exact ⟨_, _, _, rfl, w.f _ _ e2, rfl, z1, _, w, .cons r0 .nil, M.mono _ (fun _ p => p) (fun _ p => p.elim) q⟩
    · rw [if_neg hc] at q; exact q.elim
/-- a class called -/
theorem run_mk {pins : List (Addr × Obj)} {σ : L2.St} {H : Hp} {s : Shared} {Q : VK} {us : List Value} {vs : List V} {C f : Addr} {fd : FuncData} {sps : List Str} {sp : Sp} {j : Nat} (tk : Takes X W) (mk : Mk X.K C f) (F : FnOk X.prog X.w X.K X.mg X.base (L2.CX X.prog X.w) j f fd sps sp) (hr : Room (j + 1) X.A) (hb : Binds X.K fd sps [])
    (I : Inv X pins σ H s) (r : Vals vs us) (h : ∀ x dx, H x = none → H dx = none → dx ≠ x → sp (.ref x :: vs) (upd (upd H dx (.own x)) x (.ins C dx [])) (fun v H2 => v = .non ∧ Q (.ref x) H2) (WE W σ)) :
    wpAny (model X.prog X.w) X.A (call (.ref C) us) (EP X pins σ Q) X.xe s := by
  let x := s.heap.objs.size + 1
  have hs := h x s.heap.objs.size (I.hok.fresh (Nat.le_succ _)) (I.hok.fresh (Nat.le_refl _)) (Nat.ne_of_lt (Nat.lt_succ_self _))
  have J := Inv.made (C := C) I
  have rr : Vals (V.ref x :: vs) (Value.ref x :: us) := .cons rfl r
  have hl : (Value.ref x :: us ++ []).length = sps.length := by
    rw [List.append_nil, ← rr.length]; exact F.len _ _ _ _ hs
  have bnd := hb _ (Value.ref x :: us) J.kIn hl
  rw [List.append_nil] at bnd
  refine wpAny_call (make_map (f := f) I.kIn mk.makes mk.init (beq_iff_eq.mp mk.fn) (codeAny_mono (F.run _ X.stack _ _ ⟨Value.ref x :: us, []⟩ (Value.ref x :: us) _ _ (WE W σ) (hr.make C us []) (J.env0.make C us []) bnd rr hs) fun res s' hq => ?_))
  cases res with
  | error e => exact passAt tk σ pins _ _ e s' J hq
  | ok fl =>
    cases fl with
    | ret u =>
      obtain ⟨v, H', I3, rv, ev, q3⟩ := J.after hq
      subst ev
      exact ⟨rv, ⟨V.ref x, H', I3, rfl, q3⟩⟩
    | next => exact hq.elim
    | brk => exact hq.elim
    | cont => exact hq.elim
theorem pe_mkE (S : Sx c g o k X) (tk : Takes X W) {cn : Str} {e : Expr} {es : List Expr} {p pos : Pos} {ml : M (List D)} {v : Vw} (hgl : gloB X.env.scope cn = true) (hok : okName cn = true) (hc : g.clss.contains cn = true) (ha : PA X (e :: es) (tML c W v ml))
    (he : starEach (e :: es) X.env = (false, eval e X.env) :: starEach es X.env) (hpl : (backTo pos (starEach es X.env)).any (·.1) = false) : PE X (.Call (.Name cn p) (e :: es) [] pos) (tM c W v (M.bind ml (makeD o cn))) := by
  obtain ⟨C, f, fd, sps, n, m1, m2, m3, m4, m5⟩ := S.ora.makes _ hc
  rw [← S.hK] at m2 m3
  obtain ⟨o1, _, _⟩ := okName_ok hok
  refine ⟨fun pins s σ H Q I q => ?_⟩
  refine wpAny_Call_Name_kw (ld_glob I (gloB_ok hgl) (by rw [S.hmg]; exact m1) ?_ o1)
  refine PySem.W.callWith_K (h₀ := X.base) I.ok.mod.kin m2.kp (thn (ha.run pos pins s σ H _ I (list_part (W := W) (r := fun xs H1 => ∃ z1 ds, Wf c z1 H1 ∧ RepL c.K c.mg z1 xs ds ∧ D.nosL ds = true ∧ (o.make cn ds).w (Po c z1 H1 Q) (Px c z1 H1 fun cls dd H' => W cls dd σ H')) q fun xs H1 z1 ds w1 r1 q1 => ⟨z1, ds, w1, r1, q1⟩)) fun us s1 ⟨vs, H1, I1, r, z1, ds, w1, r1, hno, q1⟩ => ⟨I1.kIn, ?_⟩) he hpl
  rcases m5 with hs | ⟨j, hj, F⟩
  · rw [hs] at q1; exact q1.elim
  · rw [← S.hK, ← S.hmg] at F
    refine run_mk tk m2 F (S.room.mono hj) m3 I1 r fun x dx hx hdx hne => ⟨x, dx, vs, H1, rfl, ?_, rfl, hx, hdx, hne, z1, ds, w1, r1, hno, M.mono _ (fun d p H' z' w' x' r' => ⟨rfl, p _ _ _ w' x' r'⟩) (fun _ p => p) q1⟩
    rw [r1.length]
    by_cases hl : ds.length = n
    · exact hl
    · rw [m4 _ hl] at q1; exact q1.elim
/-- isinstance(e, C) -/
theorem pe_isc (S : Sx c g o k X) {cn : Str} {e : Expr} {p q pos : Pos} {ma : M D} {v : Vw} (hg1 : gloB X.env.scope "isinstance" = true) (hfr : g.free.contains "isinstance" = true) (hg2 : gloB X.env.scope cn = true) (hok : okName cn = true) (hc : g.iscs.contains cn = true) (hpx : plainX e = true)
    (he : PE X e (tM c W v ma)) : PE X (.Call (.Name "isinstance" p) [e, .Name cn q] [] pos) (tM c W v (M.bind ma (iscD cn))) := by
  obtain ⟨C, m1, ⟨t1, t2, t3, t4, t5⟩, m2, m3⟩ := S.ora.iscs _ hc
  obtain ⟨o1, _, _⟩ := okName_ok hok
  refine PE.imp (pe_callB call_isi (gloB_ok hg1) (by rw [S.hmg]; exact S.ora.free _ hfr) (by decide +kernel) (pa_cons he (pa_cons (pe_glob (v := .ref C) (gloB_ok hg2) (by rw [S.hmg]; exact m1) rfl o1) pa_nil) (star_plain hpx)) (by decide) (by decide) (star_plain hpx) (by rfl)) fun σ H Q q => ?_
  refine one_part q fun xv H1 ⟨z1, d, R, w, r, q⟩ => ?_
  have ty : ∀ t : String, d.tyName = some t → ["NoneType", "bool", "int", "str", "tuple", "list"].contains t = true → Q (.bl false) H1 → rIsi X.K [xv, .ref C] H1 Q := fun t ht hm hq =>
    ⟨xv, .ref C, .type t, .ref C, false, rfl, .own C, by rw [S.hK]; exact ty_rep w r ht, by rw [S.hK]; exact m3 t hm, hq⟩
  cases d <;> first | exact q.elim | exact ty _ rfl (by decide) (Po.here w q (.bl false)) | skip
  rename_i c' fs
  have q : (if c' = cn then ret (.bl true) else stuck : M D).w (Po c z1 H1 Q) R := q
  by_cases hcn : c' = cn
  · subst hcn
    rw [if_pos rfl] at q
    cases r with
    | obj e1 e2 e3 e4 r =>
      rw [m1] at e1
      cases e1
      exact ⟨_, .ref C, .ref C, .ref C, true, rfl, .own C, .base (by rw [S.hK]; exact .ins (w.f _ _ e2) t1 t2 t3 t4 t5), by rw [S.hK]; exact m2, Po.here w q (.bl true)⟩
  · rw [if_neg hcn] at q; exact q.elim
/-! ### methods, dicts -/
theorem keyD_eq (a b : Key) : D.eq (keyD a) (keyD b) = decide (a = b) := by
  cases a <;> cases b
  · rename_i i j
    show (i == j) = _
    by_cases h : i = j
    · subst h; simp
    · rw [decide_eq_false (by simpa using h)]; simpa using h
  · show false = _; simp
  · show false = _; simp
  · rename_i x y
    show (x == y) = _
    by_cases h : x = y
    · subst h; simp
    · rw [decide_eq_false (by simpa using h)]; simpa using h
theorem key_rep {K : PySem.W.Frag} {mg : Str → Option Value} {z : Fz} {x : V} {d : D} (h : d.isKey = true) (r : Rep K mg z x d) : ∃ k, d = keyD k ∧ x = kV k := by
  cases d <;> first | (cases h; done) | skip
  · exact ⟨.inl _, rfl, r.int_inv⟩
  · exact ⟨.inr _, rfl, r.str_inv⟩
theorem keys_rep {K : PySem.W.Frag} {mg : Str → Option Value} {z : Fz} : ∀ {xs : List V} {ds : List D}, ds.all D.isKey = true → RepL K mg z xs ds → ∃ ks : List Key, ds = ks.map keyD ∧ xs = ks.map kV
  | _, _, _, .nil => ⟨[], rfl, rfl⟩
  | _, _, h, .cons r rs => by
    simp only [List.all_cons, Bool.and_eq_true] at h
    obtain ⟨k, e1, e2⟩ := key_rep h.1 r
    obtain ⟨ks, e3, e4⟩ := keys_rep h.2 rs
    exact ⟨k :: ks, by rw [e1, e3]; rfl, by rw [e2, e4]; rfl⟩
theorem dic_look {K : PySem.W.Frag} {mg : Str → Option Value} {z : Fz} (k : Key) : ∀ {kvs : List (Key × V)} {vs : List D}, RepL K mg z (kvs.map (·.2)) vs → match valV kvs k, D.look2 (keyD k) (kvs.map fun p => keyD p.1) vs with
    | none, none => True
    | some v, some d => Rep K mg z v d
    | _, _ => False
  | [], [], _ => by simp [valV_nil, D.look2]
  | [], _ :: _, r => by cases r
  | (a, v) :: kvs, _, r => by
    cases r with
    | @cons _ _ d ds r0 rs =>
      by_cases e : a = k
      · rw [valV_pos (p := (a, v)) e]
        have : D.look2 (keyD k) (((a, v) :: kvs).map fun p => keyD p.1) (d :: ds) = some d := by
          show (if D.eq (keyD a) (keyD k) = true then some d else _) = _
          rw [keyD_eq, decide_eq_true e]; rfl
        rw [this]
        exact r0
      · rw [valV_neg (p := (a, v)) e]
        have : D.look2 (keyD k) (((a, v) :: kvs).map fun p => keyD p.1) (d :: ds) = D.look2 (keyD k) (kvs.map fun p => keyD p.1) ds := by
          show (if D.eq (keyD a) (keyD k) = true then some d else D.look2 (keyD k) (kvs.map fun p => keyD p.1) ds) = _
          rw [keyD_eq, decide_eq_false e]; rfl
        rw [this]
        exact dic_look k rs
theorem pe_splitE {a e1 : Ev.E} {b x1 : Expr} {ap cp : Pos} {v : Vw} (hline : (ap.endLine == cp.line) = true) (hb : ∀ y env w, attributeBase b y env w = w) (ha : PE X b (tM c W v (evE o a v))) (g1 : plainX x1 = true) (p1 : PE X x1 (tM c W v (evE o e1 v))) :
    PE X (.Call (.Attribute b "split" ap) [x1] [] cp) (tM c W v (evE o (.mth .split a (.cons e1 .nil)) v)) := by
  refine PE.imp (pe_m1 F.slot_str_split F.type_str_split mt_split ha p1 (by rw [star_plain g1]; rfl) (hb _ _ _) hline) fun σ H Q q => ?_
  obtain ⟨z, w, vo, q⟩ := q
  refine ⟨z, w, vo, (evE o a v).mono (fun d p x H1 z1 w1 x1 r1 => ?_) (fun _ p => p) q⟩
  obtain ⟨p0, p⟩ := p
  cases d <;> first | (cases p0; done) | skip
  refine ⟨⟨_, r1.str_inv⟩, z1, w1, vo.ext x1, (evE o e1 v).mono (fun d2 p2 x2 H2 z2 w2 e2 r2 => ?_) (fun _ p => Px.ext x1 p) p⟩
  cases d2 <;> first | exact p2.elim | skip
  obtain ⟨⟨c1, c2⟩, p2⟩ := p2
  refine ⟨_, _, r1.str_inv, by rw [r2.str_inv], c1, c2, fun p hp => ?_⟩
  have rr : ∀ l : List Str, RepL c.K c.mg z2 (l.map V.str) (l.map D.str) := fun l => by
    induction l with
    | nil => exact .nil
    | cons y l ih => exact .cons (.str y) ih
  exact Po.lst w2 hp (Po.ext (x1.trans e2) p2) (rr _)
theorem pe_getE (S : Sx c g o k X) {a e1 e2 : Ev.E} {b x1 x2 : Expr} {ap cp : Pos} {v : Vw} (hline : (ap.endLine == cp.line) = true) (hb : ∀ y env w, attributeBase b y env w = w) (ha : PE X b (tM c W v (evE o a v))) (g1 : plainX x1 = true) (p1 : PE X x1 (tM c W v (evE o e1 v))) (g3 : plainX x2 = true) (p2 : PE X x2 (tM c W v (evE o e2 v))) :
    PE X (.Call (.Attribute b "get" ap) [x1, x2] [] cp) (tM c W v (evE o (.mth .get a (.cons e1 (.cons e2 .nil))) v)) := by
  have hu : X.A.units + 70 < cLine := by have := S.room.un; omega
  have st : starEach [x1, x2] X.env = [(false, eval x1 X.env), (false, eval x2 X.env)] := by rw [star_plain g1, star_plain g3]; rfl
  refine PE.imp (pe_dget2 (by omega) ha p1 p2 ⟨hb _ _ _, by rw [st]; rfl, hline, by rw [st]; rfl⟩) fun σ H Q q => ?_
  obtain ⟨z, w, vo, q⟩ := q
  refine ⟨z, w, vo, (evE o a v).mono (fun d p x H1 z1 w1 x1 r1 => ?_) (fun _ p => p) q⟩
  obtain ⟨p0, p⟩ := p
  cases d <;> first | (cases p0; done) | skip
  cases r1 with
  | @dic ad kvs ks vs f1 f2 f3 =>
  subst f2
  refine ⟨_, rfl, .inl ⟨kvs, .inl (w1.f _ _ f1)⟩, z1, w1, vo.ext x1, (evE o e1 v).mono (fun d2 p2 y2 H2 z2 w2 x2 r2 => ?_) (fun _ p => Px.ext x1 p) p⟩
  refine ⟨z2, w2, vo.ext (x1.trans x2), (evE o e2 v).mono (fun d3 p3 y3 H3 z3 w3 x3 r3 => ?_) (fun _ p => Px.ext (x1.trans x2) p) p2⟩
  obtain ⟨⟨c1, c2⟩, p3⟩ := p3
  obtain ⟨key, rfl, rfl⟩ := key_rep c1 r2
  have x23 := x2.trans x3
  refine ⟨valV kvs key, .inl ⟨kvs, key, .inl (w3.f _ _ (x23.le.f _ _ f1)), rfl, rfl⟩, ?_⟩
  have lk := dic_look key (f3.mono x23.le)
  have p3 := Po.ext (x1.trans x23) p3
  cases hv : valV kvs key with
  | none =>
    rw [hv] at lk
    cases hd : D.look2 (keyD key) (kvs.map fun p => keyD p.1) _ with
    | none => rw [hd] at p3; exact Po.here w3 p3 r3
    | some d => rw [hd] at lk; exact lk.elim
  | some u =>
    rw [hv] at lk
    cases hd : D.look2 (keyD key) (kvs.map fun p => keyD p.1) _ with
    | none => rw [hd] at lk; exact lk.elim
    | some d => rw [hd] at lk p3; exact Po.here w3 p3 lk
theorem keyD_inj {a b : Key} (h : keyD a = keyD b) : a = b := by
  cases a <;> cases b <;> first | (cases h; rfl) | cases h
theorem nodup_keys : ∀ {ks : List Key}, (ks.map keyD).Nodup → ks.Nodup
  | [], _ => .nil
  | k :: ks, h => by
    rw [List.map_cons, List.nodup_cons] at h
    exact List.nodup_cons.mpr ⟨fun hk => h.1 (List.mem_map.mpr ⟨k, hk, rfl⟩), nodup_keys h.2⟩
theorem zip_fst {α β : Type} : ∀ (ks : List α) (ys : List β), (ks.zip ys).map Prod.fst = ks.take ys.length
  | [], _ => by simp
  | _ :: _, [] => by simp
  | k :: ks, y :: ys => by simp [zip_fst ks ys]
theorem zip_snd {α β : Type} : ∀ (ks : List α) (ys : List β), (ks.zip ys).map (·.2) = ys.take ks.length
  | [], _ => by simp
  | _ :: _, [] => by simp
  | k :: ks, y :: ys => by simp [zip_snd ks ys]
theorem dzip_parts {ml : M (List D)} {v : Vw} {σ : L2.St} {H : Hp} {Q : VK} (h : tM c W v (M.bind ml dzipD) σ H Q) : EvZip.tDzip c.K (tML c W v ml) σ H Q := by
  refine list_part (W := W) h fun vs H1 z ds w r q => ?_
  have key : ∃ d e xs ys, ds = [d, e] ∧ (d = .tup xs ∨ d = .lst xs) ∧ (e = .tup ys ∨ e = .lst ys) ∧ dzipD ds = M.must (D.keysOk xs) (ret (.dic (xs.take ys.length) (ys.take xs.length))) := by
    match ds with
    | [] => exact q.elim
    | [d] => exact q.elim
    | d :: e :: _ :: _ => exact q.elim
    | [d, e] =>
      cases d <;> first | exact q.elim | skip
      all_goals (cases e <;> first | exact q.elim | skip)
      · exact ⟨_, _, _, _, rfl, .inl rfl, .inl rfl, rfl⟩
      · exact ⟨_, _, _, _, rfl, .inl rfl, .inr rfl, rfl⟩
      · exact ⟨_, _, _, _, rfl, .inr rfl, .inl rfl, rfl⟩
      · exact ⟨_, _, _, _, rfl, .inr rfl, .inr rfl, rfl⟩
  obtain ⟨d, e, xs, ys, rfl, hd, he, hz⟩ := key
  rw [hz] at q
  obtain ⟨⟨q1, q2, q3⟩, q4⟩ := q
  obtain ⟨y, y2, rfl, ry, ry2⟩ := r.two_inv
  obtain ⟨t, a, us, rfl, s1, rl⟩ := rep_seq ry hd
  obtain ⟨u, b, ws, rfl, s2, rl2⟩ := rep_seq ry2 he
  obtain ⟨ks, rfl, rfl⟩ := keys_rep q1 rl
  refine ⟨t, u, a, b, ks, ws, rfl, sx_mono w.f s1, sx_mono w.f s2, nodup_keys q2, by simpa using q3, fun p hp => ?_⟩
  refine Po.new w hp (fun _ e => by cases e) q4 fun z' l h => ?_
  refine .dic h ?_ ?_
  · show List.take ys.length (List.map keyD ks) = List.map (keyD ∘ Prod.fst) (ks.zip ws)
    rw [← List.map_map, zip_fst, List.map_take, rl2.length]
  · rw [zip_snd]
    have := (rl2.mono l).take ks.length
    rwa [List.length_map]
end
end Ev
set_option Elab.async false
set_option linter.all false
set_option maxRecDepth 100000
set_option maxHeartbeats 8000000
/-! Ev, part Q: expressions: what the meaning says is what the model does. -/
namespace Ev
open PySem PySem.Spec PyProof.Rows L2

section
variable {c : Cn} {g : Gx} {o : Ora} {k : Nat} {X : Cx} {W : WX}
theorem noStars {sc : Scope} {g : Gx} : ∀ {es : Es} {xs : List Expr} {env : Env} {pos : Pos}, chkEs g sc es xs = true → (backTo pos (starEach xs env)).any (·.1) = false := by
  intro es xs
  induction xs generalizing es with
  | nil => intro env pos _; rfl
  | cons x xs ih =>
    intro env pos h
    cases es with
    | nil => cases h
    | star _ _ => cases h
    | cons e r =>
      obtain ⟨h1, h2⟩ := ba3 h
      obtain ⟨_, h3⟩ := ba3 h2
      rw [star_plain h1]
      show (false || (backTo pos (starEach xs env)).any (·.1)) = false
      rw [ih h3]; rfl
theorem chkEs_cons {sc : Scope} {es : Es} {x : Expr} {xs : List Expr} (h : chkEs g sc es (x :: xs) = true) : plainX x = true ∧ ∃ e r, es = .cons e r ∧ chkEs g sc r xs = true := by
  cases es with
  | nil => cases h
  | star _ _ => cases h
  | cons e r =>
    obtain ⟨g1, g2⟩ := ba3 h
    obtain ⟨_, g3⟩ := ba3 g2
    exact ⟨g1, e, r, rfl, g3⟩
end
section
variable {c : Cn} {g : Gx} {o : Ora} {k : Nat}
theorem chkEs_1 {sc : Scope} {es : Es} {x : Expr} (h : chkEs g sc es [x] = true) : ∃ e, es = .cons e .nil ∧ plainX x = true ∧ chkE g sc e x = true := by
  cases es with
  | nil => cases h
  | star _ _ => cases h
  | cons e r =>
    obtain ⟨g1, g2⟩ := ba3 h
    obtain ⟨g3, g4⟩ := ba3 g2
    cases r with
    | nil => exact ⟨e, rfl, g1, g3⟩
    | cons _ _ => cases g4
    | star _ _ => cases g4
theorem chkEs_2 {sc : Scope} {es : Es} {x y : Expr} (h : chkEs g sc es [x, y] = true) : ∃ e e2, es = .cons e (.cons e2 .nil) ∧ plainX x = true ∧ chkE g sc e x = true ∧ plainX y = true ∧ chkE g sc e2 y = true := by
  cases es with
  | nil => cases h
  | star _ _ => cases h
  | cons e r =>
    obtain ⟨g1, g2⟩ := ba3 h
    obtain ⟨g3, g4⟩ := ba3 g2
    obtain ⟨e2, rfl, g5, g6⟩ := chkEs_1 g4
    exact ⟨e, e2, rfl, g1, g3, g5, g6⟩
theorem rg_rep {z : Fz} (a : Int) (n : Nat) : RepL c.K c.mg z ((List.range n).map fun i => V.int (a + (i : Nat))) ((List.range n).map fun (i : Nat) => D.int (a + (i : Int))) := by
  induction List.range n with
  | nil => exact .nil
  | cons i l ih => exact .cons (.int _) ih
theorem lrng_fin {z z1 : Fz} {H H1 : Hp} {Q : VK} {a b : Int} {n : Nat} (w1 : Wf c z1 H1) (x1 : Ext z H z1 H1) (hn : (b - a).toNat = n)
    (p : ∀ p vs H' z', Wf c z' H' → Ext z H z' H' → Ow z' H' p vs → H p = none → RepL c.K c.mg z' vs ((List.range n).map fun (i : Nat) => D.int (a + (i : Int))) → Q (.ref p) H') : ∀ q, H1 q = none → Q (.ref q) (upd H1 q (.lst (rgV a b))) := fun q hq => by
  subst hn
  refine p q _ _ z1 (w1.new hq) (x1.trans ((Ext.refl z1 H1).upd hq)) (.new w1 hq) ?_ (rg_rep a _)
  cases e : H q with
  | none => rfl
  | some u => exact absurd hq (x1.there q (by rw [e]; simp))
theorem lrng_parts1 {ma : M D} {v : Vw} {W : WX} {σ : L2.St} {H : Hp} {Q : VK} (h : tF c W v (lrngM (M.bind ma fun x => M.bind (ret []) fun xs => ret (x :: xs))) σ H Q) : tLstRg (tRg1 (tM c W v ma)) σ H Q := by
  obtain ⟨z, w, vo, q⟩ := h
  refine ⟨z, w, vo, ma.mono (fun d p x H1 z1 w1 x1 r => ?_) (fun _ p => p) q⟩
  cases d <;> first | exact p.elim | skip
  rename_i j
  obtain ⟨⟨b1, b2⟩, hl, p⟩ := p
  rw [List.length_map, List.length_range] at hl
  have e0 : (j - 0).toNat = j.toNat := by rw [Int.sub_zero]
  exact ⟨j, r.int_inv, ⟨by omega, by omega, b1, b2, by rw [e0]; exact hl⟩, lrng_fin w1 x1 e0 p⟩
theorem lrng_parts2 {ma mb : M D} {v : Vw} {W : WX} {σ : L2.St} {H : Hp} {Q : VK} (h : tF c W v (lrngM (M.bind ma fun x => M.bind (M.bind mb fun y => M.bind (ret []) fun xs => ret (y :: xs)) fun xs => ret (x :: xs))) σ H Q) : tLstRg (tRg2 (tM c W v ma) (tM c W v mb)) σ H Q := by
  obtain ⟨z, w, vo, q⟩ := h
  refine ⟨z, w, vo, ma.mono (fun d1 p1 x1 H1 z1 w1 e1 r1 => ?_) (fun _ p => p) q⟩
  refine ⟨z1, w1, vo.ext e1, mb.mono (fun d2 p x2 H2 z2 w2 e2 r2 => ?_) (fun _ p => Px.ext e1 p) p1⟩
  cases d1 <;> cases d2 <;> first | exact p.elim | skip
  rename_i i j
  obtain ⟨⟨b1, b2, b3, b4⟩, hl, p⟩ := p
  rw [List.length_map, List.length_range] at hl
  exact ⟨i, j, r1.int_inv, r2.int_inv, ⟨b1, b2, b3, b4, hl⟩, lrng_fin w2 (e1.trans e2) rfl p⟩
/-- a new list of three ints, a handle from now on -/
theorem hnew_parts {ml : M (List D)} {v : Vw} {W : WX} {σ : L2.St} {H : Hp} {Q : VK} (h : tM c W v (M.bind ml hnewD) σ H Q) : tLst (tML c W v ml) σ H Q := by
  obtain ⟨z, w, vo, q⟩ := h
  refine ⟨z, w, vo, ml.mono (fun ds p vs H1 z1 w1 x1 r => ?_) (fun _ p => p) q⟩
  obtain ⟨a, b, d, rfl⟩ : ∃ a b d, ds = [.int a, .int b, .int d] := by
    unfold hnewD at p
    split at p
    · exact ⟨_, _, _, rfl⟩
    · exact p.elim
  have p : Po c z H Q .hnd := p
  have ev : vs = [.int a, .int b, .int d] := by
    cases r with
    | cons r1 r => cases r with
      | cons r2 r => cases r with
        | cons r3 r => cases r; rw [r1.int_inv, r2.int_inv, r3.int_inv]
  subst ev
  refine ⟨by show 3 ≤ sizeLine; decide, fun q hq => ?_⟩
  have hH : H q = none := by
    cases e : H q with
    | none => rfl
    | some u => exact absurd hq (x1.there q (by rw [e]; simp))
  have wn : Wf c z1 (upd H1 q (.lst [.int a, .int b, .int d])) := w1.new hq
  have xn : Ext z H z1 (upd H1 q (.lst [.int a, .int b, .int d])) := x1.upd hH
  have on : Ow z1 (upd H1 q (.lst [V.int a, .int b, .int d])) q [V.int a, .int b, .int d] := .new w1 hq
  refine p (.ref q) _ { z1 with hs := fun b => z1.hs b ∨ b = q } ⟨wn.f, fun b hb => ?_, wn.tb, wn.ts, wn.cl.ext ⟨fun _ _ h => h, fun _ h => .inl h, fun _ _ _ _ _ h => h, fun _ h => h⟩ rfl fun _ _ e => e⟩ ⟨xn.keep, xn.there, ⟨xn.le.f, fun b hb => .inl (xn.le.h b hb), xn.le.c, xn.le.s⟩, xn.fn, fun b hb => ?_, xn.ce, xn.se⟩ (.hnd (.inr rfl))
  · rcases hb with hb | rfl
    · exact wn.hs b hb
    · exact ⟨⟨a, _, d, on.at_⟩, on.nf⟩
  · rcases hb with hb | rfl
    · exact xn.hn b hb
    · exact .inr hH
theorem chkEs_plain {sc : Scope} : ∀ {es : Es} {xs : List Expr}, chkEs g sc es xs = true → ∀ x ∈ xs, plainX x = true
  | .nil, [], _, x, hx => by cases hx
  | .cons e r, y :: xs, h, x, hx => by
    obtain ⟨h1, ha⟩ := ba3 h
    obtain ⟨_, h3⟩ := ba3 ha
    rcases List.mem_cons.mp hx with rfl | hx
    · exact h1
    · exact chkEs_plain h3 x hx
  | .nil, _ :: _, h, _, _ => by cases h
  | .cons _ _, [], h, _, _ => by cases h
  | .star _ _, [], h, _, _ => by cases h
  | .star _ _, _ :: _, h, _, _ => by cases h
theorem chkI_plain {sc : Scope} {it : It} {tg x : Expr} (h : chkI g sc it tg x = true) (env : Env) : ∀ y, foldedSetIterable x env y = pure y := by
  cases it with
  | val e => exact fold_plain (ba3 h).1 env
  | rng es =>
    obtain ⟨⟨y, a, l⟩, hy, h⟩ := optB_ok h
    obtain ⟨_, _, rfl⟩ := asCall_ok hy
    intro _; rfl
  | enum es =>
    obtain ⟨⟨y, a, l⟩, hy, h⟩ := optB_ok h
    obtain ⟨_, _, rfl⟩ := asCall_ok hy
    intro _; rfl
  | zip es =>
    obtain ⟨⟨y, a, l⟩, hy, h⟩ := optB_ok h
    obtain ⟨_, _, rfl⟩ := asCall_ok hy
    intro _; rfl
theorem evEs_len {sc : Scope} {v : Vw} : ∀ {es : Es} {xs : List Expr}, chkEs g sc es xs = true → ∀ Q R, (evEs o es v).w Q R → (evEs o es v).w (fun ds => Q ds ∧ ds.length = xs.length) R
  | .nil, [], _, Q, R, q => ⟨q, rfl⟩
  | .cons e r, x :: xs, h, Q, R, q => by
    obtain ⟨_, ha⟩ := ba3 h
    obtain ⟨_, h3⟩ := ba3 ha
    refine (evE o e v).mono (Q := fun d => (evEs o r v).w (fun ds => Q (d :: ds)) R) (fun d p => ?_) (fun _ p => p) q
    exact (evEs o r v).mono (fun ds p => ⟨p.1, by rw [List.length_cons, List.length_cons, p.2]⟩) (fun _ p => p) (evEs_len h3 _ _ p)
  | .nil, _ :: _, h, _, _, _ => by cases h
  | .cons _ _, [], h, _, _, _ => by cases h
  | .star _ _, [], h, _, _, _ => by cases h
  | .star _ _, _ :: _, h, _, _, _ => by cases h
theorem Sx.blk {X : Cx} (S : Sx c g o k X) (scope : Scope) (s : Shared) (H : Hp) (C : Addr) (cl : List (Str × Addr)) (fp : List Addr) : Sx c g.blk o k (X.blk s H scope (compEnvC scope cl C X.env) fp) :=
  ⟨S.hK, S.hmg, S.calm, S.nd, S.hN, S.room, S.oraA.to (g' := g.blk) ⟨rfl, rfl, rfl, rfl, rfl, rfl, rfl⟩, S.le, ClsB.to (g := g) (g' := g.blk) ⟨rfl, rfl, rfl, rfl, rfl, rfl, rfl⟩ S.cls, fun h => by (cases h), fun h => by cases h⟩
mutual
theorem soundE : ∀ (e : E) (g : Gx) (X : Cx) (W : WX) (S : Sx c g o k X) (tk : Takes X W) (v : Vw) (x : Expr), chkE g X.env.scope e x = true → PE X x (tM c W v (evE o e v))
  | .var i, g, X, W, S, tk, v, x, h => by
    obtain ⟨y, hy, h⟩ := optB_ok h
    obtain ⟨p, rfl⟩ := asName_ok hy
    obtain ⟨h1, ha⟩ := ba3 h
    obtain ⟨h2, h3⟩ := ba3 ha
    obtain ⟨o1, o2, _⟩ := okName_ok h3
    refine PE.imp (pe_var (i := i) (by rw [S.hN]; exact beq_iff_eq.mp h1) (visB_ok h2) o1 o2) fun σ H Q q => ?_
    obtain ⟨z, w, vo, q⟩ := q
    obtain ⟨d, e1, q⟩ := look_w q
    obtain ⟨y, e2, r⟩ := vo.2 i d e1
    exact ⟨y, e2, q _ _ _ w (.refl _ _) r⟩
  | .cst d, g, X, W, S, tk, v, x, h => by
    obtain ⟨y, hy, h⟩ := optB_ok h
    obtain ⟨j, p, rfl⟩ := asConst_ok hy
    have h : sameConst d y = true := h
    cases d <;> cases y <;> first | (cases h; done) | skip
    · exact PE.imp pe_non fun σ H Q ⟨z, w, _, q⟩ => Po.here w q .non
    · obtain rfl := beq_iff_eq.mp h
      exact PE.imp pe_bl fun σ H Q ⟨z, w, _, q⟩ => Po.here w q (.bl _)
    · obtain rfl := beq_iff_eq.mp h
      exact PE.imp pe_int fun σ H Q ⟨z, w, _, q⟩ => Po.here w q (.int _)
    · obtain rfl := beq_iff_eq.mp h
      exact PE.imp pe_str fun σ H Q ⟨z, w, _, q⟩ => Po.here w q (.str _)
  | .glb f, g, X, W, S, tk, v, x, h => by
    obtain ⟨y, hy, h⟩ := optB_ok h
    obtain ⟨p, rfl⟩ := asName_ok hy
    obtain ⟨h1, ha⟩ := ba3 h
    obtain ⟨h2, h3⟩ := ba3 ha
    obtain ⟨o1, o2, _⟩ := okName_ok h3
    obtain rfl := beq_iff_eq.mp h1
    refine ⟨fun pins s σ H Q I q => ?_⟩
    obtain ⟨z, w, vo, q⟩ := q
    obtain ⟨d, e1, q⟩ := w_ofO q
    obtain ⟨u, vv, e2, r1, r2⟩ := S.ora.globs _ _ e1
    exact (pe_glob (v := vv) (gloB_ok h2) (by rw [S.hmg]; exact e2) r1 o1).run pins s σ H Q I (q _ _ _ w (.refl _ _) (r2 z))
  | .bty f n, g, X, W, S, tk, v, x, h => by
    obtain ⟨y, hy, h⟩ := optB_ok h
    obtain ⟨p, rfl⟩ := asName_ok hy
    obtain ⟨h1, ha⟩ := ba3 h
    obtain ⟨h2, hb⟩ := ba3 ha
    obtain ⟨h3, h4⟩ := ba3 hb
    obtain ⟨b1, b2, b3⟩ := bltTy_ok h4
    exact PE.imp (pe_bltn (v := .ty n) (gloB_ok h2) (by rw [S.hmg]; exact S.ora.free _ h3) b1 rfl b2 b3) fun σ H Q ⟨z, w, _, q⟩ => Po.here w q (.ty n)
  | .bop p a b, g, X, W, S, tk, v, x, h => by
    obtain ⟨⟨l, q, r⟩, hy, h⟩ := optB_ok h
    obtain ⟨_, rfl⟩ := asBin_ok hy
    obtain ⟨h1, ha⟩ := ba3 h
    obtain ⟨h2, h3⟩ := ba3 ha
    obtain rfl := beq_iff_eq.mp h1
    exact PE.imp (pe_op (bop_ok S.hK p) (soundE a _ X W S tk v _ h2) (soundE b _ X W S tk v _ h3)) fun σ H Q q => two_parts q fun _ _ _ q => q
  | .neg a, g, X, W, S, tk, v, x, h => by
    obtain ⟨⟨q, e⟩, hy, h⟩ := optB_ok h
    obtain ⟨_, rfl⟩ := asUn_ok hy
    obtain ⟨h1, h2⟩ := ba3 h
    obtain rfl := beq_iff_eq.mp h1
    exact PE.imp (pe_un (neg_ok (c := c)) (soundE a _ X W S tk v _ h2)) fun σ H Q q => one_part q fun _ _ q => q
  | .cmp p a b, g, X, W, S, tk, v, x, h => by
    obtain ⟨⟨l, q, r⟩, hy, h⟩ := optB_ok h
    obtain ⟨_, rfl⟩ := asCmp1_ok hy
    obtain ⟨h1, ha⟩ := ba3 h
    obtain ⟨h2, hb⟩ := ba3 ha
    obtain ⟨h3, h4⟩ := ba3 hb
    obtain rfl := beq_iff_eq.mp h1
    exact PE.imp (pe_cmpR (cmp_ok S.hK (by have := S.room.un; omega) p) (soundE a _ X W S tk v _ h2) (soundE b _ X W S tk v _ h4) (plain_mark h3)) fun σ H Q q => two_parts q fun _ _ _ q => q
  | .cm2 p p' a b d, g, X, W, S, tk, v, x, h => by
    obtain ⟨⟨l, q, r, q', t⟩, hy, h⟩ := optB_ok h
    obtain ⟨_, rfl⟩ := asCmp2_ok hy
    obtain ⟨h1, ha⟩ := ba3 h
    obtain ⟨h2, hb⟩ := ba3 ha
    obtain ⟨h3, hd⟩ := ba3 hb
    obtain ⟨h4, he⟩ := ba3 hd
    obtain ⟨h5, h6⟩ := ba3 he
    obtain rfl := beq_iff_eq.mp h1
    obtain rfl := beq_iff_eq.mp h2
    have hu : X.A.units + 70 < cLine := by have := S.room.un; omega
    exact PE.imp (pe_chain (cmp_ok S.hK hu p) (cmp_ok S.hK hu p') (soundE a _ X W S tk v _ h3) (soundE b _ X W S tk v _ h4) (soundE d _ X W S tk v _ h6) (plain_mark h5)) fun σ H Q q => chain_parts q
  | .and a b, g, X, W, S, tk, v, x, h => by
    obtain ⟨⟨q, y, y2⟩, hy, hh⟩ := optB_ok h
    obtain ⟨y1, l, p, rfl, hr⟩ := asBool_ok hy
    obtain ⟨h1, ha⟩ := ba3 hh
    obtain ⟨h2, hb⟩ := ba3 ha
    obtain ⟨h3, hd⟩ := ba3 hb
    obtain ⟨h4, h5⟩ := ba3 hd
    obtain rfl := beq_iff_eq.mp h1
    have hp := soundE b _ X W S tk v _ h5
    have hq : PE X (.BoolOp .And (y1 :: l) p) (tM c W v (evE o b v)) := by
      rcases hr with ⟨rfl, rfl⟩ | ⟨_, rfl⟩
      · exact pe_one hp
      · exact hp
    exact PE.imp (pe_and (soundE a _ X W S tk v _ h3) hq) fun σ H Q q => and_partV q
  | .or a b, g, X, W, S, tk, v, x, h => by
    obtain ⟨⟨q, y, y2⟩, hy, hh⟩ := optB_ok h
    obtain ⟨y1, l, p, rfl, hr⟩ := asBool_ok hy
    obtain ⟨h1, ha⟩ := ba3 hh
    obtain ⟨h2, hb⟩ := ba3 ha
    obtain ⟨h3, hd⟩ := ba3 hb
    obtain ⟨h4, h5⟩ := ba3 hd
    obtain rfl := beq_iff_eq.mp h1
    have hp := soundE b _ X W S tk v _ h5
    have hq : PE X (.BoolOp .Or (y1 :: l) p) (tM c W v (evE o b v)) := by
      rcases hr with ⟨rfl, rfl⟩ | ⟨_, rfl⟩
      · exact pe_one hp
      · exact hp
    exact PE.imp (pe_or (soundE a _ X W S tk v _ h3) hq) fun σ H Q q => or_partV q
  | .not a, g, X, W, S, tk, v, x, h => by
    obtain ⟨⟨q, e⟩, hy, h⟩ := optB_ok h
    obtain ⟨_, rfl⟩ := asUn_ok hy
    obtain ⟨h1, ha⟩ := ba3 h
    obtain ⟨h2, h3⟩ := ba3 ha
    obtain rfl := beq_iff_eq.mp h1
    refine PE.imp (pe_notT (soundE a _ X W S tk v _ h3)) fun σ H Q q => one_part q fun x H1 ⟨z1, d, R, w, r, q⟩ => ?_
    obtain ⟨kk, h1, h2⟩ := truth_rep w r q
    exact ⟨kk, S.hK ▸ h1, Po.here w h2 (.bl _)⟩
  | .ite d a b, g, X, W, S, tk, v, x, h => by
    obtain ⟨⟨t, y, y2⟩, hy, h⟩ := optB_ok h
    obtain ⟨_, rfl⟩ := asIf_ok hy
    obtain ⟨h1, ha⟩ := ba3 h
    obtain ⟨h2, hb⟩ := ba3 ha
    obtain ⟨h3, h4⟩ := ba3 hb
    exact PE.imp (pe_ifExp (soundT d _ X W S tk v _ h1 h2) (soundE a _ X W S tk v _ h3) (soundE b _ X W S tk v _ h4)) fun σ H Q q => if_parts (md := M.bind (evE o d v) D.truth) q
  | .tup es, g, X, W, S, tk, v, x, h => by
    obtain ⟨l, hy, h⟩ := optB_ok h
    obtain ⟨_, _, rfl⟩ := asTup_ok hy
    refine PE.imp (pe_tup (soundEd es _ X W S tk v _ h)) fun σ H Q q => list_part q fun x H z d w r q => ?_
    exact ⟨by rw [r.length]; exact q.1, fun p hp => Po.tup w hp q.2 r⟩
  | .lst es, g, X, W, S, tk, v, x, h => by
    obtain ⟨l, hy, h⟩ := optB_ok h
    obtain ⟨_, rfl⟩ := asLst_ok hy
    refine PE.imp (pe_lst (soundEd es _ X W S tk v _ h)) fun σ H Q q => list_part q fun x H z d w r q => ?_
    exact ⟨by rw [r.length]; exact q.1, fun p hp => Po.lst w hp q.2 r⟩
  | .lrng es, g, X, W, S, tk, v, x, h => by
    obtain ⟨⟨y, a, l⟩, hy, hh⟩ := optB_ok h
    obtain ⟨p1, p2, rfl⟩ := asCall_ok hy
    obtain ⟨h1, ha⟩ := ba3 hh
    obtain ⟨h2, hb⟩ := ba3 ha
    obtain ⟨h3, hc⟩ := ba3 hb
    obtain ⟨h4, hd⟩ := ba3 hc
    obtain ⟨⟨y2, a2, l2⟩, hy2, hk⟩ := optB_ok hd
    obtain ⟨p3, p4, e3⟩ := asCall_ok hy2
    have e3 : a = .Call (.Name y2 p3) (a2 :: l2) [] p4 := e3
    subst e3
    obtain ⟨k1, ka⟩ := ba3 hk
    obtain ⟨k2, kb⟩ := ba3 ka
    obtain ⟨k3, kc⟩ := ba3 kb
    obtain ⟨k4, k5⟩ := ba3 kc
    obtain rfl : y = ("list" : Str) := beq_iff_eq.mp h1
    obtain rfl : y2 = ("range" : Str) := beq_iff_eq.mp k1
    have f1 : X.mg "list" = none := by rw [S.hmg]; exact S.ora.free _ h3
    have f2 : X.mg "range" = none := by rw [S.hmg]; exact S.ora.free _ k3
    obtain rfl : l = [] := by cases l with | nil => rfl | cons _ _ => cases h4
    match l2, k4, k5 with
    | _ :: _ :: _, _, k5 => cases k5
    | [], k4, _ =>
      obtain ⟨e1, rfl, g1, g2⟩ := chkEs_1 k4
      exact PE.frz (PE.imp (pe_listRg S.calm (gloB_ok h2) f1 (prg_1 (gloB_ok k2) f2 (soundE e1 _ X W S tk v a2 g2) (star_plain g1))) fun σ H Q q => lrng_parts1 q)
    | [b2], k4, _ =>
      obtain ⟨e1, e2, rfl, g1, g2, g3, g4⟩ := chkEs_2 k4
      exact PE.frz (PE.imp (pe_listRg S.calm (gloB_ok h2) f1 (prg_2 (gloB_ok k2) f2 (soundE e1 _ X W S tk v a2 g2) (soundE e2 _ X W S tk v b2 g4) (star_plain g1) (star_plain g3) (by rw [star_plain g3]; rfl))) fun σ H Q q => lrng_parts2 q)
  | .hnew es, g, X, W, S, tk, v, x, h => by
    obtain ⟨l, hy, h⟩ := optB_ok h
    obtain ⟨_, rfl⟩ := asLst_ok hy
    exact PE.imp (pe_lst (soundEs es _ X W S tk v _ h)) fun σ H Q q => hnew_parts q
  | .idx a i, g, X, W, S, tk, v, x, h => by
    obtain ⟨⟨y, y2⟩, hy, h⟩ := optB_ok h
    obtain ⟨_, rfl⟩ := asSub_ok hy
    obtain ⟨h1, ha⟩ := ba3 h
    obtain ⟨h2, h3⟩ := ba3 ha
    exact PE.imp (pe_ix (idx_ok S.hK) (soundE a _ X W S tk v _ h1) (soundE i _ X W S tk v _ h3) (plainIx_of h2)) fun σ H Q q => two_parts q fun _ _ _ q => q
  | .sl a lo hi, g, X, W, S, tk, v, x, h => by
    obtain ⟨⟨y, y2⟩, hy, hq⟩ := optB_ok h
    obtain ⟨_, rfl⟩ := asSub_ok hy
    obtain ⟨⟨l, hh⟩, hy2, hr⟩ := optB_ok hq
    obtain ⟨_, rfl⟩ := asSlice_ok hy2
    obtain ⟨h1, ha⟩ := ba3 hr
    obtain ⟨h2, h3⟩ := ba3 ha
    exact PE.imp (pe_slice (sl_ok S.hK) (soundE a _ X W S tk v _ h1) (soundO lo _ X W S tk v _ h2) (soundO hi _ X W S tk v _ h3)) fun σ H Q q => sl_parts q
  | .call f es, g, X, W, S, tk, v, x, h => by
    obtain ⟨⟨y, y2, l⟩, hy, h⟩ := optB_ok h
    obtain ⟨_, _, rfl⟩ := asCall_ok hy
    obtain ⟨h1, ha⟩ := ba3 h
    obtain ⟨h2, hb⟩ := ba3 ha
    obtain ⟨h3, hd⟩ := ba3 hb
    obtain ⟨h4, h6⟩ := ba3 hd
    obtain rfl := beq_iff_eq.mp h1
    obtain ⟨a, fd, ps, m1, m2, m3, m4, m5, m6, _⟩ := S.ora.defs _ h4
    obtain ⟨g1, e, r, _, g3⟩ := chkEs_cons h6
    obtain ⟨o1, _, _⟩ := okName_ok h3
    rw [← S.hK, ← S.hmg] at m6
    exact PE.imp (pe_callS (E := WE W) m6 S.room (gloB_ok h2) (by rw [S.hmg]; exact m1) (by rw [S.hK]; exact m2) (by rw [S.hK]; exact m3) (fun σ => passAt tk σ) (soundEs es _ X W S tk v _ h6) o1 (star_plain g1) (noStars g3)) fun σ H Q q => call_parts m5 q
  | .call0 f, g, X, W, S, tk, v, x, h => by
    obtain ⟨y, hy, h⟩ := optB_ok h
    obtain ⟨_, _, rfl⟩ := asCall0_ok hy
    obtain ⟨h1, ha⟩ := ba3 h
    obtain ⟨h2, hb⟩ := ba3 ha
    obtain ⟨h3, h4⟩ := ba3 hb
    obtain rfl := beq_iff_eq.mp h1
    obtain ⟨a, fd, ps, m1, m2, m3, m4, m5, m6, _⟩ := S.ora.defs _ h4
    obtain ⟨o1, _, _⟩ := okName_ok h3
    rw [← S.hK, ← S.hmg] at m6
    refine PE.imp (pe_callS0 (E := WE W) m6 S.room (gloB_ok h2) (by rw [S.hmg]; exact m1) (by rw [S.hK]; exact m2) (by rw [S.hK]; exact m3) (fun σ => passAt tk σ) o1) fun σ H Q q => ?_
    obtain ⟨z, w, vo, q⟩ := q
    have q : (o.call f []).w (Po c z H Q) (Px c z H fun cls dd H' => W cls dd σ H') := q
    refine ⟨?_, z, [], w, .nil, q⟩
    by_cases hl : ([] : List D).length = ps.length
    · exact hl
    · rw [m5 _ hl] at q; exact q.elim
  | .callk f es ks kes pm, g, X, W, S, tk, v, x, h => by
    obtain ⟨⟨y, l, kws⟩, hy, hh⟩ := optB_ok h
    obtain ⟨_, _, rfl⟩ := asCallK_ok hy
    obtain ⟨h1, ha⟩ := ba3 hh
    obtain ⟨h2, hb⟩ := ba3 ha
    obtain ⟨h3, hd⟩ := ba3 hb
    obtain ⟨h4, he⟩ := ba3 hd
    obtain ⟨h5, hf⟩ := ba3 he
    obtain ⟨h6, hg⟩ := ba3 hf
    obtain ⟨h7, h8⟩ := ba3 hg
    obtain rfl := beq_iff_eq.mp h1
    obtain ⟨a, fd, ps, m1, m2, m3, m4, m5, m6, _, m7⟩ := S.ora.defs _ h4
    obtain ⟨o1, _, _⟩ := okName_ok h3
    have h7 := of_decide_eq_true h7
    have hk : ks.length = (kws.map (·.value)).length := by
      have e := congrArg List.length h7
      rw [List.length_map, List.length_map] at e
      rw [List.length_map]; exact e.symm
    rw [← S.hK, ← S.hmg] at m6
    have m7 := m7 _ _ _ h5
    rw [← S.hK] at m7
    have pk := soundK kes _ X W S tk v kws h8
    cases l with
    | nil =>
      have l1 := evEs_len (o := o) (v := v) h6
      refine PE.imp (pe_callKS0 (E := WE W) m6 S.room (gloB_ok h2) (by rw [S.hmg]; exact m1) (by rw [S.hK]; exact m2) m7 (fun σ => passAt tk σ) pk h7 o1) fun σ H Q q => ?_
      have q2 := callk_parts m5 l1 (evEs_len (o := o) (v := v) h8) q
      rw [hk]
      have e : es = .nil := by cases es with | nil => rfl | cons _ _ => cases h6 | star _ _ => cases h6
      subst e
      obtain ⟨z, w, vo, q2⟩ := q2
      exact q2 [] H z w (.refl _ _) .nil
    | cons y1 l =>
      obtain ⟨g1, e, r, _, g3⟩ := chkEs_cons h6
      refine PE.imp (pe_callKS (E := WE W) m6 S.room (gloB_ok h2) (by rw [S.hmg]; exact m1) (by rw [S.hK]; exact m2) m7 (fun σ => passAt tk σ) (soundEs es _ X W S tk v _ h6) pk h7 o1 (star_plain g1) (noStars h6)) fun σ H Q q => ?_
      rw [hk]
      exact callk_parts m5 (evEs_len h6) (evEs_len h8) q
  | .blt b es, g, X, W, S, tk, v, x, h => by
    obtain ⟨⟨y, y2, l⟩, hy, h⟩ := optB_ok h
    obtain ⟨_, _, rfl⟩ := asCall_ok hy
    obtain ⟨h1, ha⟩ := ba3 h
    obtain ⟨h2, hb⟩ := ba3 ha
    obtain ⟨h3, hd⟩ := ba3 hb
    obtain ⟨h4, h6⟩ := ba3 hd
    obtain ⟨g1, e, r, _, g3⟩ := chkEs_cons h6
    refine PE.imp (pe_blt (blt_ok S.hK S.calm (by have := S.room.un; omega) b) (beq_iff_eq.mp h1) (gloB_ok h2) (by rw [S.hmg]; exact S.ora.free _ h4) (soundEs es _ X W S tk v _ h6) h3 (star_plain g1) (noStars g3)) fun σ H Q q => list_part q fun x H z d w r q => ?_
    exact ⟨z, d, _, w, r, q⟩
  | .callv i es, g, X, W, S, tk, v, x, h => by
    have hs := fun xs h => soundEs es g X W S tk v xs h
    cases es with
    | nil =>
      obtain ⟨y, hy, h⟩ := optB_ok (show optB (asCall0 x) (fun y => g.N[i]? == some y && (visB X.env.scope y && okName y)) = true from h)
      obtain ⟨_, _, rfl⟩ := asCall0_ok hy
      obtain ⟨h1, ha⟩ := ba3 h
      obtain ⟨h2, h3⟩ := ba3 ha
      obtain ⟨o1, o2, _⟩ := okName_ok h3
      exact pe_callv0 S tk (i := i) (by rw [S.hN]; exact beq_iff_eq.mp h1) (visB_ok h2) o1 o2
    | star _ _ => cases h
    | cons e r =>
      obtain ⟨⟨y, y2, l⟩, hy, h⟩ := optB_ok (show optB (asCall x) (fun t => g.N[i]? == some t.1 && (visB X.env.scope t.1 && (okName t.1 && (plainX t.2.1 && (chkE g X.env.scope e t.2.1 && chkEs g X.env.scope r t.2.2))))) = true from h)
      obtain ⟨_, _, rfl⟩ := asCall_ok hy
      obtain ⟨h1, ha⟩ := ba3 h
      obtain ⟨h2, hb⟩ := ba3 ha
      obtain ⟨h3, hc⟩ := ba3 hb
      obtain ⟨h4, hd⟩ := ba3 hc
      obtain ⟨h5, h6⟩ := ba3 hd
      obtain ⟨o1, o2, _⟩ := okName_ok h3
      have hall : chkEs g X.env.scope (.cons e r) (y2 :: l) = true := by
        show (plainX y2 && (chkE g X.env.scope e y2 && chkEs g X.env.scope r l)) = true
        rw [h4, h5, h6]; rfl
      exact pe_callv S tk (i := i) (by rw [S.hN]; exact beq_iff_eq.mp h1) (visB_ok h2) o1 o2 (hs _ hall) (star_plain h4) (noStars h6)
  | .comp e t it d, g, X, W, S, tk, v, x, h => by
    obtain ⟨⟨elt, tg, iter, ifs, scope⟩, hy, h⟩ := optB_ok h
    obtain ⟨pos, rfl⟩ := asLc1_ok hy
    obtain ⟨h1, ha⟩ := ba3 h
    obtain ⟨h2, hb⟩ := ba3 ha
    obtain ⟨h3, hd⟩ := ba3 hb
    obtain ⟨h4, h5⟩ := ba3 hd
    have hN := S.hN
    have ok : BlkOk X.N X.env.scope scope (ownOf g.N t.vars) := by rw [hN]; exact blkOk_by h2
    have hI := soundI it _ X W S tk v tg iter h1
    have hs : ∀ y, foldedSetIterable iter X.env y = pure y := chkI_plain h1 X.env
    refine PE.frz (PE.imp (pe_lc (g := tgG X.K t) S.calm S.nd hI ok (fun s H C cl fp => tg_ok (X := X.blk s H scope (compEnvC scope cl C X.env) fp) S.nd S.calm locB_blk t tg (by show chkT X.N scope t tg = true; rw [hN]; exact h3))
      (fun s H C cl fp => PTs.ex fun v' => soundC d _ _ W0 (S.blk scope s H C cl fp) LamX.takes0 v' ifs h4) (fun s H C cl fp => PE.ex fun v' => soundE e _ _ W0 (S.blk scope s H C cl fp) LamX.takes0 v' elt h5) hs) fun σ H Q q => ?_)
    rw [ownOf_snd, show X.K = c.K from S.hK]
    exact lc_parts q
  | .comp2 e t it d t2 it2 d2, g, X, W, S, tk, v, x, h => by
    obtain ⟨⟨elt, tg, iter, ifs, tg2, iter2, ifs2, scope⟩, hy, h⟩ := optB_ok h
    obtain ⟨pos, rfl⟩ := asLc2_ok hy
    obtain ⟨h1, ha⟩ := ba3 h
    obtain ⟨h2, hb⟩ := ba3 ha
    obtain ⟨h3, hd⟩ := ba3 hb
    obtain ⟨h4, he⟩ := ba3 hd
    obtain ⟨h5, hf⟩ := ba3 he
    obtain ⟨h6, hg⟩ := ba3 hf
    obtain ⟨h7, h8⟩ := ba3 hg
    have hN := S.hN
    have ok : BlkOk X.N X.env.scope scope (ownOf g.N (t.vars ++ t2.vars)) := by rw [hN]; exact blkOk_by h2
    have hI := soundI it _ X W S tk v tg iter h1
    refine PE.frz (PE.imp (pe_lc2 (g := tgG X.K t) (g1 := tgG X.K t2) (vs1 := t2.vars) S.calm S.nd hI ok (by rw [ownOf_snd]; exact fun i hi => List.mem_append_right _ hi)
      (fun s H C cl fp => tg_ok (X := X.blk s H scope (compEnvC scope cl C X.env) fp) S.nd S.calm locB_blk t tg (by show chkT X.N scope t tg = true; rw [hN]; exact h3))
      (fun s H C cl fp => PTs.ex fun v' => soundC d _ _ W0 (S.blk scope s H C cl fp) LamX.takes0 v' ifs h5)
      (fun s H C cl fp => PI.ex fun v' => soundI it2 _ _ W0 (S.blk scope s H C cl fp) LamX.takes0 v' tg2 iter2 h6)
      (fun s H C cl fp => tg_ok (X := X.blk s H scope (compEnvC scope cl C X.env) fp) S.nd S.calm locB_blk t2 tg2 (by show chkT X.N scope t2 tg2 = true; rw [hN]; exact h4))
      (fun s H C cl fp => PTs.ex fun v' => soundC d2 _ _ W0 (S.blk scope s H C cl fp) LamX.takes0 v' ifs2 h7)
      (fun s H C cl fp => PE.ex fun v' => soundE e _ _ W0 (S.blk scope s H C cl fp) LamX.takes0 v' elt h8) (chkI_plain h1 X.env) (fun env => chkI_plain h6 env)) fun σ H Q q => ?_)
    rw [ownOf_snd, show X.K = c.K from S.hK]
    exact lc2_parts q
  | .mth m a es, g, X, W, S, tk, v, x, h => by
    obtain ⟨⟨b, y, xs⟩, hy, hh⟩ := optB_ok h
    obtain ⟨ap, cp, rfl, hline, hb⟩ := asMth_ok hy
    obtain ⟨h1, ha⟩ := ba3 hh
    obtain ⟨h2, hc⟩ := ba3 ha
    obtain ⟨h3, h4⟩ := ba3 hc
    obtain rfl := beq_iff_eq.mp h1
    have pa := soundE a _ X W S tk v _ h3
    cases m with
    | split =>
      match xs, h2, h4 with
      | [x1], _, h4 =>
        obtain ⟨e1, rfl, g1, g2⟩ := chkEs_1 h4
        exact pe_splitE hline hb pa g1 (soundE e1 _ X W S tk v x1 g2)
    | get =>
      match xs, h2, h4 with
      | [x1, x2], _, h4 =>
        obtain ⟨e1, e2, rfl, g1, g2, g3, g4⟩ := chkEs_2 h4
        exact pe_getE S hline hb pa g1 (soundE e1 _ X W S tk v x1 g2) g3 (soundE e2 _ X W S tk v x2 g4)
    | _ => exact absurd h2 (by cases xs <;> simp [mtArgs])
  | .dzip es, g, X, W, S, tk, v, x, h => by
    obtain ⟨⟨b1, b2⟩, hy, hh⟩ := optB_ok h
    obtain ⟨_, _, _, _, rfl⟩ := asDzip_ok hy
    obtain ⟨h1, ha⟩ := ba3 hh
    obtain ⟨h2, hb⟩ := ba3 ha
    obtain ⟨h3, hc⟩ := ba3 hb
    obtain ⟨h4, h5⟩ := ba3 hc
    obtain ⟨g1, _, _, _, g3⟩ := chkEs_cons h5
    exact PE.imp (EvZip.pe_dzip S.calm (gloB_ok h1) (by rw [S.hmg]; exact S.ora.free _ h2) (gloB_ok h3) (by rw [S.hmg]; exact S.ora.free _ h4) (soundEs es _ X W S tk v _ h5) (star_plain g1) (noStars g3)) fun σ H Q q => S.hK ▸ dzip_parts q
  | .fld a cn y, g, X, W, S, tk, v, x, h => by
    obtain ⟨⟨e, y'⟩, hy, hh⟩ := optB_ok h
    obtain ⟨p, rfl, hab⟩ := asAttr_ok hy
    obtain ⟨h1, ha⟩ := ba3 hh
    obtain ⟨h2, h3⟩ := ba3 ha
    obtain rfl := beq_iff_eq.mp h1
    exact pe_fldE S (soundE a _ X W S tk v _ h3) h2 (hab X.env)
  | .prop a cn y, g, X, W, S, tk, v, x, h => by
    obtain ⟨⟨e, y'⟩, hy, hh⟩ := optB_ok h
    obtain ⟨p, rfl, hab⟩ := asAttr_ok hy
    obtain ⟨h1, ha⟩ := ba3 hh
    obtain ⟨h2, h3⟩ := ba3 ha
    obtain rfl := beq_iff_eq.mp h1
    exact pe_propE S (soundE a _ X W S tk v _ h3) h2 (hab X.env)
  | .mk cn es, g, X, W, S, tk, v, x, h => by
    obtain ⟨⟨y, y2, l⟩, hy, hh⟩ := optB_ok h
    obtain ⟨_, _, rfl⟩ := asCall_ok hy
    obtain ⟨h1, ha⟩ := ba3 hh
    obtain ⟨h2, hb⟩ := ba3 ha
    obtain ⟨h3, hc⟩ := ba3 hb
    obtain ⟨h4, h6⟩ := ba3 hc
    obtain rfl := beq_iff_eq.mp h1
    obtain ⟨g1, e, r, _, g3⟩ := chkEs_cons h6
    exact pe_mkE S tk h2 h3 h4 (soundEs es _ X W S tk v _ h6) (star_plain g1) (noStars g3)
  | .isc a cn, g, X, W, S, tk, v, x, h => by
    obtain ⟨⟨e, z⟩, hy, hh⟩ := optB_ok h
    obtain ⟨_, _, _, rfl⟩ := asIsc_ok hy
    obtain ⟨h1, ha⟩ := ba3 hh
    obtain ⟨h2, hb⟩ := ba3 ha
    obtain ⟨h3, hc⟩ := ba3 hb
    obtain ⟨h4, hd⟩ := ba3 hc
    obtain ⟨h5, he⟩ := ba3 hd
    obtain ⟨h6, hf⟩ := ba3 he
    obtain ⟨h7, h8⟩ := ba3 hf
    obtain rfl := beq_iff_eq.mp h1
    exact pe_isc S h2 h3 h4 h5 h6 h7 (soundE a _ X W S tk v _ h8)
  | .calll f es n b fv ex, g, X, W, S, tk, v, x, h => by
    obtain ⟨⟨y, xs, params, body, scope⟩, hy, hh⟩ := optB_ok h
    obtain ⟨_, _, _, rfl⟩ := asCallL_ok hy
    obtain ⟨h1, ha⟩ := ba3 hh
    obtain ⟨h2, hb⟩ := ba3 ha
    obtain ⟨h3, hc⟩ := ba3 hb
    obtain ⟨h4, hd⟩ := ba3 hc
    obtain ⟨h5, he⟩ := ba3 hd
    obtain ⟨h6, hf⟩ := ba3 he
    obtain ⟨h7, hg⟩ := ba3 hf
    obtain ⟨h8, h9⟩ := ba3 hg
    obtain rfl := beq_iff_eq.mp h1
    exact pe_calll S tk h2 h3 h4 (soundL es _ X W S tk v xs h5) (chkEs_plain h5) h6 h7 h8 h9
theorem soundO : ∀ (e : Eo) (g : Gx) (X : Cx) (W : WX) (S : Sx c g o k X) (tk : Takes X W) (v : Vw) (x : Option Expr), chkO g X.env.scope e x = true → PO X x (tMO c W v (evO o e v))
  | .no, g, X, W, S, tk, v, none, _ => ⟨fun pins s σ H Q I ⟨z, w, _, q⟩ => po_none.run pins s σ H Q I (q _ _ w (.refl _ _))⟩
  | .so e, g, X, W, S, tk, v, some x, h => by
    refine ⟨fun pins s σ H Q I q => (po_some (soundE e _ X W S tk v x h)).run pins s σ H Q I ?_⟩
    obtain ⟨z, w, vo, q⟩ := q
    refine ⟨z, w, vo, (evE o e v).mono (fun d p x H1 z1 w1 e1 r1 => ?_) (fun _ p => p) q⟩
    cases d <;> first | exact p.elim | skip
    exact ⟨_, r1.int_inv, p _ _ w1 e1⟩
  | .no, g, X, W, S, tk, v, some _, h => by cases h
  | .so _, g, X, W, S, tk, v, none, h => by cases h
theorem soundT : ∀ (e : E) (g : Gx) (X : Cx) (W : WX) (S : Sx c g o k X) (tk : Takes X W) (v : Vw) (x : Expr), noIf x = true → chkE g X.env.scope e x = true → PT X x (tMB c W v (M.bind (evE o e v) D.truth))
  | .cmp p a b, g, X, W, S, tk, v, x, hi, h => by
    obtain ⟨⟨l, q, r⟩, hy, h⟩ := optB_ok h
    obtain ⟨_, rfl⟩ := asCmp1_ok hy
    obtain ⟨h1, ha⟩ := ba3 h
    obtain ⟨h2, hb⟩ := ba3 ha
    obtain ⟨h3, h4⟩ := ba3 hb
    obtain rfl := beq_iff_eq.mp h1
    exact PT.imp (pt_cmpR (cmp_ok S.hK (by have := S.room.un; omega) p) (soundE a _ X W S tk v _ h2) (soundE b _ X W S tk v _ h4) (plain_mark h3)) fun σ H Q q => cmp_test q
  | .cm2 p p' a b d, g, X, W, S, tk, v, x, hi, h => by
    obtain ⟨⟨l, q, r, q', t⟩, hy, h⟩ := optB_ok h
    obtain ⟨_, rfl⟩ := asCmp2_ok hy
    obtain ⟨h1, ha⟩ := ba3 h
    obtain ⟨h2, hb⟩ := ba3 ha
    obtain ⟨h3, hd⟩ := ba3 hb
    obtain ⟨h4, he⟩ := ba3 hd
    obtain ⟨h5, h6⟩ := ba3 he
    obtain rfl := beq_iff_eq.mp h1
    obtain rfl := beq_iff_eq.mp h2
    have hu : X.A.units + 70 < cLine := by have := S.room.un; omega
    exact PT.imp (pt_chain (cmp_ok S.hK hu p) (cmp_ok S.hK hu p') (soundE a _ X W S tk v _ h3) (soundE b _ X W S tk v _ h4) (soundE d _ X W S tk v _ h6) (plain_mark h5)) fun σ H Q q => chain_test q
  | .and a b, g, X, W, S, tk, v, x, hi, h => by
    obtain ⟨⟨q, y, y2⟩, hy, hh⟩ := optB_ok h
    obtain ⟨y1, l, p, rfl, hr⟩ := asBool_ok hy
    obtain ⟨h1, ha⟩ := ba3 hh
    obtain ⟨h2, hb⟩ := ba3 ha
    obtain ⟨h3, hd⟩ := ba3 hb
    obtain ⟨h4, h5⟩ := ba3 hd
    obtain rfl := beq_iff_eq.mp h1
    have hp := soundT b _ X W S tk v _ h4 h5
    have hq : PW X (.BoolOp .And (y1 :: l) p) (tMB c W v (M.bind (evE o b v) D.truth)) := by
      rcases hr with ⟨rfl, rfl⟩ | ⟨_, rfl⟩
      · exact pw_and1 hp
      · exact ⟨fun _ => hp.run⟩
    exact PT.imp (PW.pt (pw_and (soundT a _ X W S tk v _ h2 h3) hq)) fun σ H Q q => and_part q
  | .or a b, g, X, W, S, tk, v, x, hi, h => by
    obtain ⟨⟨q, y, y2⟩, hy, hh⟩ := optB_ok h
    obtain ⟨y1, l, p, rfl, hr⟩ := asBool_ok hy
    obtain ⟨h1, ha⟩ := ba3 hh
    obtain ⟨h2, hb⟩ := ba3 ha
    obtain ⟨h3, hd⟩ := ba3 hb
    obtain ⟨h4, h5⟩ := ba3 hd
    obtain rfl := beq_iff_eq.mp h1
    have hp := soundT b _ X W S tk v _ h4 h5
    have hq : PW X (.BoolOp .Or (y1 :: l) p) (tMB c W v (M.bind (evE o b v) D.truth)) := by
      rcases hr with ⟨rfl, rfl⟩ | ⟨_, rfl⟩
      · exact pw_or1 hp
      · exact ⟨fun _ => hp.run⟩
    exact PT.imp (PW.pt (pw_or (soundT a _ X W S tk v _ h2 h3) hq)) fun σ H Q q => or_part q
  | .not a, g, X, W, S, tk, v, x, hi, h => by
    obtain ⟨⟨q, e⟩, hy, h⟩ := optB_ok h
    obtain ⟨_, rfl⟩ := asUn_ok hy
    obtain ⟨h1, ha⟩ := ba3 h
    obtain ⟨h2, h3⟩ := ba3 ha
    obtain rfl := beq_iff_eq.mp h1
    refine PT.imp (pt_not (soundT a _ X W S tk v _ h2 h3)) fun σ H Q q => ?_
    obtain ⟨z, w, vo, q⟩ := q
    exact ⟨z, w, vo, q⟩
  | .var i, g, X, W, S, tk, v, x, hi, h => by
    have hp := soundE (.var i) _ X W S tk v x h
    obtain ⟨y, hy, h⟩ := optB_ok h
    obtain ⟨p, rfl⟩ := asName_ok hy
    exact pt_of_val S.hK hp hi (fun _ _ _ _ e => nomatch e) (fun _ _ _ e => nomatch e) (fun _ _ e => nomatch e)
  | .idx a i, g, X, W, S, tk, v, x, hi, h => by
    have hp := soundE (.idx a i) _ X W S tk v x h
    obtain ⟨⟨y, y2⟩, hy, h⟩ := optB_ok h
    obtain ⟨p, rfl⟩ := asSub_ok hy
    exact pt_of_val S.hK hp hi (fun _ _ _ _ e => nomatch e) (fun _ _ _ e => nomatch e) (fun _ _ e => nomatch e)
  | .call f es, g, X, W, S, tk, v, x, hi, h => by
    have hp := soundE (.call f es) _ X W S tk v x h
    obtain ⟨⟨y, y2, l⟩, hy, h⟩ := optB_ok h
    obtain ⟨_, _, rfl⟩ := asCall_ok hy
    exact pt_of_val S.hK hp hi (fun _ _ _ _ e => nomatch e) (fun _ _ _ e => nomatch e) (fun _ _ e => nomatch e)
  | .call0 f, g, X, W, S, tk, v, x, hi, h => by
    have hp := soundE (.call0 f) _ X W S tk v x h
    obtain ⟨y, hy, h⟩ := optB_ok h
    obtain ⟨_, _, rfl⟩ := asCall0_ok hy
    exact pt_of_val S.hK hp hi (fun _ _ _ _ e => nomatch e) (fun _ _ _ e => nomatch e) (fun _ _ e => nomatch e)
  | .callk f es ks kes pm, g, X, W, S, tk, v, x, hi, h => by
    have hp := soundE (.callk f es ks kes pm) _ X W S tk v x h
    obtain ⟨⟨y, l, kws⟩, hy, h⟩ := optB_ok h
    obtain ⟨_, _, rfl⟩ := asCallK_ok hy
    exact pt_of_val S.hK hp hi (fun _ _ _ _ e => nomatch e) (fun _ _ _ e => nomatch e) (fun _ _ e => nomatch e)
  | .blt b es, g, X, W, S, tk, v, x, hi, h => by
    have hp := soundE (.blt b es) _ X W S tk v x h
    obtain ⟨⟨y, y2, l⟩, hy, h⟩ := optB_ok h
    obtain ⟨_, _, rfl⟩ := asCall_ok hy
    exact pt_of_val S.hK hp hi (fun _ _ _ _ e => nomatch e) (fun _ _ _ e => nomatch e) (fun _ _ e => nomatch e)
  | .cst d, g, X, W, S, tk, v, x, hi, h => by
    have hp := soundE (.cst d) _ X W S tk v x h
    obtain ⟨y, hy, h⟩ := optB_ok h
    obtain ⟨_, _, rfl⟩ := asConst_ok hy
    exact pt_of_val S.hK hp hi (fun _ _ _ _ e => nomatch e) (fun _ _ _ e => nomatch e) (fun _ _ e => nomatch e)
  | .glb f, g, X, W, S, tk, v, x, hi, h => by
    have hp := soundE (.glb f) _ X W S tk v x h
    obtain ⟨y, hy, h⟩ := optB_ok h
    obtain ⟨p, rfl⟩ := asName_ok hy
    exact pt_of_val S.hK hp hi (fun _ _ _ _ e => nomatch e) (fun _ _ _ e => nomatch e) (fun _ _ e => nomatch e)
  | .bty f n, g, X, W, S, tk, v, x, hi, h => by
    have hp := soundE (.bty f n) _ X W S tk v x h
    obtain ⟨y, hy, h⟩ := optB_ok h
    obtain ⟨p, rfl⟩ := asName_ok hy
    exact pt_of_val S.hK hp hi (fun _ _ _ _ e => nomatch e) (fun _ _ _ e => nomatch e) (fun _ _ e => nomatch e)
  | .bop p a b, g, X, W, S, tk, v, x, hi, h => by
    have hp := soundE (.bop p a b) _ X W S tk v x h
    obtain ⟨⟨l, q, r⟩, hy, h⟩ := optB_ok h
    obtain ⟨_, rfl⟩ := asBin_ok hy
    exact pt_of_val S.hK hp hi (fun _ _ _ _ e => nomatch e) (fun _ _ _ e => nomatch e) (fun _ _ e => nomatch e)
  | .neg a, g, X, W, S, tk, v, x, hi, h => by
    have hp := soundE (.neg a) _ X W S tk v x h
    obtain ⟨⟨q, e⟩, hy, h⟩ := optB_ok h
    obtain ⟨_, rfl⟩ := asUn_ok hy
    obtain ⟨h1, h2⟩ := ba3 h
    obtain rfl := beq_iff_eq.mp h1
    exact pt_of_val S.hK hp hi (fun _ _ _ _ e => nomatch e) (fun _ _ _ e => nomatch e) (fun _ _ e => nomatch e)
  | .ite d a b, g, X, W, S, tk, v, x, hi, h => by
    obtain ⟨⟨t, y, y2⟩, hy, h⟩ := optB_ok h
    obtain ⟨_, rfl⟩ := asIf_ok hy
    cases hi
  | .tup es, g, X, W, S, tk, v, x, hi, h => by
    have hp := soundE (.tup es) _ X W S tk v x h
    obtain ⟨l, hy, h⟩ := optB_ok h
    obtain ⟨_, _, rfl⟩ := asTup_ok hy
    exact pt_of_val S.hK hp hi (fun _ _ _ _ e => nomatch e) (fun _ _ _ e => nomatch e) (fun _ _ e => nomatch e)
  | .lst es, g, X, W, S, tk, v, x, hi, h => by
    have hp := soundE (.lst es) _ X W S tk v x h
    obtain ⟨l, hy, h⟩ := optB_ok h
    obtain ⟨_, rfl⟩ := asLst_ok hy
    exact pt_of_val S.hK hp hi (fun _ _ _ _ e => nomatch e) (fun _ _ _ e => nomatch e) (fun _ _ e => nomatch e)
  | .lrng es, g, X, W, S, tk, v, x, hi, h => by
    have hp := soundE (.lrng es) _ X W S tk v x h
    obtain ⟨⟨y, a, l⟩, hy, hh⟩ := optB_ok h
    obtain ⟨p1, p2, rfl⟩ := asCall_ok hy
    exact pt_of_val S.hK hp hi (fun _ _ _ _ e => nomatch e) (fun _ _ _ e => nomatch e) (fun _ _ e => nomatch e)
  | .hnew es, g, X, W, S, tk, v, x, hi, h => by
    have hp := soundE (.hnew es) _ X W S tk v x h
    obtain ⟨l, hy, h⟩ := optB_ok h
    obtain ⟨_, rfl⟩ := asLst_ok hy
    exact pt_of_val S.hK hp hi (fun _ _ _ _ e => nomatch e) (fun _ _ _ e => nomatch e) (fun _ _ e => nomatch e)
  | .sl a lo hh, g, X, W, S, tk, v, x, hi, h => by
    have hp := soundE (.sl a lo hh) _ X W S tk v x h
    obtain ⟨⟨y, y2⟩, hy, h⟩ := optB_ok h
    obtain ⟨p, rfl⟩ := asSub_ok hy
    exact pt_of_val S.hK hp hi (fun _ _ _ _ e => nomatch e) (fun _ _ _ e => nomatch e) (fun _ _ e => nomatch e)
  | .callv i es, g, X, W, S, tk, v, x, hi, h => by
    have hp := soundE (.callv i es) _ X W S tk v x h
    cases es with
    | nil =>
      obtain ⟨y, hy, h⟩ := optB_ok (show optB (asCall0 x) (fun y => g.N[i]? == some y && (visB X.env.scope y && okName y)) = true from h)
      obtain ⟨_, _, rfl⟩ := asCall0_ok hy
      exact pt_of_val S.hK hp hi (fun _ _ _ _ e => nomatch e) (fun _ _ _ e => nomatch e) (fun _ _ e => nomatch e)
    | star _ _ => cases h
    | cons e r =>
      obtain ⟨⟨y, y2, l⟩, hy, h⟩ := optB_ok (show optB (asCall x) (fun t => g.N[i]? == some t.1 && (visB X.env.scope t.1 && (okName t.1 && (plainX t.2.1 && (chkE g X.env.scope e t.2.1 && chkEs g X.env.scope r t.2.2))))) = true from h)
      obtain ⟨_, _, rfl⟩ := asCall_ok hy
      exact pt_of_val S.hK hp hi (fun _ _ _ _ e => nomatch e) (fun _ _ _ e => nomatch e) (fun _ _ e => nomatch e)
  | .comp e t it d, g, X, W, S, tk, v, x, hi, h => by
    have hp := soundE (.comp e t it d) _ X W S tk v x h
    obtain ⟨⟨elt, tg, iter, ifs, scope⟩, hy, h⟩ := optB_ok h
    obtain ⟨pos, rfl⟩ := asLc1_ok hy
    exact pt_of_val S.hK hp hi (fun _ _ _ _ e => nomatch e) (fun _ _ _ e => nomatch e) (fun _ _ e => nomatch e)
  | .comp2 e t it d t2 it2 d2, g, X, W, S, tk, v, x, hi, h => by
    have hp := soundE (.comp2 e t it d t2 it2 d2) _ X W S tk v x h
    obtain ⟨⟨elt, tg, iter, ifs, tg2, iter2, ifs2, scope⟩, hy, h⟩ := optB_ok h
    obtain ⟨pos, rfl⟩ := asLc2_ok hy
    exact pt_of_val S.hK hp hi (fun _ _ _ _ e => nomatch e) (fun _ _ _ e => nomatch e) (fun _ _ e => nomatch e)
  | .mth m a es, g, X, W, S, tk, v, x, hi, h => by
    have hp := soundE (.mth m a es) _ X W S tk v x h
    obtain ⟨⟨b, y, xs⟩, hy, hh⟩ := optB_ok h
    obtain ⟨ap, cp, rfl, hline, hb⟩ := asMth_ok hy
    exact pt_of_val S.hK hp hi (fun _ _ _ _ e => nomatch e) (fun _ _ _ e => nomatch e) (fun _ _ e => nomatch e)
  | .dzip es, g, X, W, S, tk, v, x, hi, h => by
    have hp := soundE (.dzip es) _ X W S tk v x h
    obtain ⟨⟨b1, b2⟩, hy, hh⟩ := optB_ok h
    obtain ⟨_, _, _, _, rfl⟩ := asDzip_ok hy
    exact pt_of_val S.hK hp hi (fun _ _ _ _ e => nomatch e) (fun _ _ _ e => nomatch e) (fun _ _ e => nomatch e)
  | .fld a cn y, g, X, W, S, tk, v, x, hi, h => by
    have hp := soundE (.fld a cn y) _ X W S tk v x h
    obtain ⟨⟨e, y'⟩, hy, hh⟩ := optB_ok h
    obtain ⟨p, rfl, hab⟩ := asAttr_ok hy
    exact pt_of_val S.hK hp hi (fun _ _ _ _ e => nomatch e) (fun _ _ _ e => nomatch e) (fun _ _ e => nomatch e)
  | .prop a cn y, g, X, W, S, tk, v, x, hi, h => by
    have hp := soundE (.prop a cn y) _ X W S tk v x h
    obtain ⟨⟨e, y'⟩, hy, hh⟩ := optB_ok h
    obtain ⟨p, rfl, hab⟩ := asAttr_ok hy
    exact pt_of_val S.hK hp hi (fun _ _ _ _ e => nomatch e) (fun _ _ _ e => nomatch e) (fun _ _ e => nomatch e)
  | .mk cn es, g, X, W, S, tk, v, x, hi, h => by
    have hp := soundE (.mk cn es) _ X W S tk v x h
    obtain ⟨⟨y, y2, l⟩, hy, hh⟩ := optB_ok h
    obtain ⟨_, _, rfl⟩ := asCall_ok hy
    exact pt_of_val S.hK hp hi (fun _ _ _ _ e => nomatch e) (fun _ _ _ e => nomatch e) (fun _ _ e => nomatch e)
  | .isc a cn, g, X, W, S, tk, v, x, hi, h => by
    have hp := soundE (.isc a cn) _ X W S tk v x h
    obtain ⟨⟨e, z⟩, hy, hh⟩ := optB_ok h
    obtain ⟨_, _, _, rfl⟩ := asIsc_ok hy
    exact pt_of_val S.hK hp hi (fun _ _ _ _ e => nomatch e) (fun _ _ _ e => nomatch e) (fun _ _ e => nomatch e)
  | .calll f es n b fv ex, g, X, W, S, tk, v, x, hi, h => by
    have hp := soundE (.calll f es n b fv ex) _ X W S tk v x h
    obtain ⟨⟨y, xs, params, body, scope⟩, hy, h⟩ := optB_ok h
    obtain ⟨_, _, _, rfl⟩ := asCallL_ok hy
    exact pt_of_val S.hK hp hi (fun _ _ _ _ e => nomatch e) (fun _ _ _ e => nomatch e) (fun _ _ e => nomatch e)
theorem soundC : ∀ (e : Eo) (g : Gx) (X : Cx) (W : WX) (S : Sx c g o k X) (tk : Takes X W) (v : Vw) (xs : List Expr), chkC g X.env.scope e xs = true → PTs X xs (tMB c W v (evC o e v))
  | .no, g, X, W, S, tk, v, [], _ => PTs.imp pts_nil fun σ H Q ⟨z, w, _, q⟩ => q _ _ w (.refl _ _)
  | .so e, g, X, W, S, tk, v, [x], h => by
    obtain ⟨h1, h2⟩ := ba3 h
    exact pts_one (soundT e _ X W S tk v x h1 h2)
  | .no, g, X, W, S, tk, v, _ :: _, h => by cases h
  | .so _, g, X, W, S, tk, v, [], h => by cases h
  | .so _, g, X, W, S, tk, v, _ :: _ :: _, h => by cases h
theorem soundI : ∀ (it : It) (g : Gx) (X : Cx) (W : WX) (S : Sx c g o k X) (tk : Takes X W) (v : Vw) (tg x : Expr), chkI g X.env.scope it tg x = true → PI X tg x (tMI c W v (evI o it v))
  | .val e, g, X, W, S, tk, v, tg, x, h => by
    obtain ⟨_, h2⟩ := ba3 h
    exact pi_val S.hK (soundE e _ X W S tk v x h2)
  | .rng es, g, X, W, S, tk, v, tg, x, h => by
    obtain ⟨⟨y, a, l⟩, hy, h⟩ := optB_ok h
    obtain ⟨_, _, rfl⟩ := asCall_ok hy
    obtain ⟨h1, ha⟩ := ba3 h
    obtain ⟨h2, hb⟩ := ba3 ha
    obtain ⟨h3, hd⟩ := ba3 hb
    obtain ⟨h4, h5⟩ := ba3 hd
    obtain rfl : y = ("range" : Str) := beq_iff_eq.mp h1
    obtain ⟨g1, e, r, _, g3⟩ := chkEs_cons h4
    have hf : X.mg "range" = none := by rw [S.hmg]; exact S.ora.free _ h3
    match l, h5, h4, g3 with
    | [], _, h4, _ => exact PI.imp (pi_range1 (gloB_ok h2) hf (soundEs es _ X W S tk v _ h4) (star_plain g1)) fun σ H R q => rng_parts (tMI.r q) (evEs_len h4)
    | [b], _, h4, g3 =>
      obtain ⟨g4, _, _, _, _⟩ := chkEs_cons g3
      exact PI.imp (pi_range2 (gloB_ok h2) hf (soundEs es _ X W S tk v _ h4) (by rw [star_plain g1, star_plain g4]; rfl) (star_plain g4)) fun σ H R q => rng_parts2 (tMI.r q) (evEs_len h4)
    | _ :: _ :: _, h5, _, _ => cases h5
  | .enum es, g, X, W, S, tk, v, tg, x, h => by
    obtain ⟨⟨y, a, l⟩, hy, h⟩ := optB_ok h
    obtain ⟨_, _, rfl⟩ := asCall_ok hy
    obtain ⟨h1, ha⟩ := ba3 h
    obtain ⟨h2, hb⟩ := ba3 ha
    obtain ⟨h3, hd⟩ := ba3 hb
    obtain ⟨h4, he⟩ := ba3 hd
    obtain ⟨h5, h6⟩ := ba3 he
    obtain rfl : y = ("enumerate" : Str) := beq_iff_eq.mp h1
    obtain ⟨g1, e, r, _, g3⟩ := chkEs_cons h4
    have hf : X.mg "enumerate" = none := by rw [S.hmg]; exact S.ora.free _ h3
    obtain ⟨els, ht⟩ := Option.isSome_iff_exists.mp h6
    obtain ⟨kk, tp, rfl⟩ := asTup_ok ht
    match l, h5, h4 with
    | [], _, h4 => exact PI.imp (pi_enumA (gloB_ok h2) hf (soundEs es _ X W S tk v _ h4) (star_plain g1)) fun σ H R q => S.hK ▸ enum_parts q
    | _ :: _, h5, _ => cases h5
  | .zip es, g, X, W, S, tk, v, tg, x, h => by
    obtain ⟨⟨y, a, l⟩, hy, h⟩ := optB_ok h
    obtain ⟨_, _, rfl⟩ := asCall_ok hy
    obtain ⟨h1, ha⟩ := ba3 h
    obtain ⟨h2, hb⟩ := ba3 ha
    obtain ⟨h3, hd⟩ := ba3 hb
    obtain ⟨h4, he⟩ := ba3 hd
    obtain ⟨h5, h6⟩ := ba3 he
    obtain rfl : y = ("zip" : Str) := beq_iff_eq.mp h1
    obtain ⟨g1, e, r, _, g3⟩ := chkEs_cons h4
    have hf : X.mg "zip" = none := by rw [S.hmg]; exact S.ora.free _ h3
    obtain ⟨els, ht⟩ := Option.isSome_iff_exists.mp h6
    obtain ⟨kk, tp, rfl⟩ := asTup_ok ht
    match l, h5, h4, g3 with
    | [b], _, h4, g3 => exact PI.imp (EvZip.pi_zipX (gloB_ok h2) hf (soundEs es _ X W S tk v _ h4) (star_plain g1) (noStars g3)) fun σ H R q => S.hK ▸ zip_parts q
    | [], h5, _, _ => cases h5
    | _ :: _ :: _, h5, _, _ => cases h5
theorem soundK : ∀ (es : Es) (g : Gx) (X : Cx) (W : WX) (S : Sx c g o k X) (tk : Takes X W) (v : Vw) (kws : List Keyword), chkEs g X.env.scope es (kws.map (·.value)) = true → PK X kws (tML c W v (evEs o es v))
  | .nil, g, X, W, S, tk, v, [], _ => ⟨fun pos pins s σ H Q I q => pk_nil.run pos pins s σ H Q I (by
    obtain ⟨z, w, _, q⟩ := q
    exact q _ _ _ w (.refl _ _) .nil)⟩
  | .cons e r, g, X, W, S, tk, v, ⟨a, x, p⟩ :: kws, h => by
    obtain ⟨h1, ha⟩ := ba3 h
    obtain ⟨h2, h3⟩ := ba3 ha
    have hc := pk_cons (nm := a) (kpos := p) (soundE e _ X W S tk v x h2) (soundK r _ X W S tk v kws h3)
    exact ⟨fun pos pins s σ H Q I q => hc.run pos pins s σ H Q I (cons_parts q)⟩
  | .nil, g, X, W, S, tk, v, _ :: _, h => by cases h
  | .cons _ _, g, X, W, S, tk, v, [], h => by cases h
  | .star _ _, g, X, W, S, tk, v, [], h => by cases h
  | .star _ _, g, X, W, S, tk, v, _ :: _, h => by cases h
theorem soundEs : ∀ (es : Es) (g : Gx) (X : Cx) (W : WX) (S : Sx c g o k X) (tk : Takes X W) (v : Vw) (xs : List Expr), chkEs g X.env.scope es xs = true → PA X xs (tML c W v (evEs o es v))
  | .nil, g, X, W, S, tk, v, [], _ => PA.imp pa_nil fun σ H Q ⟨z, w, _, q⟩ => q _ _ _ w (.refl _ _) .nil
  | .cons e r, g, X, W, S, tk, v, x :: xs, h => by
    obtain ⟨h1, ha⟩ := ba3 h
    obtain ⟨h2, h3⟩ := ba3 ha
    exact PA.imp (pa_cons (soundE e _ X W S tk v x h2) (soundEs r _ X W S tk v xs h3) (star_plain h1)) fun σ H Q q => cons_parts q
  | .nil, g, X, W, S, tk, v, _ :: _, h => by cases h
  | .cons _ _, g, X, W, S, tk, v, [], h => by cases h
  | .star _ _, g, X, W, S, tk, v, [], h => by cases h
  | .star _ _, g, X, W, S, tk, v, _ :: _, h => by cases h
theorem soundEd : ∀ (es : Es) (g : Gx) (X : Cx) (W : WX) (S : Sx c g o k X) (tk : Takes X W) (v : Vw) (xs : List Expr), chkEd g X.env.scope es xs = true → PA X xs (tML c W v (evEs o es v))
  | .nil, g, X, W, S, tk, v, [], _ => PA.imp pa_nil fun σ H Q ⟨z, w, _, q⟩ => q _ _ _ w (.refl _ _) .nil
  | .cons e r, g, X, W, S, tk, v, x :: xs, h => by
    obtain ⟨h1, ha⟩ := ba3 h
    obtain ⟨h2, h3⟩ := ba3 ha
    exact PA.imp (pa_cons (soundE e _ X W S tk v x h2) (soundEd r _ X W S tk v xs h3) (star_plain h1)) fun σ H Q q => cons_parts q
  | .star e r, g, X, W, S, tk, v, x :: xs, h => by
    obtain ⟨y, hy, hh⟩ := optB_ok h
    obtain ⟨p, rfl⟩ := asStar_ok hy
    obtain ⟨h2, h3⟩ := ba3 hh
    refine PA.imp (StX.pa_star (soundE e _ X W S tk v y h2) (soundEd r _ X W S tk v xs h3)) fun σ H Q q => ?_
    obtain ⟨z, w, vo, q⟩ := q
    refine ⟨z, w, vo, (evE o e v).mono (fun d p x1 H1 z1 w1 e1 r1 => ?_) (fun _ p => p) q⟩
    have key : ∃ ds, (d = .tup ds ∨ d = .lst ds) ∧ D.seq d = ret ds := by
      cases d <;> first | exact p.elim | exact ⟨_, .inl rfl, rfl⟩ | exact ⟨_, .inr rfl, rfl⟩
    obtain ⟨ds, hd, hs⟩ := key
    have p : (M.bind (D.seq d) fun ys => M.bind (evEs o r v) fun xs => ret (ys ++ xs)).w (PoL c z H Q) (Px c z H fun cls dd H' => W cls dd σ H') := p
    rw [hs] at p
    have fin : ∀ (xs : List V), RepL c.K c.mg z1 xs ds → tML c W v (evEs o r v) σ H1 fun ys H2 => Q (xs ++ ys) H2 := fun xs rx =>
      ⟨z1, w1, vo.ext e1, (evEs o r v).mono (fun es p2 ys H2 z2 w2 e2 r2 => p2 _ _ z2 w2 (e1.trans e2) ((rx.mono e2.le).append r2)) (fun _ p => Px.ext e1 p) p⟩
    rcases hd with rfl | rfl
    · obtain ⟨a, vs, rfl, s1, rl⟩ := r1.tup_inv
      exact ⟨a, vs, rfl, .inl (S.hK ▸ w1.sqT s1), fin vs rl⟩
    · obtain ⟨a, vs, rfl, s1, rl⟩ := r1.lst_inv
      exact ⟨a, vs, rfl, .inr (S.hK ▸ w1.sqL s1), fin vs rl⟩
  | .nil, g, X, W, S, tk, v, _ :: _, h => by cases h
  | .cons _ _, g, X, W, S, tk, v, [], h => by cases h
  | .star _ _, g, X, W, S, tk, v, [], h => by cases h
theorem soundL : ∀ (es : Es) (g : Gx) (X : Cx) (W : WX) (S : Sx c g o k X) (tk : Takes X W) (v : Vw) (xs : List Expr), chkEs g X.env.scope es xs = true → PB X xs (tML c W v (evEs o es v))
  | .nil, g, X, W, S, tk, v, [], _ => PB.imp pb_nil fun σ H Q ⟨z, w, _, q⟩ => q _ _ _ w (.refl _ _) .nil
  | .cons e r, g, X, W, S, tk, v, x :: xs, h => by
    obtain ⟨h1, ha⟩ := ba3 h
    obtain ⟨h2, h3⟩ := ba3 ha
    exact PB.imp (pb_cons h1 (soundE e _ X W S tk v x h2) (soundL r _ X W S tk v xs h3)) fun σ H Q q => cons_parts q
  | .nil, g, X, W, S, tk, v, _ :: _, h => by cases h
  | .cons _ _, g, X, W, S, tk, v, [], h => by cases h
  | .star _ _, g, X, W, S, tk, v, [], h => by cases h
  | .star _ _, g, X, W, S, tk, v, _ :: _, h => by cases h
end

/-- a range, wherever -/
theorem soundR {es : Es} {X : Cx} {W : WX} (S : Sx c g o k X) (tk : Takes X W) (v : Vw) {tg x : Expr} (h : chkI g X.env.scope (.rng es) tg x = true) : PI X tg x (tMR c W v (evI o (.rng es) v)) := by
  obtain ⟨⟨y, a, l⟩, hy, h⟩ := optB_ok h
  obtain ⟨_, _, rfl⟩ := asCall_ok hy
  obtain ⟨h1, ha⟩ := ba3 h
  obtain ⟨h2, hb⟩ := ba3 ha
  obtain ⟨h3, hd⟩ := ba3 hb
  obtain ⟨h4, h5⟩ := ba3 hd
  obtain rfl : y = ("range" : Str) := beq_iff_eq.mp h1
  obtain ⟨g1, e, r, _, g3⟩ := chkEs_cons h4
  have hf : X.mg "range" = none := by rw [S.hmg]; exact S.ora.free _ h3
  match l, h5, h4, g3 with
  | [], _, h4, _ => exact PI.imp (pi_range1 (gloB_ok h2) hf (soundEs es _ X W S tk v _ h4) (star_plain g1)) fun σ H R q => rng_parts q (evEs_len h4)
  | [b], _, h4, g3 =>
    obtain ⟨g4, _, _, _, _⟩ := chkEs_cons g3
    exact PI.imp (pi_range2 (gloB_ok h2) hf (soundEs es _ X W S tk v _ h4) (by rw [star_plain g1, star_plain g4]; rfl) (star_plain g4)) fun σ H R q => rng_parts2 q (evEs_len h4)
  | _ :: _ :: _, h5, _, _ => cases h5
/-- what makes a new list -/
def isFr : E → Bool
  | .lst _ => true
  | .comp _ _ _ _ => true
  | .comp2 _ _ _ _ _ _ _ => true
  | .bop .add _ _ => true
  | .bop .mul (.lst _) _ => true
  | .sl _ _ _ => true
  | .blt .list _ => true
  | .lrng _ => true
  | _ => false
theorem soundF {e : E} {X : Cx} {W : WX} (S : Sx c g o k X) (tk : Takes X W) (v : Vw) {x : Expr} (hf : isFr e = true) (h : chkE g X.env.scope e x = true) : PE X x (tF c W v (evF o e v)) := by
  cases e with
  | lst es =>
    obtain ⟨l, hy, h⟩ := optB_ok h
    obtain ⟨_, rfl⟩ := asLst_ok hy
    refine PE.imp (pe_lst (soundEd es _ X W S tk v _ h)) fun σ H Q q => ?_
    obtain ⟨z, w, vo, q⟩ := q
    refine ⟨z, w, vo, (evEs o es v).mono (fun ds p xs H1 z1 w1 x1 r => ?_) (fun _ p => p) q⟩
    refine ⟨by rw [r.length]; exact p.1, fun a ha => p.2 a xs _ z1 (w1.new ha) ((x1).trans ((Ext.refl z1 H1).upd ha)) (.new w1 ha) ?_ r⟩
    cases e : H a with
    | none => rfl
    | some u => exact absurd ha (x1.there a (by rw [e]; simp))
  | lrng es =>
    obtain ⟨⟨y, a, l⟩, hy, hh⟩ := optB_ok h
    obtain ⟨p1, p2, rfl⟩ := asCall_ok hy
    obtain ⟨h1, ha⟩ := ba3 hh
    obtain ⟨h2, hb⟩ := ba3 ha
    obtain ⟨h3, hc⟩ := ba3 hb
    obtain ⟨h4, hd⟩ := ba3 hc
    obtain ⟨⟨y2, a2, l2⟩, hy2, hk⟩ := optB_ok hd
    obtain ⟨p3, p4, e3⟩ := asCall_ok hy2
    have e3 : a = .Call (.Name y2 p3) (a2 :: l2) [] p4 := e3
    subst e3
    obtain ⟨k1, ka⟩ := ba3 hk
    obtain ⟨k2, kb⟩ := ba3 ka
    obtain ⟨k3, kc⟩ := ba3 kb
    obtain ⟨k4, k5⟩ := ba3 kc
    obtain rfl : y = ("list" : Str) := beq_iff_eq.mp h1
    obtain rfl : y2 = ("range" : Str) := beq_iff_eq.mp k1
    have f1 : X.mg "list" = none := by rw [S.hmg]; exact S.ora.free _ h3
    have f2 : X.mg "range" = none := by rw [S.hmg]; exact S.ora.free _ k3
    obtain rfl : l = [] := by cases l with | nil => rfl | cons _ _ => cases h4
    match l2, k4, k5 with
    | _ :: _ :: _, _, k5 => cases k5
    | [], k4, _ =>
      obtain ⟨e1, rfl, g1, g2⟩ := chkEs_1 k4
      exact PE.imp (pe_listRg S.calm (gloB_ok h2) f1 (prg_1 (gloB_ok k2) f2 (soundE e1 _ X W S tk v a2 g2) (star_plain g1))) fun σ H Q q => lrng_parts1 q
    | [b2], k4, _ =>
      obtain ⟨e1, e2, rfl, g1, g2, g3, g4⟩ := chkEs_2 k4
      exact PE.imp (pe_listRg S.calm (gloB_ok h2) f1 (prg_2 (gloB_ok k2) f2 (soundE e1 _ X W S tk v a2 g2) (soundE e2 _ X W S tk v b2 g4) (star_plain g1) (star_plain g3) (by rw [star_plain g3]; rfl))) fun σ H Q q => lrng_parts2 q
  | comp e t it d =>
    obtain ⟨⟨elt, tg, iter, ifs, scope⟩, hy, h⟩ := optB_ok h
    obtain ⟨pos, rfl⟩ := asLc1_ok hy
    obtain ⟨h1, ha⟩ := ba3 h
    obtain ⟨h2, hb⟩ := ba3 ha
    obtain ⟨h3, hd⟩ := ba3 hb
    obtain ⟨h4, h5⟩ := ba3 hd
    have hN := S.hN
    have ok : BlkOk X.N X.env.scope scope (ownOf g.N t.vars) := by rw [hN]; exact blkOk_by h2
    have hI := soundI it _ X W S tk v tg iter h1
    refine PE.imp (pe_lc (g := tgG X.K t) S.calm S.nd hI ok (fun s H C cl fp => tg_ok (X := X.blk s H scope (compEnvC scope cl C X.env) fp) S.nd S.calm locB_blk t tg (by show chkT X.N scope t tg = true; rw [hN]; exact h3))
      (fun s H C cl fp => PTs.ex fun v' => soundC d _ _ W0 (S.blk scope s H C cl fp) LamX.takes0 v' ifs h4) (fun s H C cl fp => PE.ex fun v' => soundE e _ _ W0 (S.blk scope s H C cl fp) LamX.takes0 v' elt h5) (chkI_plain h1 X.env)) fun σ H Q q => ?_
    rw [ownOf_snd, show X.K = c.K from S.hK]
    exact lc_parts q
  | comp2 e t it d t2 it2 d2 =>
    obtain ⟨⟨elt, tg, iter, ifs, tg2, iter2, ifs2, scope⟩, hy, h⟩ := optB_ok h
    obtain ⟨pos, rfl⟩ := asLc2_ok hy
    obtain ⟨h1, ha⟩ := ba3 h
    obtain ⟨h2, hb⟩ := ba3 ha
    obtain ⟨h3, hd⟩ := ba3 hb
    obtain ⟨h4, he⟩ := ba3 hd
    obtain ⟨h5, hf⟩ := ba3 he
    obtain ⟨h6, hg⟩ := ba3 hf
    obtain ⟨h7, h8⟩ := ba3 hg
    have hN := S.hN
    have ok : BlkOk X.N X.env.scope scope (ownOf g.N (t.vars ++ t2.vars)) := by rw [hN]; exact blkOk_by h2
    have hI := soundI it _ X W S tk v tg iter h1
    refine PE.imp (pe_lc2 (g := tgG X.K t) (g1 := tgG X.K t2) (vs1 := t2.vars) S.calm S.nd hI ok (by rw [ownOf_snd]; exact fun i hi => List.mem_append_right _ hi)
      (fun s H C cl fp => tg_ok (X := X.blk s H scope (compEnvC scope cl C X.env) fp) S.nd S.calm locB_blk t tg (by show chkT X.N scope t tg = true; rw [hN]; exact h3))
      (fun s H C cl fp => PTs.ex fun v' => soundC d _ _ W0 (S.blk scope s H C cl fp) LamX.takes0 v' ifs h5)
      (fun s H C cl fp => PI.ex fun v' => soundI it2 _ _ W0 (S.blk scope s H C cl fp) LamX.takes0 v' tg2 iter2 h6)
      (fun s H C cl fp => tg_ok (X := X.blk s H scope (compEnvC scope cl C X.env) fp) S.nd S.calm locB_blk t2 tg2 (by show chkT X.N scope t2 tg2 = true; rw [hN]; exact h4))
      (fun s H C cl fp => PTs.ex fun v' => soundC d2 _ _ W0 (S.blk scope s H C cl fp) LamX.takes0 v' ifs2 h7)
      (fun s H C cl fp => PE.ex fun v' => soundE e _ _ W0 (S.blk scope s H C cl fp) LamX.takes0 v' elt h8) (chkI_plain h1 X.env) (fun env => chkI_plain h6 env)) fun σ H Q q => ?_
    rw [ownOf_snd, show X.K = c.K from S.hK]
    exact lc2_parts q
  | bop p a b =>
    cases p <;> first | (cases hf; done) | skip
    rotate_left
    · cases a <;> first | (cases hf; done) | skip
      rename_i es
      obtain ⟨⟨l, q, r⟩, hy, h⟩ := optB_ok h
      obtain ⟨_, rfl⟩ := asBin_ok hy
      obtain ⟨h1, ha⟩ := ba3 h
      obtain ⟨h2, h3⟩ := ba3 ha
      obtain rfl := beq_iff_eq.mp h1
      obtain ⟨ls, hy2, h2⟩ := optB_ok h2
      obtain ⟨_, e9⟩ := asLst_ok hy2
      have e9 : l = .List ls _ := e9
      subst e9
      refine PE.imp (pe_op op_rep (pe_lst (soundEd es _ X W S tk v _ h2)) (soundE b _ X W S tk v _ h3)) fun σ H Q q => ?_
      obtain ⟨z, w, vo, q⟩ := q
      refine ⟨z, w, vo, (evEs o es v).mono (fun ds p xs H1 z1 w1 x1 r => ?_) (fun _ p => p) q⟩
      obtain ⟨p0, p⟩ := p
      refine ⟨by rw [r.length]; exact p0, fun a ha => ?_⟩
      have w1' := w1.new (vs := xs) ha
      have x1' : Ext z H z1 (upd H1 a (.lst xs)) := x1.trans ((Ext.refl z1 H1).upd ha)
      have ow : Ow z1 (upd H1 a (.lst xs)) a xs := .new w1 ha
      refine ⟨z1, w1', vo.ext x1', (evE o b v).mono (fun d p2 y H2 z2 w2 x2 r2 => ?_) (fun _ p => Px.ext x1' p) p⟩
      cases d <;> first | exact p2.elim | skip
      rename_i kk
      obtain ⟨⟨c1, c2, c3⟩, p2⟩ := p2
      have ow2 := ow.ext x2
      have hsl : (1000000 : Nat) ≤ sizeLine := by decide
      refine ⟨a, _, xs, rfl, r2.int_inv, ow2.at_, by omega, by omega, ?_, fun p hp => ?_⟩
      · have a1 : xs.length * kk.toNat ≤ 1000 * 1000 := Nat.mul_le_mul (by rw [r.length]; exact c3) (by omega)
        omega
      · refine p2 p _ _ z2 (w2.new hp) ((x1'.trans x2).trans ((Ext.refl z2 H2).upd hp)) (.new w2 hp) ?_ ((r.mono x2.le).rep _)
        cases e : H p with
        | none => rfl
        | some u => exact absurd hp ((x1'.trans x2).there p (by rw [e]; simp))
    obtain ⟨⟨l, q, r⟩, hy, h⟩ := optB_ok h
    obtain ⟨_, rfl⟩ := asBin_ok hy
    obtain ⟨h1, ha⟩ := ba3 h
    obtain ⟨h2, h3⟩ := ba3 ha
    obtain rfl := beq_iff_eq.mp h1
    refine PE.imp (pe_op op_catL (soundE a _ X W S tk v _ h2) (soundE b _ X W S tk v _ h3)) fun σ H Q q => ?_
    obtain ⟨z, w, vo, q⟩ := q
    refine ⟨z, w, vo, (evE o a v).mono (fun d1 p1 x1 H1 z1 w1 e1 r1 => ?_) (fun _ p => p) q⟩
    refine ⟨z1, w1, vo.ext e1, (evE o b v).mono (fun d2 p2 x2 H2 z2 w2 e2 r2 => ?_) (fun _ p => Px.ext e1 p) p1⟩
    cases d1 <;> cases d2 <;> first | exact p2.elim | skip
    obtain ⟨a1, vs, rfl, s1, q1⟩ := r1.lst_inv
    obtain ⟨b1, ws, rfl, s2, q2⟩ := r2.lst_inv
    refine ⟨a1, b1, vs, ws, rfl, rfl, S.hK ▸ w2.sqL (sqL_mono e2.le.f s1), S.hK ▸ w2.sqL s2, by rw [q1.length, q2.length]; exact p2.1, fun p hp => ?_⟩
    refine p2.2 p _ _ z2 (w2.new hp) ((e1.trans e2).trans ((Ext.refl z2 H2).upd hp)) (.new w2 hp) ?_ ((q1.mono e2.le).append q2)
    cases e : H p with
    | none => rfl
    | some u => exact absurd hp ((e1.trans e2).there p (by rw [e]; simp))
  | sl a lo hi =>
    obtain ⟨⟨y, y2⟩, hy, hq⟩ := optB_ok h
    obtain ⟨_, rfl⟩ := asSub_ok hy
    obtain ⟨⟨l, hh⟩, hy2, hr⟩ := optB_ok hq
    obtain ⟨_, rfl⟩ := asSlice_ok hy2
    obtain ⟨h1, ha⟩ := ba3 hr
    obtain ⟨h2, h3⟩ := ba3 ha
    refine PE.imp (pe_slice sl_list (soundE a _ X W S tk v _ h1) (soundO lo _ X W S tk v _ h2) (soundO hi _ X W S tk v _ h3)) fun σ H Q q => ?_
    obtain ⟨z, w, vo, q⟩ := q
    refine ⟨z, w, vo, (evE o a v).mono (fun d1 p1 x1 H1 z1 w1 e1 r1 => ?_) (fun _ p => p) q⟩
    refine ⟨z1, w1, vo.ext e1, (evO o lo v).mono (fun o2 p2 H2 z2 w2 e2 => ?_) (fun _ p => Px.ext e1 p) p1⟩
    refine ⟨z2, w2, vo.ext (e1.trans e2), (evO o hi v).mono (fun o3 p3 H3 z3 w3 e3 => ?_) (fun _ p => Px.ext (e1.trans e2) p) p2⟩
    cases d1 <;> first | exact p3.elim | skip
    obtain ⟨a1, vs, rfl, s1, q1⟩ := r1.lst_inv
    have x13 := e2.trans e3
    refine ⟨a1, vs, rfl, S.hK ▸ w3.sqL (sqL_mono x13.le.f s1), fun p hp => ?_⟩
    refine p3 p _ _ z3 (w3.new hp) ((e1.trans x13).trans ((Ext.refl z3 H3).upd hp)) (.new w3 hp) ?_ (cut_rep _ _ (q1.mono x13.le))
    cases e : H p with
    | none => rfl
    | some u => exact absurd hp ((e1.trans x13).there p (by rw [e]; simp))
  | blt b es =>
    cases b <;> first | (cases hf; done) | skip
    obtain ⟨⟨y, y2, l⟩, hy, h⟩ := optB_ok h
    obtain ⟨_, _, rfl⟩ := asCall_ok hy
    obtain ⟨h1, ha⟩ := ba3 h
    obtain ⟨h2, hb⟩ := ba3 ha
    obtain ⟨h3, hd⟩ := ba3 hb
    obtain ⟨h4, h6⟩ := ba3 hd
    obtain ⟨g1, e, r, _, g3⟩ := chkEs_cons h6
    refine PE.imp (pe_blt (b := .list) call_list_of (beq_iff_eq.mp h1) (gloB_ok h2) (by rw [S.hmg]; exact S.ora.free _ h4) (soundEs es _ X W S tk v _ h6) h3 (star_plain g1) (noStars g3)) fun σ H Q q => ?_
    obtain ⟨z, w, vo, q⟩ := q
    refine ⟨z, w, vo, (evEs o es v).mono (fun ds p xs H1 z1 w1 x1 r => ?_) (fun _ p => p) q⟩
    have fin : ∀ (vs : List V) (ds : List D), RepL c.K c.mg z1 vs ds → (∀ p vs H' z', Wf c z' H' → Ext z H z' H' → Ow z' H' p vs → H p = none → RepL c.K c.mg z' vs ds → Q (.ref p) H') → ∀ l, H1 l = none → Q (.ref l) (upd H1 l (.lst vs)) := fun vs ds r p l hl => by
      refine p l _ _ z1 (w1.new hl) (x1.trans ((Ext.refl z1 H1).upd hl)) (.new w1 hl) ?_ r
      cases e : H l with
      | none => rfl
      | some u => exact absurd hl (x1.there l (by rw [e]; simp))
    match ds with
    | [] => exact p.elim
    | d :: _ :: _ => cases d <;> exact p.elim
    | [d] =>
      obtain ⟨x, rfl, rd⟩ := r.one_inv
      cases d <;> first | exact p.elim | skip
      · obtain ⟨a, vs, rfl, s1, r1⟩ := rd.tup_inv
        exact ⟨a, vs, rfl, .inr (S.hK ▸ w1.sqT s1), fin vs _ r1 p⟩
      · obtain ⟨a, vs, rfl, s1, r1⟩ := rd.lst_inv
        exact ⟨a, vs, rfl, .inl (S.hK ▸ w1.sqL s1), fin vs _ r1 p⟩
  | _ => cases hf
end
end Ev
set_option Elab.async false
set_option linter.all false
set_option maxRecDepth 100000
set_option maxHeartbeats 4000000
/-! Ev, part R: what a def's slots hold between its statements. -/
namespace Ev
open PySem PySem.Spec PyProof.Rows L2
open Classical
section
/-- the slots: values that do not change; lists of its own, each by itself -/
structure SOk (c : Cn) (H0 : Hp) (z : Fz) (H : Hp) (σ : L2.St) (ρ : En) : Prop where
  len : ρ.length = σ.length
  val : ∀ (i : Nat) (d : D), ρ[i]? = some (.val d) → ∃ x, σ[i]? = some (some x) ∧ Rep c.K c.mg z x d
  own : ∀ (i : Nat) (xs : List D), ρ[i]? = some (.own xs) → ∃ p vs, σ[i]? = some (some (.ref p)) ∧ Ow z H p vs ∧ H0 p = none ∧ RepL c.K c.mg z vs xs
  sep : ∀ (i j : Nat) (xs ys : List D) (p : Addr), ρ[i]? = some (.own xs) → ρ[j]? = some (.own ys) → σ[i]? = some (some (.ref p)) → σ[j]? = some (some (.ref p)) → i = j
/-- ρ1 is ρ, its own lists at these slots not changed any more -/
def FrzTo (is : List Nat) (n : Nat) (ρ ρ1 : En) : Prop := ρ1.length = ρ.length ∧ (∀ (i : Nat) (xs : List D), ρ1[i]? = some (.own xs) → ρ[i]? = some (.own xs) ∧ ¬ (i ∈ is ∧ i < n)) ∧
  ∀ (i : Nat) (d : D), ρ1[i]? = some (.val d) → ρ[i]? = some (.val d) ∨ ∃ xs, d = .lst xs ∧ ρ[i]? = some (.own xs) ∧ i ∈ is ∧ i < n
def FzAt (is : List Nat) (n : Nat) (ρ : En) (σ : L2.St) (b : Addr) : Prop := ∃ (i : Nat) (xs : List D), i ∈ is ∧ i < n ∧ ρ[i]? = some (.own xs) ∧ σ[i]? = some (some (.ref b))
noncomputable def frzZ (is : List Nat) (n : Nat) (ρ : En) (σ : L2.St) (z : Fz) (H : Hp) : Fz := { z with F := fun b => if FzAt is n ρ σ b then H b else z.F b }
theorem vw_len (is : List Nat) : ∀ (ρ : En) (k : Nat), (vw is k ρ).length = ρ.length
  | [], _ => rfl
  | .no :: r, k => by show (vw is (k + 1) r).length + 1 = _; rw [vw_len is r]; rfl
  | .val _ :: r, k => by show (vw is (k + 1) r).length + 1 = _; rw [vw_len is r]; rfl
  | .own _ :: r, k => by show (vw is (k + 1) r).length + 1 = _; rw [vw_len is r]; rfl
theorem vw_at (is : List Nat) : ∀ (ρ : En) (k i : Nat) (d : D), (vw is k ρ)[i]? = some (some d) → ρ[i]? = some (.val d) ∨ ∃ xs, d = .lst xs ∧ ρ[i]? = some (.own xs) ∧ k + i ∈ is
  | [], _, _, _, h => by simp [vw] at h
  | s :: r, k, 0, d, h => by
    cases s with
    | no => simp [vw] at h
    | val e => simp [vw] at h; subst h; exact .inl rfl
    | own xs =>
      simp only [vw, List.getElem?_cons_zero] at h
      by_cases hk : is.contains k = true
      · rw [if_pos hk] at h
        simp at h
        exact .inr ⟨xs, h.symm, rfl, by simpa using hk⟩
      · rw [if_neg hk] at h; simp at h
  | s :: r, k, i + 1, d, h => by
    have h' : (vw is (k + 1) r)[i]? = some (some d) := by cases s <;> simpa [vw] using h
    rcases vw_at is r (k + 1) i d h' with e | ⟨xs, e1, e2, e3⟩
    · exact .inl (by simpa using e)
    · exact .inr ⟨xs, e1, by simpa using e2, by rw [show k + (i + 1) = k + 1 + i by omega]; exact e3⟩
theorem frz_len (is : List Nat) : ∀ (ρ : En) (k : Nat), (frz is k ρ).length = ρ.length
  | [], _ => rfl
  | .no :: r, k => by show (frz is (k + 1) r).length + 1 = _; rw [frz_len is r]; rfl
  | .val _ :: r, k => by show (frz is (k + 1) r).length + 1 = _; rw [frz_len is r]; rfl
  | .own _ :: r, k => by show (frz is (k + 1) r).length + 1 = _; rw [frz_len is r]; rfl
theorem frz_at (is : List Nat) : ∀ (ρ : En) (k i : Nat), (∀ xs, (frz is k ρ)[i]? = some (.own xs) → ρ[i]? = some (.own xs) ∧ k + i ∉ is) ∧ (∀ d, (frz is k ρ)[i]? = some (.val d) → ρ[i]? = some (.val d) ∨ ∃ xs, d = .lst xs ∧ ρ[i]? = some (.own xs) ∧ k + i ∈ is)
  | [], _, _ => ⟨fun _ h => by simp [frz] at h, fun _ h => by simp [frz] at h⟩
  | s :: r, k, 0 => by
    cases s with
    | no => exact ⟨fun _ h => by simp [frz] at h, fun _ h => by simp [frz] at h⟩
    | val e => exact ⟨fun _ h => by simp [frz] at h, fun _ h => .inl (by simpa [frz] using h)⟩
    | own xs =>
      by_cases hk : is.contains k = true
      · refine ⟨fun ys h => ?_, fun d h => ?_⟩ <;> simp only [frz, List.getElem?_cons_zero] at h <;> rw [if_pos hk] at h <;> simp at h
        exact .inr ⟨xs, h.symm, rfl, by simpa using hk⟩
      · refine ⟨fun ys h => ?_, fun d h => ?_⟩ <;> simp only [frz, List.getElem?_cons_zero] at h <;> rw [if_neg hk] at h <;> simp at h
        subst h
        exact ⟨rfl, by simpa using hk⟩
  | s :: r, k, i + 1 => by
    have ih := frz_at is r (k + 1) i
    have e : (frz is k (s :: r))[i + 1]? = (frz is (k + 1) r)[i]? := by cases s <;> simp [frz]
    rw [e, show k + (i + 1) = k + 1 + i by omega, List.getElem?_cons_succ]
    exact ih
theorem frzTo_of (is : List Nat) (ρ κ : En) : FrzTo is ρ.length (ρ ++ κ) (frz is 0 ρ ++ κ) := by
  refine ⟨by simp [frz_len], fun i xs h => ?_, fun i d h => ?_⟩
  · by_cases hi : i < ρ.length
    · rw [List.getElem?_append_left (by rw [frz_len]; exact hi)] at h
      obtain ⟨h1, h2⟩ := (frz_at is ρ 0 i).1 xs h
      rw [List.getElem?_append_left hi]
      exact ⟨h1, fun q => h2 (by simpa using q.1)⟩
    · rw [List.getElem?_append_right (by rw [frz_len]; omega), frz_len] at h
      rw [List.getElem?_append_right (by omega)]
      exact ⟨h, fun q => hi q.2⟩
  · by_cases hi : i < ρ.length
    · rw [List.getElem?_append_left (by rw [frz_len]; exact hi)] at h
      rw [List.getElem?_append_left hi]
      rcases (frz_at is ρ 0 i).2 d h with h | ⟨xs, h1, h2, h3⟩
      · exact .inl h
      · exact .inr ⟨xs, h1, h2, by simpa using h3, hi⟩
    · rw [List.getElem?_append_right (by rw [frz_len]; omega), frz_len] at h
      rw [List.getElem?_append_right (by omega)]
      exact .inl h
variable {c : Cn} {z0 z z2 : Fz} {H0 H H2 : Hp} {σ : L2.St} {ρ ρ1 : En} {is : List Nat} {n : Nat}
theorem FzAt.ow (so : SOk c H0 z H σ ρ) {b : Addr} (f : FzAt is n ρ σ b) : ∃ vs xs, Ow z H b vs ∧ H0 b = none ∧ RepL c.K c.mg z vs xs := by
  obtain ⟨i, xs, _, _, h1, h2⟩ := f
  obtain ⟨p, vs, e1, e2, e3, e4⟩ := so.own i xs h1
  rw [h2] at e1; cases e1
  exact ⟨vs, xs, e2, e3, e4⟩
theorem frzZ_le (so : SOk c H0 z H σ ρ) : z.Le (frzZ is n ρ σ z H) := ⟨fun b u e => by
  show (if FzAt is n ρ σ b then H b else z.F b) = some u
  rw [if_neg (fun f => by obtain ⟨vs, xs, o, _⟩ := f.ow so; rw [o.nf] at e; cases e)]; exact e, fun _ h => h, fun _ _ _ _ _ h => h, fun _ h => h⟩
theorem frzZ_wf (w : Wf c z H) (so : SOk c H0 z H σ ρ) : Wf c (frzZ is n ρ σ z H) H := by
  refine ⟨fun b u e => ?_, fun a ha => ?_, fun b ps e => ?_, w.ts, w.cl.ext (frzZ_le so) rfl fun _ _ e => e⟩
  · have e : (if FzAt is n ρ σ b then H b else z.F b) = some u := e
    by_cases f : FzAt is n ρ σ b
    · rw [if_pos f] at e; exact e
    · rw [if_neg f] at e; exact w.f b u e
  · refine ⟨(w.hs a ha).1, ?_⟩
    show (if FzAt is n ρ σ a then H a else z.F a) = none
    rw [if_neg (fun f => by obtain ⟨vs, xs, o, _⟩ := f.ow so; exact o.nh ha)]; exact (w.hs a ha).2
  · have e : (if FzAt is n ρ σ b then H b else z.F b) = some (.tbl ps) := e
    by_cases f : FzAt is n ρ σ b
    · rw [if_pos f] at e
      obtain ⟨vs, xs, o, _⟩ := f.ow so
      rw [o.at_] at e; cases e
    · rw [if_neg f] at e; exact w.tb b ps e
theorem frzZ_ext (x : Ext z0 H0 z H) (so : SOk c H0 z H σ ρ) : Ext z0 H0 (frzZ is n ρ σ z H) H where
  keep := x.keep
  there := x.there
  le := x.le.trans (frzZ_le so)
  fn := fun b u e q => by
    have q : (if FzAt is n ρ σ b then H b else z.F b) = some u := q
    rw [if_neg (fun f => by obtain ⟨vs, xs, _, o, _⟩ := f.ow so; exact e o)] at q
    exact x.fn b u e q
  hn := x.hn
  ce := x.ce
  se := x.se
theorem frzZ_at {i : Nat} {xs : List D} {p : Addr} (h1 : i ∈ is) (h2 : i < n) (h3 : ρ[i]? = some (.own xs)) (h4 : σ[i]? = some (some (.ref p))) : (frzZ is n ρ σ z H).F p = H p := by
  show (if FzAt is n ρ σ p then H p else z.F p) = H p
  rw [if_pos ⟨i, xs, h1, h2, h3, h4⟩]
theorem frzZ_lst (so : SOk c H0 z H σ ρ) {i : Nat} {xs : List D} (h1 : i ∈ is) (h2 : i < n) (h3 : ρ[i]? = some (.own xs)) : ∃ x, σ[i]? = some (some x) ∧ Rep c.K c.mg (frzZ is n ρ σ z H) x (.lst xs) := by
  obtain ⟨p, vs, e1, e2, e3, e4⟩ := so.own i xs h3
  exact ⟨_, e1, .lst (SqL.of (by rw [frzZ_at h1 h2 h3 e1]; exact e2.at_)) (e4.mono (frzZ_le so))⟩
/-- what an expression sees -/
theorem frzZ_vok {σ τ : L2.St} {ρ κ : En} (hl : σ.length = ρ.length) (so : SOk c H0 z H (σ ++ τ) (ρ ++ κ)) : VOk c (frzZ is ρ.length (ρ ++ κ) (σ ++ τ) z H) σ (vw is 0 ρ) := by
  refine ⟨by rw [vw_len, hl], fun i d h => ?_⟩
  have hi : i < ρ.length := by
    have := (List.getElem?_eq_some_iff.mp h).1
    rwa [vw_len] at this
  have e1 : (ρ ++ κ)[i]? = ρ[i]? := List.getElem?_append_left hi
  have e2 : (σ ++ τ)[i]? = σ[i]? := List.getElem?_append_left (by rw [hl]; exact hi)
  rcases vw_at is ρ 0 i d h with h | ⟨xs, rfl, h1, h2⟩
  · obtain ⟨x, h1, h2⟩ := so.val i d (by rw [e1]; exact h)
    exact ⟨x, by rw [← e2]; exact h1, h2.mono (frzZ_le so)⟩
  · obtain ⟨x, h3, h4⟩ := frzZ_lst (is := is) (n := ρ.length) so (by simpa using h2) hi (by rw [e1]; exact h1)
    exact ⟨x, by rw [← e2]; exact h3, h4⟩
/-- behind an expression whose value leans on nothing -/
theorem back_flat (w : Wf c z H) (x0 : Ext z0 H0 z H) (so : SOk c H0 z H σ ρ) (w2 : Wf c z2 H2) (x2 : Ext (frzZ is n ρ σ z H) H z2 H2) :
    Wf c { z with hs := z2.hs } H2 ∧ Ext z0 H0 { z with hs := z2.hs } H2 ∧ SOk c H0 { z with hs := z2.hs } H2 σ ρ := by
  have le := (frzZ_le (is := is) (n := n) so).trans x2.le
  have l3 : z.Le { z with hs := z2.hs } := ⟨fun _ _ e => e, le.h, fun _ _ _ _ _ h => h, fun _ h => h⟩
  have x02 := (frzZ_ext (is := is) (n := n) x0 so).trans x2
  have ow : ∀ {p : Addr} {vs : List V}, Ow z H p vs → Ow { z with hs := z2.hs } H2 p vs := fun {p vs} o => ⟨x2.keep p _ o.at_ o.nh (fun _ e => by cases e), o.nf, fun q => by
    rcases x2.hn p q with q | q
    · exact o.nh q
    · rw [o.at_] at q; cases q⟩
  refine ⟨⟨fun b u e => w2.f b u (le.f b u e), fun a ha => ⟨(w2.hs a ha).1, ?_⟩, w.tb, w2.ts, ⟨w.cl.to, w2.cl.co, fun q hq => (w.cl.rp q hq).mono l3, w.cl.no⟩⟩, ⟨x02.keep, x02.there, x0.le.trans l3, x0.fn, x02.hn, x0.ce, x0.se⟩, so.len, fun i d h => ?_, fun i xs h => ?_, so.sep⟩
  · show z.F a = none
    cases e : z.F a with
    | none => rfl
    | some u => have := (w2.hs a ha).2; rw [le.f a u e] at this; cases this
  · obtain ⟨x, h1, h2⟩ := so.val i d h
    exact ⟨x, h1, h2.mono l3⟩
  · obtain ⟨p, vs, e1, e2, e3, e4⟩ := so.own i xs h
    exact ⟨p, vs, e1, ow e2, e3, e4.mono l3⟩
/-- .. the own lists out of sight again -/
noncomputable def outZ (is : List Nat) (n : Nat) (ρ : En) (σ : L2.St) (z : Fz) : Fz := { z with F := fun b => if FzAt is n ρ σ b then none else z.F b }
theorem outZ_le (so : SOk c H0 z H σ ρ) (x2 : Ext (frzZ is n ρ σ z H) H z2 H2) : z.Le (outZ is n ρ σ z2) := by
  have le := (frzZ_le (is := is) (n := n) so).trans x2.le
  refine ⟨fun b u e => ?_, le.h, le.c, le.s⟩
  show (if FzAt is n ρ σ b then none else z2.F b) = some u
  rw [if_neg (fun f => by obtain ⟨vs, xs, o, _⟩ := f.ow so; rw [o.nf] at e; cases e)]
  exact le.f b u e
theorem outZ_rep (so : SOk c H0 z H σ ρ) (x2 : Ext (frzZ is n ρ σ z H) H z2 H2) : (∀ b o, z2.F b = some o → (∀ xs, o ≠ .lst xs) → (outZ is n ρ σ z2).F b = some o) ∧ (∀ b, z2.hs b → (outZ is n ρ σ z2).hs b) ∧ ∀ b, z2.sf b → (outZ is n ρ σ z2).sf b := by
  refine ⟨fun b o e h => ?_, fun _ h => h, fun _ h => h⟩
  show (if FzAt is n ρ σ b then none else z2.F b) = some o
  by_cases f : FzAt is n ρ σ b
  · obtain ⟨vs, xs, ow, _⟩ := f.ow so
    have e1 : (frzZ is n ρ σ z H).F b = some (.lst vs) := by
      show (if FzAt is n ρ σ b then H b else z.F b) = _
      rw [if_pos f]; exact ow.at_
    rw [x2.le.f _ _ e1] at e
    cases e
    exact absurd rfl (h vs)
  · rw [if_neg f]; exact e
/-- behind an expression whose value leans on no list -/
theorem back_nol (w : Wf c z H) (x0 : Ext z0 H0 z H) (so : SOk c H0 z H σ ρ) (w2 : Wf c z2 H2) (x2 : Ext (frzZ is n ρ σ z H) H z2 H2) :
    Wf c (outZ is n ρ σ z2) H2 ∧ Ext z0 H0 (outZ is n ρ σ z2) H2 ∧ SOk c H0 (outZ is n ρ σ z2) H2 σ ρ := by
  have zl := outZ_le so x2
  have x02 := (frzZ_ext (is := is) (n := n) x0 so).trans x2
  have out : ∀ {b o}, (outZ is n ρ σ z2).F b = some o → z2.F b = some o := fun {b o} e => by
    have e : (if FzAt is n ρ σ b then none else z2.F b) = some o := e
    by_cases f : FzAt is n ρ σ b
    · rw [if_pos f] at e; cases e
    · rw [if_neg f] at e; exact e
  refine ⟨⟨fun b u e => w2.f b u (out e), fun a ha => ⟨(w2.hs a ha).1, ?_⟩, fun b ps e => w2.tb b ps (out e), w2.ts, ⟨w2.cl.to, w2.cl.co, fun q hq => (w.cl.rp q hq).mono zl, w2.cl.no⟩⟩,
    ⟨x02.keep, x02.there, x0.le.trans zl, fun b o hb e => x02.fn b o hb (out e), x02.hn, x02.ce, x02.se⟩, so.len, fun i d h => ?_, fun i xs h => ?_, so.sep⟩
  · cases e : (outZ is n ρ σ z2).F a with
    | none => rfl
    | some u => have := (w2.hs a ha).2; rw [out e] at this; cases this
  · obtain ⟨x, h1, h2⟩ := so.val i d h
    exact ⟨x, h1, h2.mono zl⟩
  · obtain ⟨p, vs, e1, e2, e3, e4⟩ := so.own i xs h
    refine ⟨p, vs, e1, ⟨x2.keep p _ e2.at_ e2.nh (fun _ e => by cases e), ?_, fun q => ?_⟩, e3, e4.mono zl⟩
    · show (if FzAt is n ρ σ p then none else z2.F p) = none
      by_cases f : FzAt is n ρ σ p
      · rw [if_pos f]
      · rw [if_neg f]
        cases e : z2.F p with
        | none => rfl
        | some u =>
          have := x2.fn p u (by rw [e2.at_]; simp) e
          have this : (if FzAt is n ρ σ p then H p else z.F p) = some u := this
          rw [if_neg f, e2.nf] at this; cases this
    · rcases x2.hn p q with q | q
      · exact e2.nh q
      · rw [e2.at_] at q; cases q
/-- behind an expression whose value may lean on what it saw -/
theorem back_frz (x0 : Ext z0 H0 z H) (so : SOk c H0 z H σ ρ) (x2 : Ext (frzZ is n ρ σ z H) H z2 H2) (f : FrzTo is n ρ ρ1) : Ext z0 H0 z2 H2 ∧ SOk c H0 z2 H2 σ ρ1 := by
  have le := (frzZ_le (is := is) (n := n) so).trans x2.le
  refine ⟨(frzZ_ext (is := is) (n := n) x0 so).trans x2, by rw [f.1]; exact so.len, fun i d h => ?_, fun i xs h => ?_, fun i j xs ys p h1 h2 h3 h4 => so.sep i j xs ys p (f.2.1 i xs h1).1 (f.2.1 j ys h2).1 h3 h4⟩
  · rcases f.2.2 i d h with h | ⟨xs, rfl, h1, h2, h3⟩
    · obtain ⟨x, h1, h2⟩ := so.val i d h
      exact ⟨x, h1, h2.mono le⟩
    · obtain ⟨x, h4, h5⟩ := frzZ_lst (is := is) (n := n) so h2 h3 h1
      exact ⟨x, h4, h5.mono x2.le⟩
  · obtain ⟨h1, h2⟩ := f.2.1 i xs h
    obtain ⟨p, vs, e1, e2, e3, e4⟩ := so.own i xs h1
    refine ⟨p, vs, e1, Ow.ext (z := frzZ is n ρ σ z H) (H := H) ⟨e2.at_, ?_, e2.nh⟩ x2, e3, e4.mono le⟩
    show (if FzAt is n ρ σ p then H p else z.F p) = none
    rw [if_neg]
    · exact e2.nf
    · rintro ⟨j, ys, g1, g2, g3, g4⟩
      have e := so.sep i j xs ys p h1 g3 e1 g4
      subst e
      exact h2 ⟨g1, g2⟩
theorem RepL.flat {c : Cn} {z z' : Fz} (hh : ∀ b, z.hs b → z'.hs b) (hs : ∀ b, z.sf b → z'.sf b) : ∀ {ds : List D} {vs : List V}, ds.all D.flat = true → RepL c.K c.mg z vs ds → RepL c.K c.mg z' vs ds
  | [], _, _, .nil => .nil
  | d :: ds, _, f, .cons r rs => by
    simp only [List.all_cons, Bool.and_eq_true] at f
    exact .cons (r.flat f.1 hh hs) (RepL.flat hh hs f.2 rs)
end
abbrev WXe (E : XK) : WX := fun cls dd _ H => E cls dd H
section
variable {c : Cn} {z0 z : Fz} {H0 H : Hp} {σ τ : L2.St} {ρ κ : En} {E : XK} {o : Ora}
theorem exE_ok {e : Ev.E} {P : D × En → Prop} (w : Wf c z H) (x0 : Ext z0 H0 z H) (hl : σ.length = ρ.length) (so : SOk c H0 z H (σ ++ τ) (ρ ++ κ)) (q : (exE o e ρ).w P (Px c z0 H0 E)) :
    tM c (WXe E) (vw e.vars 0 ρ) (evE o e (vw e.vars 0 ρ)) σ H fun x H1 => ∃ z1 d ρ1, Wf c z1 H1 ∧ Ext z0 H0 z1 H1 ∧ z.Le z1 ∧ SOk c H0 z1 H1 (σ ++ τ) (ρ1 ++ κ) ∧ ρ1.length = ρ.length ∧ Rep c.K c.mg z1 x d ∧ P (d, ρ1) := by
  refine ⟨frzZ e.vars ρ.length (ρ ++ κ) (σ ++ τ) z H, frzZ_wf w so, frzZ_vok hl so, M.mono _ (fun d p x H2 z2 w2 x2 r2 => ?_) (fun xn p => Px.ext (frzZ_ext x0 so) p) q⟩
  by_cases hf : d.nol = true
  · have p : P (d, if d.nol = true then ρ else frz e.vars 0 ρ) := p
    rw [if_pos hf] at p
    obtain ⟨b1, b2, b3⟩ := back_nol w x0 so w2 x2
    obtain ⟨r3, r4, r5⟩ := outZ_rep so x2
    exact ⟨_, d, ρ, b1, b2, outZ_le so x2, b3, rfl, Rep.nolTo r3 r4 r5 d x hf r2, p⟩
  · have p : P (d, if d.nol = true then ρ else frz e.vars 0 ρ) := p
    rw [if_neg hf] at p
    obtain ⟨b1, b2⟩ := back_frz x0 so x2 (frzTo_of _ ρ κ)
    exact ⟨z2, d, _, w2, b1, (frzZ_le so).trans x2.le, b2, frz_len _ _ _, r2, p⟩
theorem exT_ok {e : Ev.E} {P : Bool → Prop} (w : Wf c z H) (x0 : Ext z0 H0 z H) (so : SOk c H0 z H σ ρ) (q : (exT o e ρ).w P (Px c z0 H0 E)) :
    tMB c (WXe E) (vw e.vars 0 ρ) (M.bind (evE o e (vw e.vars 0 ρ)) D.truth) σ H fun b H1 => ∃ z1, Wf c z1 H1 ∧ Ext z0 H0 z1 H1 ∧ z.Le z1 ∧ SOk c H0 z1 H1 σ ρ ∧ P b := by
  have so' : SOk c H0 z H (σ ++ []) (ρ ++ []) := by simpa using so
  refine ⟨frzZ e.vars ρ.length (ρ ++ []) (σ ++ []) z H, frzZ_wf w so', frzZ_vok so.len.symm so', M.mono _ (fun b p H2 z2 w2 x2 => ?_) (fun xn p => Px.ext (frzZ_ext x0 so') p) q⟩
  obtain ⟨b1, b2, b3⟩ := back_flat w x0 so' w2 x2
  exact ⟨_, b1, b2, ⟨fun _ _ e => e, ((frzZ_le so').trans x2.le).h, fun _ _ _ _ _ h => h, fun _ h => h⟩, by simpa using b3, p⟩
theorem exF_ok {e : Ev.E} {P : List D × En → Prop} (w : Wf c z H) (x0 : Ext z0 H0 z H) (hl : σ.length = ρ.length) (so : SOk c H0 z H (σ ++ τ) (ρ ++ κ)) (q : (exF o e ρ).w P (Px c z0 H0 E)) :
    tF c (WXe E) (vw e.vars 0 ρ) (evF o e (vw e.vars 0 ρ)) σ H fun x H1 => ∃ z1 ds ρ1 p vs, x = .ref p ∧ Wf c z1 H1 ∧ Ext z0 H0 z1 H1 ∧ z.Le z1 ∧ SOk c H0 z1 H1 (σ ++ τ) (ρ1 ++ κ) ∧ ρ1.length = ρ.length ∧ Ow z1 H1 p vs ∧ H p = none ∧ RepL c.K c.mg z1 vs ds ∧ (∀ (j : Nat) (xs : List D), (ρ1 ++ κ)[j]? = some (.own xs) → (σ ++ τ)[j]? ≠ some (some (.ref p))) ∧ P (ds, ρ1) := by
  refine ⟨frzZ e.vars ρ.length (ρ ++ κ) (σ ++ τ) z H, frzZ_wf w so, frzZ_vok hl so, M.mono _ (fun ds pp p vs H2 z2 w2 x2 o2 hp r2 => ?_) (fun xn p => Px.ext (frzZ_ext x0 so) p) q⟩
  by_cases hf : D.nolL ds = true
  · have pp : P (ds, if D.nolL ds = true then ρ else frz e.vars 0 ρ) := pp
    rw [if_pos hf] at pp
    obtain ⟨b1, b2, b3⟩ := back_nol w x0 so w2 x2
    obtain ⟨r3, r4, r5⟩ := outZ_rep so x2
    refine ⟨_, ds, ρ, p, vs, rfl, b1, b2, outZ_le so x2, b3, rfl, ⟨o2.at_, ?_, o2.nh⟩, hp, RepL.nolTo r3 r4 r5 ds vs hf r2, fun j xs hj e => ?_, pp⟩
    · show (if FzAt e.vars ρ.length (ρ ++ κ) (σ ++ τ) p then none else z2.F p) = none
      by_cases f : FzAt e.vars ρ.length (ρ ++ κ) (σ ++ τ) p
      · rw [if_pos f]
      · rw [if_neg f]; exact o2.nf
    · obtain ⟨p', vs', e1, e2, _⟩ := so.own j xs hj
      rw [e] at e1; cases e1
      rw [e2.at_] at hp; cases hp
  · have pp : P (ds, if D.nolL ds = true then ρ else frz e.vars 0 ρ) := pp
    rw [if_neg hf] at pp
    obtain ⟨b1, b2⟩ := back_frz x0 so x2 (frzTo_of _ ρ κ)
    refine ⟨z2, ds, _, p, vs, rfl, w2, b1, (frzZ_le so).trans x2.le, b2, frz_len _ _ _, o2, hp, r2, fun j xs hj e => ?_, pp⟩
    obtain ⟨hj, _⟩ := (frzTo_of _ ρ κ).2.1 j xs hj
    obtain ⟨p', vs', e1, e2, _⟩ := so.own j xs hj
    rw [e] at e1; cases e1
    rw [e2.at_] at hp; cases hp
end
end Ev
set_option Elab.async false
set_option linter.all false
set_option maxRecDepth 100000
set_option maxHeartbeats 4000000
/-! Ev, part S: stores into slots, into own lists, into handles; targets. -/
namespace Ev
open PySem PySem.Spec PyProof.Rows L2

theorem setE_eq : ∀ (ρ : En) (i : Nat) (s : Sl), setE ρ i s = ρ.set i s
  | [], _, _ => rfl
  | _ :: _, 0, _ => rfl
  | x :: r, i + 1, s => by show x :: setE r i s = x :: r.set i s; rw [setE_eq r i s]
theorem set_get {α : Type} {l : List α} {i j : Nat} {x y : α} (h : (l.set i x)[j]? = some y) : (i = j ∧ y = x ∧ i < l.length) ∨ (i ≠ j ∧ l[j]? = some y) := by
  by_cases e : i = j
  · subst e
    by_cases hl : i < l.length
    · rw [List.getElem?_set_self hl] at h; exact .inl ⟨rfl, (Option.some.inj h).symm, hl⟩
    · rw [List.getElem?_eq_none (by simpa using hl)] at h; cases h
  · rw [List.getElem?_set_ne e] at h; exact .inr ⟨e, h⟩
theorem own_w {ρ : En} {i : Nat} {Q : List D → Prop} {R : Xn → Prop} (h : (own? ρ i).w Q R) : ∃ xs, ρ[i]? = some (.own xs) ∧ Q xs := by
  induction ρ generalizing i with
  | nil => exact h.elim
  | cons s r ih =>
    cases i with
    | zero =>
      cases s <;> first | exact h.elim | exact ⟨_, rfl, h⟩
    | succ i =>
      obtain ⟨xs, h1, h2⟩ := ih (i := i) (by cases s <;> exact h)
      exact ⟨xs, by simpa using h1, h2⟩
theorem isHnd_at : ∀ {ρ : En} {i : Nat}, isHnd ρ i = true → ρ[i]? = some (.val .hnd)
  | [], _, h => by cases h
  | s :: r, 0, h => by
    cases s with
    | val d => cases d <;> first | rfl | cases h
    | _ => cases h
  | s :: r, i + 1, h => by
    have h' : isHnd r i = true := by
      cases s with
      | val d => cases d <;> exact h
      | _ => exact h
    simpa using isHnd_at h'
section
variable {c : Cn} {z0 z z' : Fz} {H0 H H' : Hp} {σ : L2.St} {ρ : En} {i : Nat} {p : Addr}
theorem SOk.setV (so : SOk c H0 z H σ ρ) {x : V} {d : D} (r : Rep c.K c.mg z x d) : SOk c H0 z H (σ.set i (some x)) (setE ρ i (.val d)) := by
  rw [setE_eq]
  refine ⟨by simp [so.len], fun j e h => ?_, fun j xs h => ?_, fun j k xs ys q h1 h2 h3 h4 => ?_⟩
  · rcases set_get h with ⟨rfl, h, hl⟩ | ⟨hn, h⟩
    · cases h; exact ⟨x, by rw [List.getElem?_set_self (by rw [← so.len]; exact hl)], r⟩
    · rw [List.getElem?_set_ne hn]; exact so.val j e h
  · rcases set_get h with ⟨rfl, h, hl⟩ | ⟨hn, h⟩
    · cases h
    · rw [List.getElem?_set_ne hn]; exact so.own j xs h
  · rcases set_get h1 with ⟨rfl, h1, _⟩ | ⟨n1, h1⟩
    · cases h1
    · rcases set_get h2 with ⟨rfl, h2, _⟩ | ⟨n2, h2⟩
      · cases h2
      · rw [List.getElem?_set_ne n1] at h3
        rw [List.getElem?_set_ne n2] at h4
        exact so.sep j k xs ys q h1 h2 h3 h4
theorem SOk.setO (so : SOk c H0 z H σ ρ) {vs : List V} {ds : List D} (o : Ow z H p vs) (hp : H0 p = none) (r : RepL c.K c.mg z vs ds) (hn : ∀ (j : Nat) (xs : List D), j ≠ i → ρ[j]? = some (.own xs) → σ[j]? ≠ some (some (.ref p))) :
    SOk c H0 z H (σ.set i (some (.ref p))) (setE ρ i (.own ds)) := by
  rw [setE_eq]
  refine ⟨by simp [so.len], fun j e h => ?_, fun j xs h => ?_, fun j k xs ys q h1 h2 h3 h4 => ?_⟩
  · rcases set_get h with ⟨rfl, h, hl⟩ | ⟨n, h⟩
    · cases h
    · rw [List.getElem?_set_ne n]; exact so.val j e h
  · rcases set_get h with ⟨rfl, h, hl⟩ | ⟨n, h⟩
    · cases h; exact ⟨p, vs, by rw [List.getElem?_set_self (by rw [← so.len]; exact hl)], o, hp, r⟩
    · rw [List.getElem?_set_ne n]; exact so.own j xs h
  · rcases set_get h1 with ⟨e1, h1, l1⟩ | ⟨n1, h1⟩
    · rcases set_get h2 with ⟨e2, h2, _⟩ | ⟨n2, h2⟩
      · exact e1.symm.trans e2
      · subst e1
        rw [List.getElem?_set_self (by rw [← so.len]; exact l1)] at h3
        rw [List.getElem?_set_ne n2] at h4
        cases h3
        exact absurd h4 (hn k ys (Ne.symm n2) h2)
    · rcases set_get h2 with ⟨e2, h2, l2⟩ | ⟨n2, h2⟩
      · subst e2
        rw [List.getElem?_set_self (by rw [← so.len]; exact l2)] at h4
        rw [List.getElem?_set_ne n1] at h3
        cases h4
        exact absurd h3 (hn j xs (Ne.symm n1) h1)
      · rw [List.getElem?_set_ne n1] at h3
        rw [List.getElem?_set_ne n2] at h4
        exact so.sep j k xs ys q h1 h2 h3 h4
/-- the world changed at a place that no other slot holds -/
theorem SOk.upd (so : SOk c H0 z H σ ρ) {vs ws : List V} {xs ys : List D} (hi : ρ[i]? = some (.own xs)) (hσ : σ[i]? = some (some (.ref p))) (o : Ow z H p vs) (hp : H0 p = none) (r : RepL c.K c.mg z ws ys) :
    SOk c H0 z (upd H p (.lst ws)) σ (setE ρ i (.own ys)) := by
  have so1 : SOk c H0 z (L2.upd H p (.lst ws)) σ (ρ.set i .no) := by
    refine ⟨by simp [so.len], fun j e h => ?_, fun j zs h => ?_, fun j k zs zs' q h1 h2 h3 h4 => ?_⟩
    · rcases set_get h with ⟨rfl, h, hl⟩ | ⟨n, h⟩
      · cases h
      · exact so.val j e h
    · rcases set_get h with ⟨rfl, h, hl⟩ | ⟨n, h⟩
      · cases h
      · obtain ⟨q, us, e1, e2, e3, e4⟩ := so.own j zs h
        have ne : q ≠ p := fun e => n (so.sep i j xs zs p hi h hσ (e ▸ e1))
        exact ⟨q, us, e1, ⟨by rw [upd_ne ne]; exact e2.at_, e2.nf, e2.nh⟩, e3, e4⟩
    · rcases set_get h1 with ⟨rfl, h1, _⟩ | ⟨n1, h1⟩
      · cases h1
      · rcases set_get h2 with ⟨rfl, h2, _⟩ | ⟨n2, h2⟩
        · cases h2
        · exact so.sep j k zs zs' q h1 h2 h3 h4
  have e : σ.set i (some (.ref p)) = σ := by
    apply List.ext_getElem?
    intro j
    by_cases hj : i = j
    · subst hj
      rw [List.getElem?_set_self ((List.getElem?_eq_some_iff.mp hσ).1), hσ]
    · rw [List.getElem?_set_ne hj]
  have e2 : setE (ρ.set i .no) i (.own ys) = setE ρ i (.own ys) := by rw [setE_eq, setE_eq, List.set_set]
  have so2 := so1.setO (i := i) (o.upd (ws := ws)) hp r fun j zs hj h h2 => by
    rcases set_get h with ⟨rfl, h, hl⟩ | ⟨n, h⟩
    · cases h
    · exact hj (so.sep j i zs xs p h hi h2 hσ)
  rw [e, e2] at so2
  exact so2
/-- a handle is written -/
theorem hnd_set (w : Wf c z H) (x : Ext z0 H0 z H) (so : SOk c H0 z H σ ρ) (hp : z.hs p) {k : Nat} (hk : k < 3) (n : Int) : ∃ a b d, H p = some (.lst [.int a, .int b, .int d]) ∧ ixN 3 (k : Int) = some k ∧
    Wf c z (upd H p (.lst ([V.int a, .int b, .int d].set k (.int n)))) ∧ Ext z0 H0 z (upd H p (.lst ([V.int a, .int b, .int d].set k (.int n)))) ∧ SOk c H0 z (upd H p (.lst ([V.int a, .int b, .int d].set k (.int n)))) σ ρ := by
  obtain ⟨⟨a, b, d, e⟩, hf⟩ := w.hs p hp
  refine ⟨a, b, d, e, ?_, ⟨fun q u h => ?_, fun q hq => ?_, w.tb, Tabs.upd w.ts e, w.cl.updL e⟩, ⟨fun q u h nh t => ?_, fun q h => ?_, x.le, x.fn, x.hn, x.ce, x.se⟩, so.len, so.val, fun j xs h => ?_, so.sep⟩
  · obtain rfl | rfl | rfl : k = 0 ∨ k = 1 ∨ k = 2 := by omega
    · rfl
    · rfl
    · rfl
  · rw [upd_ne (fun (q' : q = p) => by rw [q', hf] at h; cases h)]; exact w.f q u h
  · by_cases hq2 : q = p
    · subst hq2
      refine ⟨?_, hf⟩
      rw [upd_same]
      obtain rfl | rfl | rfl : k = 0 ∨ k = 1 ∨ k = 2 := by omega
      · exact ⟨n, b, d, rfl⟩
      · exact ⟨a, n, d, rfl⟩
      · exact ⟨a, b, n, rfl⟩
    · rw [upd_ne hq2]; exact w.hs q hq
  · rw [upd_ne (fun (q' : q = p) => by
      subst q'
      rcases x.hn q hp with h1 | h1
      · exact nh h1
      · rw [h1] at h; cases h)]
    exact x.keep q u h nh t
  · by_cases hq2 : q = p
    · subst hq2; rw [upd_same]; simp
    · rw [upd_ne hq2]; exact x.there q h
  · obtain ⟨q, us, e1, e2, e3, e4⟩ := so.own j xs h
    exact ⟨q, us, e1, ⟨by rw [upd_ne (fun (q' : q = p) => e2.nh (q' ▸ hp))]; exact e2.at_, e2.nf, e2.nh⟩, e3, e4⟩
end
/-! ### targets -/
mutual
def tgS (K : PySem.W.Frag) : Tg → TG
  | .nm i => gName i
  | .tp l => gTup K l.length (tgSs K l)
  | .hs i k => gSub (tVar i) (tC (.int k)) rSetL
def tgSs (K : PySem.W.Frag) : List Tg → TGs
  | [] => gNil
  | t :: r => gCons (tgS K t) (tgSs K r)
end
def asHs : Expr → Option (Str × Int)
  | .Subscript (.Name y _) (.Constant (.int n) _ _) _ => some (y, n)
  | _ => none
theorem asHs_ok {x : Expr} {y : Str} {n : Int} (h : asHs x = some (y, n)) : ∃ p j q r, x = .Subscript (.Name y p) (.Constant (.int n) j q) r := by
  unfold asHs at h
  split at h
  · cases h; exact ⟨_, _, _, _, rfl⟩
  · cases h
mutual
def chkTS (N : List Str) (sc : Scope) : Tg → Expr → Bool
  | .nm i, x => optB (asName x) fun y => N[i]? == some y && locB sc y
  | .tp l, x => optB (asTup x) fun xs => chkTSs N sc l xs
  | .hs i k, x => optB (asHs x) fun t => N[i]? == some t.1 && (visB sc t.1 && (okName t.1 && t.2 == (k : Int)))
def chkTSs (N : List Str) (sc : Scope) : List Tg → List Expr → Bool
  | [], [] => true
  | t :: r, x :: xs => plainX x && (chkTS N sc t x && chkTSs N sc r xs)
  | _, _ => false
end
theorem chkTSs_each {N : List Str} {sc : Scope} : ∀ {l : List Tg} {xs : List Expr} {env : Env}, chkTSs N sc l xs = true → (assignEach xs env).length = l.length ∧ (assignEach xs env).findIdx? (·.1) = none
  | [], [], _, _ => ⟨rfl, rfl⟩
  | [], _ :: _, _, h => by cases h
  | _ :: _, [], _, h => by cases h
  | t :: r, x :: xs, env, h => by
    obtain ⟨h1, ha⟩ := ba3 h
    obtain ⟨h2, h3⟩ := ba3 ha
    obtain ⟨e1, e2⟩ := chkTSs_each (env := env) h3
    rw [assignEach_cons h1]
    refine ⟨by rw [List.length_cons, List.length_cons, e1], ?_⟩
    rw [List.findIdx?_cons]
    simp [e2]
section
variable {X : Cx}
mutual
theorem tgS_ok (nd : X.N.Nodup) (hc : X.calm = true) (hO : ∀ x, locB X.env.scope x = true → Loc X.env.scope x ∧ (X.fn x = true ∨ X.env.scope.names.lookup x = some .local)) : ∀ (t : Tg) (x : Expr), chkTS X.N X.env.scope t x = true → PG X x (tgS X.K t)
  | .nm i, x, h => by
    obtain ⟨y, hy, h⟩ := optB_ok h
    obtain ⟨p, rfl⟩ := asName_ok hy
    obtain ⟨h1, h2⟩ := ba3 h
    obtain ⟨h3, h4⟩ := hO y h2
    exact pg_name nd (beq_iff_eq.mp h1) h3 h4
  | .tp l, x, h => by
    obtain ⟨xs, hy, h⟩ := optB_ok h
    obtain ⟨k, p, rfl⟩ := asTup_ok hy
    obtain ⟨e1, e2⟩ := chkTSs_each (env := X.env) h
    exact pg_tup hc (tgSs_ok nd hc hO l xs h) e1 e2
  | .hs i k, x, h => by
    obtain ⟨⟨y, n⟩, hy, h⟩ := optB_ok h
    obtain ⟨p, j, q, r, rfl⟩ := asHs_ok hy
    obtain ⟨h1, ha⟩ := ba3 h
    obtain ⟨h2, hb⟩ := ba3 ha
    obtain ⟨h3, h4⟩ := ba3 hb
    obtain rfl : n = (k : Int) := beq_iff_eq.mp h4
    obtain ⟨o1, o2, _⟩ := okName_ok h3
    exact pg_sub (pe_var (beq_iff_eq.mp h1) (visB_ok h2) o1 o2) pe_int set_list
theorem tgSs_ok (nd : X.N.Nodup) (hc : X.calm = true) (hO : ∀ x, locB X.env.scope x = true → Loc X.env.scope x ∧ (X.fn x = true ∨ X.env.scope.names.lookup x = some .local)) : ∀ (l : List Tg) (xs : List Expr), chkTSs X.N X.env.scope l xs = true → PGs X xs (tgSs X.K l)
  | [], [], _ => pgs_nil
  | [], _ :: _, h => by cases h
  | _ :: _, [], h => by cases h
  | t :: r, x :: xs, h => by
    obtain ⟨h1, ha⟩ := ba3 h
    obtain ⟨h2, h3⟩ := ba3 ha
    refine pgs_cons (tgS_ok nd hc hO t x h2) (tgSs_ok nd hc hO r xs h3) ?_
    rw [assignEach_cons h1] <;> rfl
end
end
section
variable {c : Cn} {z0 : Fz} {H0 : Hp}
mutual
theorem bindS_ok : ∀ (t : Tg) (d : D) (x : V) (z : Fz) (H : Hp) (σ : L2.St) (ρ ρ' : En) (Q : L2.St → Hp → Prop), Wf c z H → Ext z0 H0 z H → Rep c.K c.mg z x d → SOk c H0 z H σ ρ → bindS t d ρ = some ρ' →
    (∀ σ' H', Wf c z H' → Ext z0 H0 z H' → SOk c H0 z H' σ' ρ' → Q σ' H') → tgS c.K t x σ H Q
  | .nm i, d, x, z, H, σ, ρ, ρ', Q, w, e0, r, so, e, q => by cases e; exact q _ _ w e0 (so.setV r)
  | .tp l, d, x, z, H, σ, ρ, ρ', Q, w, e0, r, so, e, q => by
    cases d <;> first | (cases e; done) | skip
    obtain ⟨a, vs, rfl, s1, r1⟩ := r.tup_inv
    obtain ⟨h1, h2⟩ := bindSL_ok l _ vs z H σ ρ ρ' Q w e0 r1 so e q
    exact ⟨a, vs, rfl, w.sqT s1, h1, h2⟩
  | .hs i k, d, x, z, H, σ, ρ, ρ', Q, w, e0, r, so, e, q => by
    have e : (if (isHnd ρ i && (decide (k < 3) && d.isInt)) = true then some ρ else none) = some ρ' := e
    split at e
    · rename_i hh
      cases e
      obtain ⟨h1, ha⟩ := ba3 hh
      obtain ⟨h2, h3⟩ := ba3 ha
      obtain ⟨n, rfl⟩ : ∃ n, d = .int n := by cases d <;> first | (cases h3; done) | exact ⟨_, rfl⟩
      obtain ⟨y, e1, e2⟩ := so.val i _ (isHnd_at h1)
      cases e2 with
      | @hnd a ha =>
        obtain rfl := r.int_inv
        obtain ⟨a0, b0, d0, g1, g2, g3, g4, g5⟩ := hnd_set w e0 so ha (of_decide_eq_true h2) n
        exact ⟨_, e1, _, _, _, _, rfl, rfl, g1, g2, q _ _ g3 g4 g5⟩
    · cases e
theorem bindSL_ok : ∀ (l : List Tg) (ds : List D) (vs : List V) (z : Fz) (H : Hp) (σ : L2.St) (ρ ρ' : En) (Q : L2.St → Hp → Prop), Wf c z H → Ext z0 H0 z H → RepL c.K c.mg z vs ds → SOk c H0 z H σ ρ → bindSL l ds ρ = some ρ' →
    (∀ σ' H', Wf c z H' → Ext z0 H0 z H' → SOk c H0 z H' σ' ρ' → Q σ' H') → vs.length = l.length ∧ tgSs c.K l vs σ H Q
  | [], [], vs, z, H, σ, ρ, ρ', Q, w, e0, r, so, e, q => by
    cases r; cases e
    exact ⟨rfl, rfl, q _ _ w e0 so⟩
  | [], _ :: _, _, _, _, _, _, _, _, _, _, _, _, e, _ => by cases e
  | _ :: _, [], _, _, _, _, _, _, _, _, _, _, _, e, _ => by cases e
  | t :: l, d :: ds, vs, z, H, σ, ρ, ρ', Q, w, e0, r, so, e, q => by
    cases r with
    | @cons x vs _ _ r rs =>
      obtain ⟨v1, e1, e2⟩ := Option.bind_eq_some_iff.mp (show (bindS t d ρ).bind (fun v => bindSL l ds v) = some ρ' from e)
      refine ⟨?_, x, vs, rfl, ?_⟩
      · rw [List.length_cons, List.length_cons, rs.length, bindSL_len l ds v1 ρ' e2]
      · exact bindS_ok t d x z H σ ρ v1 _ w e0 r so e1 fun σ' H' w' x' so' => (bindSL_ok l ds vs z H' σ' v1 ρ' Q w' x' rs so' e2 q).2
theorem bindSL_len : ∀ (l : List Tg) (ds : List D) (v v' : En), bindSL l ds v = some v' → ds.length = l.length
  | [], [], _, _, _ => rfl
  | [], _ :: _, _, _, e => by cases e
  | _ :: _, [], _, _, e => by cases e
  | t :: l, d :: ds, v, v', e => by
    obtain ⟨v1, e1, e2⟩ := Option.bind_eq_some_iff.mp (show (bindS t d v).bind (fun v => bindSL l ds v) = some v' from e)
    rw [List.length_cons, List.length_cons, bindSL_len l ds v1 v' e2]
end
end
end Ev
set_option Elab.async false
set_option linter.all false
set_option maxRecDepth 100000
set_option maxHeartbeats 4000000
/-! Ev, part T: statements: what the meaning says is what the model does. -/
namespace Ev
open PySem PySem.Spec PyProof.Rows L2

/-- what holds at a statement -/
structure Tx (c : Cn) (g : Gx) (o : Ora) (k : Nat) (X : Cx) (E : XK) : Prop where
  S : Sx c g o k X
  tk : Takes X (WXe E)
  pass : PassesOwn (model X.prog X.w) X.A X.env X.xe
  kind : X.env.scope.kind = .function
  locs : ∀ x, locB X.env.scope x = true → Loc X.env.scope x ∧ (X.fn x = true ∨ X.env.scope.names.lookup x = some .local)
/-- where a statement stands: since the def's entry (z0, H0); what is seen grows (zl) -/
structure At (c : Cn) (z0 : Fz) (H0 : Hp) (zl z : Fz) (H : Hp) (σ : L2.St) (ρ : En) : Prop where
  w : Wf c z H
  x : Ext z0 H0 z H
  l : zl.Le z
  so : SOk c H0 z H σ ρ
/-- behind a statement -/
def PD (c : Cn) (z0 : Fz) (H0 : Hp) (zl : Fz) (D' : Ends) : Fl → Prop
  | .nx ρ => ∀ σ H z, At c z0 H0 zl z H σ ρ → D'.nx σ H
  | .bk ρ => ∀ σ H z, At c z0 H0 zl z H σ ρ → D'.bk σ H
  | .ct ρ => ∀ σ H z, At c z0 H0 zl z H σ ρ → D'.ct σ H
  | .rt d => ∀ x H z, Wf c z H → Ext z0 H0 z H → Rep c.K c.mg z x d → D'.rt x H
def tS (c : Cn) (E : XK) (f : En → M Fl) : TS := fun D' σ H => ∃ z0 H0 zl z ρ, At c z0 H0 zl z H σ ρ ∧ (f ρ).w (PD c z0 H0 zl D') (Px c z0 H0 E)
section
variable {c : Cn} {z0 zl z z1 : Fz} {H0 H H1 : Hp} {σ : L2.St} {ρ ρ1 : En} {E : XK} {o : Ora}
theorem At.to (a : At c z0 H0 zl z H σ ρ) (w : Wf c z1 H1) (x : Ext z0 H0 z1 H1) (l : z.Le z1) (so : SOk c H0 z1 H1 σ ρ1) : At c z0 H0 zl z1 H1 σ ρ1 := ⟨w, x, a.l.trans l, so⟩
theorem ex0 {e : Ev.E} {P : D × En → Prop} (a : At c z0 H0 zl z H σ ρ) (q : (exE o e ρ).w P (Px c z0 H0 E)) :
    ∃ v, tM c (WXe E) v (evE o e v) σ H fun x H1 => ∃ z1 d ρ1, At c z0 H0 zl z1 H1 σ ρ1 ∧ Rep c.K c.mg z1 x d ∧ P (d, ρ1) := by
  refine ⟨_, tM.mono (exE_ok (τ := []) (κ := []) a.w a.x a.so.len.symm (by simpa using a.so) q) fun x H1 ⟨z1, d, ρ1, h1, h2, hl, h3, _, h4, h5⟩ => ⟨z1, d, ρ1, a.to h1 h2 hl (by simpa using h3), h4, h5⟩⟩
theorem exT0 {e : Ev.E} {P : Bool → Prop} (a : At c z0 H0 zl z H σ ρ) (q : (exT o e ρ).w P (Px c z0 H0 E)) :
    ∃ v, tMB c (WXe E) v (M.bind (evE o e v) D.truth) σ H fun b H1 => ∃ z1, At c z0 H0 zl z1 H1 σ ρ ∧ P b :=
  ⟨_, tMB.mono (exT_ok a.w a.x a.so q) fun b H1 ⟨z1, h1, h2, hl, h3, h4⟩ => ⟨z1, a.to h1 h2 hl h3, h4⟩⟩
theorem tF.mono {W : WX} {v : Vw} {m : M (List D)} {Q Q' : VK} (h : tF c W v m σ H Q) (hq : ∀ x H, Q x H → Q' x H) : tF c W v m σ H Q' := by
  obtain ⟨z, w, o, q⟩ := h
  exact ⟨z, w, o, m.mono (fun d p a vs H' z' w' e o hp r => hq _ _ (p a vs H' z' w' e o hp r)) (fun _ p => p) q⟩
theorem exF0 {e : Ev.E} {P : List D × En → Prop} (a : At c z0 H0 zl z H σ ρ) (q : (exF o e ρ).w P (Px c z0 H0 E)) :
    ∃ v, tF c (WXe E) v (evF o e v) σ H fun x H1 => ∃ z1 ds ρ1 p vs, x = .ref p ∧ At c z0 H0 zl z1 H1 σ ρ1 ∧ Ow z1 H1 p vs ∧ H0 p = none ∧ RepL c.K c.mg z1 vs ds ∧ (∀ (j : Nat) (xs : List D), ρ1[j]? = some (.own xs) → σ[j]? ≠ some (some (.ref p))) ∧ P (ds, ρ1) := by
  refine ⟨_, tF.mono (exF_ok (τ := []) (κ := []) a.w a.x a.so.len.symm (by simpa using a.so) q) fun x H1 ⟨z1, ds, ρ1, p, vs, h0, h1, h2, hl, h3, _, h4, h5, h6, h7, h8⟩ => ⟨z1, ds, ρ1, p, vs, h0, a.to h1 h2 hl (by simpa using h3), h4, ?_, h6, by simpa using h7, h8⟩⟩
  cases e : H0 p with
  | none => rfl
  | some u => exact absurd h5 (a.x.there p (by rw [e]; simp))
/-- the range's, the iterator's world -/
theorem exR0 {it : Ev.It} {P : List D → Prop} (a : At c z0 H0 zl z H σ ρ) (q : (evI o it (vw it.vars 0 ρ)).w P (Px c z0 H0 E)) :
    ∃ v, tMR c (WXe E) v (evI o it v) σ H fun J H1 => ∃ z1 ds, At c z0 H0 zl z1 H1 σ ρ ∧ (∀ z2, Wk c ds z2 J) ∧ P ds := by
  have so' : SOk c H0 z H (σ ++ []) (ρ ++ []) := by simpa using a.so
  refine ⟨_, frzZ it.vars ρ.length (ρ ++ []) (σ ++ []) z H, frzZ_wf a.w so', frzZ_vok a.so.len.symm so', M.mono _ (fun ds p J H2 z2 w2 x2 wk => ?_) (fun xn p => Px.ext (frzZ_ext a.x so') p) q⟩
  obtain ⟨b1, b2, b3⟩ := back_flat a.w a.x so' w2 x2
  exact ⟨_, ds, a.to b1 b2 ⟨fun _ _ e => e, ((frzZ_le so').trans x2.le).h, fun _ _ _ _ _ h => h, fun _ h => h⟩ (by simpa using b3), wk, p⟩
theorem exI0 {it : Ev.It} {P : List D → Prop} (a : At c z0 H0 zl z H σ ρ) (q : (evI o it (vw it.vars 0 ρ)).w P (Px c z0 H0 E)) :
    ∃ v, tMI c (WXe E) v (evI o it v) σ H fun J H1 => ∃ z1 ds, At c z0 H0 zl z1 H1 σ (frz it.vars 0 ρ) ∧ Wk c ds z1 J ∧ P ds := by
  have so' : SOk c H0 z H (σ ++ []) (ρ ++ []) := by simpa using a.so
  refine ⟨_, frzZ it.vars ρ.length (ρ ++ []) (σ ++ []) z H, frzZ_wf a.w so', frzZ_vok a.so.len.symm so', M.mono _ (fun ds p J H2 z2 w2 x2 wk => ?_) (fun xn p => Px.ext (frzZ_ext a.x so') p) q⟩
  obtain ⟨b1, b2⟩ := back_frz a.x so' x2 (frzTo_of it.vars ρ [])
  exact ⟨z2, ds, a.to w2 b1 ((frzZ_le so').trans x2.le) (by simpa using b2), wk, p⟩
end
theorem RepL.erase {K : PySem.W.Frag} {mg : Str → Option Value} {z : Fz} : ∀ {vs : List V} {ds : List D} (i : Nat), RepL K mg z vs ds → RepL K mg z (vs.eraseIdx i) (ds.eraseIdx i)
  | _, _, _, .nil => .nil
  | _, _, 0, .cons _ t => t
  | _, _, i + 1, .cons q t => .cons q (RepL.erase i t)
/-! ### the text -/
def notComp : Expr → Bool
  | .ListComp .. => false
  | .SetComp .. => false
  | .DictComp .. => false
  | _ => true
def notTup : Expr → Bool
  | .Tuple .. => false
  | _ => true
theorem sw_not {x : Expr} (h : notComp x = true) (t : Option Expr) (l : Nat) (env : Env) : swapsWith x t l env = pure false := by
  cases x <;> first | rfl | cases h
theorem swStores_not {x t : Expr} (h : notTup x = true) (env : Env) : swappedStores [t] x env = pure none := by
  cases x <;> first | (cases t <;> rfl) | cases h
/-- name = [..]: the name's store within the block's last step -/
def swB (sc scope : Scope) (y : Str) (py pos : Pos) : Bool := (sc.names.lookup y == some .local) && ((py.line == pos.line) && !(scope.names.any fun (n, k) => n == y && (k == .local || k == .cell)))
theorem sw_comp {elt : Expr} {gs : List Comprehension} {scope : Scope} {pos py : Pos} {y : Str} {l : Nat} {env : Env} (hk : env.scope.kind = .function) : swapsWith (.ListComp elt gs scope pos) (some (.Name y py)) l env = pure (swB env.scope scope y py pos) := by
  have hb : env.blockKind = .function := by unfold Env.blockKind; rw [hk]; rfl
  unfold swapsWith swB
  simp only [hb, Expr.pos, Env.kindOf]
  show pure _ = pure _
  congr 1
  cases (env.scope.names.lookup y == some NameKind.local) <;> cases (py.line == pos.line) <;> simp
def asExprS : Stmt → Option Expr
  | .Expr x _ => some x
  | _ => none
def asRet : Stmt → Option Expr
  | .Return (some x) _ => some x
  | _ => none
def isRetN : Stmt → Bool
  | .Return none _ => true
  | _ => false
def asAsg : Stmt → Option (Expr × Expr)
  | .Assign [t] x _ => some (t, x)
  | _ => none
def asIfS : Stmt → Option (Expr × List Stmt × List Stmt)
  | .If t a b _ => some (t, a, b)
  | _ => none
def asFor : Stmt → Option (Expr × Expr × List Stmt)
  | .For t i b [] _ => some (t, i, b)
  | _ => none
def asWhile : Stmt → Option (Expr × List Stmt)
  | .While t b [] _ => some (t, b)
  | _ => none
def isPass : Stmt → Bool
  | .Pass _ => true
  | _ => false
def isBrk : Stmt → Bool
  | .Break _ => true
  | _ => false
def isCont : Stmt → Bool
  | .Continue _ => true
  | _ => false
/-- y.m(x) -/
def asMth1 : Expr → Option (Str × Str × Expr × Bool)
  | .Call (.Attribute (.Name y _) m ap) [x] [] cp => some (y, m, x, ap.endLine == cp.line)
  | _ => none
def asSubN : Expr → Option (Str × Expr)
  | .Subscript (.Name y _) x _ => some (y, x)
  | _ => none
theorem asExprS_ok {s : Stmt} {x : Expr} (h : asExprS s = some x) : ∃ p, s = .Expr x p := by
  unfold asExprS at h; split at h <;> first | (cases h; done) | (cases h; exact ⟨_, rfl⟩)
theorem asRet_ok {s : Stmt} {x : Expr} (h : asRet s = some x) : ∃ p, s = .Return (some x) p := by
  unfold asRet at h; split at h <;> first | (cases h; done) | (cases h; exact ⟨_, rfl⟩)
theorem isRetN_ok {s : Stmt} (h : isRetN s = true) : ∃ p, s = .Return none p := by
  unfold isRetN at h; split at h <;> first | (cases h; done) | exact ⟨_, rfl⟩
theorem asAsg_ok {s : Stmt} {t x : Expr} (h : asAsg s = some (t, x)) : ∃ p, s = .Assign [t] x p := by
  unfold asAsg at h; split at h <;> first | (cases h; done) | (cases h; exact ⟨_, rfl⟩)
theorem asIfS_ok {s : Stmt} {t : Expr} {a b : List Stmt} (h : asIfS s = some (t, a, b)) : ∃ p, s = .If t a b p := by
  unfold asIfS at h; split at h <;> first | (cases h; done) | (cases h; exact ⟨_, rfl⟩)
theorem asFor_ok {s : Stmt} {t i : Expr} {b : List Stmt} (h : asFor s = some (t, i, b)) : ∃ p, s = .For t i b [] p := by
  unfold asFor at h; split at h <;> first | (cases h; done) | (cases h; exact ⟨_, rfl⟩)
theorem asWhile_ok {s : Stmt} {t : Expr} {b : List Stmt} (h : asWhile s = some (t, b)) : ∃ p, s = .While t b [] p := by
  unfold asWhile at h; split at h <;> first | (cases h; done) | (cases h; exact ⟨_, rfl⟩)
theorem isPass_ok {s : Stmt} (h : isPass s = true) : ∃ p, s = .Pass p := by
  unfold isPass at h; split at h <;> first | (cases h; done) | exact ⟨_, rfl⟩
theorem isBrk_ok {s : Stmt} (h : isBrk s = true) : ∃ p, s = .Break p := by
  unfold isBrk at h; split at h <;> first | (cases h; done) | exact ⟨_, rfl⟩
theorem isCont_ok {s : Stmt} (h : isCont s = true) : ∃ p, s = .Continue p := by
  unfold isCont at h; split at h <;> first | (cases h; done) | exact ⟨_, rfl⟩
theorem asMth1_ok {x y : Expr} {n m : Str} {b : Bool} (h : asMth1 x = some (n, m, y, b)) : ∃ p ap cp, x = .Call (.Attribute (.Name n p) m ap) [y] [] cp ∧ (ap.endLine == cp.line) = b := by
  unfold asMth1 at h; split at h <;> first | (cases h; done) | (cases h; exact ⟨_, _, _, rfl, rfl⟩)
theorem asSubN_ok {x y : Expr} {n : Str} (h : asSubN x = some (n, y)) : ∃ p q, x = .Subscript (.Name n p) y q := by
  unfold asSubN at h; split at h <;> first | (cases h; done) | (cases h; exact ⟨_, _, rfl⟩)
/-- a local of the def's own at its place -/
def ownN (N : List Str) (sc : Scope) (i : Nat) (y : Str) : Bool := N[i]? == some y && locB sc y
/-- it can be read there -/
def rdN (N : List Str) (sc : Scope) (i : Nat) (y : Str) : Bool := N[i]? == some y && (visB sc y && okName y)
theorem attr_base {e : Expr} {m : Str} {env : Env} {y : Str} {p : Pos} (h : e = .Name y p) : attributeBase e m env (eval e env) = eval e env := by
  subst h; rfl
theorem asg_plain {o ix : Expr} {p : Pos} {env : Env} (h : plainX ix = true) : ∀ v, assign (.Subscript o ix p) env v = (do
    let ov ← holding [v] (eval o env)
    let iv ← holding [v, ov] (eval ix env)
    standAt p
    holding [v, ov, iv] (setItem ov iv v)
    release [v, ov, iv] []) := fun v => by
  cases ix <;> first | rfl | cases h
theorem few_one {x : Expr} {env : Env} {cp : Pos} (h : plainX x = true) : ((backTo cp (starEach [x] env)).all (fun x => !x.1) && (backToKw cp (keywordEach [] env)).all (fun x => x.1.isSome)
      && decide (([x] : List Expr).length + ([] : List Keyword).length + (if ([] : List Keyword).isEmpty then 0 else 1) < 30)) = true := by
  rw [star_plain h]; rfl
section
variable {c : Cn} {g : Gx} {o : Ora} {k : Nat} {X : Cx} {E : XK}
theorem own_asg (T : Tx c g o k X E) {i : Nat} {e : Ev.E} {y : Str} {py sp : Pos} {x : Expr} (hn : ownN g.N X.env.scope i y = true) (hf : isFr e = true) (h : chkE g X.env.scope e x = true) :
    PS X (.Assign [.Name y py] x sp) (tAsg (fun σ H Q => ∃ v, tF c (WXe E) v (evF o e v) σ H Q) (gName i)) := by
  obtain ⟨h1, h2⟩ := ba3 hn
  obtain ⟨h3, h4⟩ := T.locs y h2
  have hi : X.N[i]? = some y := by rw [T.S.hN]; exact beq_iff_eq.mp h1
  have ps0 : ∀ hs : swapsWith x (some (.Name y py)) sp.line X.env = pure false, PS X (.Assign [.Name y py] x sp) (tAsg (fun σ H Q => ∃ v, tF c (WXe E) v (evF o e v) σ H Q) (gName i)) := fun hs =>
    ps_set T.S.nd hi h3 (PE.ex fun v => soundF T.S T.tk v hf h) hs h4
  by_cases hx : notComp x = true
  · exact ps0 (sw_not hx _ _ _)
  · cases e with
    | comp e t it d =>
      obtain ⟨⟨elt, tg, iter, ifs, scope⟩, hy, h⟩ := optB_ok h
      obtain ⟨pos, rfl⟩ := asLc1_ok hy
      cases hsw : swB X.env.scope scope y py pos with
      | false => exact ps0 (by rw [sw_comp T.kind, hsw])
      | true =>
        have hl : X.env.scope.names.lookup y = some .local := beq_iff_eq.mp (ba3 hsw).1
        obtain ⟨h1, ha⟩ := ba3 h
        obtain ⟨h2, hb⟩ := ba3 ha
        obtain ⟨h3, hd⟩ := ba3 hb
        obtain ⟨h4, h5⟩ := ba3 hd
        have hN := T.S.hN
        have ok : BlkOk X.N X.env.scope scope (ownOf g.N t.vars) := by rw [hN]; exact blkOk_by h2
        refine PS.imp (ps_setLc (g := tgG X.K t) T.S.calm T.S.nd hi hl (by rw [sw_comp T.kind, hsw]) (PI.ex fun v => soundI it _ X _ T.S T.tk v tg iter h1) ok
          (fun s H C cl fp => tg_ok (X := X.blk s H scope (compEnvC scope cl C X.env) fp) T.S.nd T.S.calm locB_blk t tg (by show chkT X.N scope t tg = true; rw [hN]; exact h3))
          (fun s H C cl fp => PTs.ex fun v' => soundC d _ _ W0 (T.S.blk scope s H C cl fp) LamX.takes0 v' ifs h4) (fun s H C cl fp => PE.ex fun v' => soundE e _ _ W0 (T.S.blk scope s H C cl fp) LamX.takes0 v' elt h5) (chkI_plain h1 X.env)) fun D' σ H q => ?_
        obtain ⟨v, q⟩ := q
        rw [ownOf_snd, show X.K = c.K from T.S.hK]
        exact ⟨v, lc_parts q⟩
    | comp2 e t it d t2 it2 d2 =>
      obtain ⟨⟨elt, tg, iter, ifs, tg2, iter2, ifs2, scope⟩, hy, h⟩ := optB_ok h
      obtain ⟨pos, rfl⟩ := asLc2_ok hy
      cases hsw : swB X.env.scope scope y py pos with
      | false => exact ps0 (by rw [sw_comp T.kind, hsw])
      | true =>
        have hl : X.env.scope.names.lookup y = some .local := beq_iff_eq.mp (ba3 hsw).1
        obtain ⟨h1, ha⟩ := ba3 h
        obtain ⟨h2, hb⟩ := ba3 ha
        obtain ⟨h3, hd⟩ := ba3 hb
        obtain ⟨h4, he⟩ := ba3 hd
        obtain ⟨h5, hf2⟩ := ba3 he
        obtain ⟨h6, hg⟩ := ba3 hf2
        obtain ⟨h7, h8⟩ := ba3 hg
        have hN := T.S.hN
        have ok : BlkOk X.N X.env.scope scope (ownOf g.N (t.vars ++ t2.vars)) := by rw [hN]; exact blkOk_by h2
        refine PS.imp (ps_setLc2 (g := tgG X.K t) (g1 := tgG X.K t2) (vs1 := t2.vars) T.S.calm T.S.nd hi hl (by rw [sw_comp T.kind, hsw]) (PI.ex fun v => soundI it _ X _ T.S T.tk v tg iter h1) ok (by rw [ownOf_snd]; exact fun i hi => List.mem_append_right _ hi)
          (fun s H C cl fp => tg_ok (X := X.blk s H scope (compEnvC scope cl C X.env) fp) T.S.nd T.S.calm locB_blk t tg (by show chkT X.N scope t tg = true; rw [hN]; exact h3))
          (fun s H C cl fp => PTs.ex fun v' => soundC d _ _ W0 (T.S.blk scope s H C cl fp) LamX.takes0 v' ifs h5)
          (fun s H C cl fp => PI.ex fun v' => soundI it2 _ _ W0 (T.S.blk scope s H C cl fp) LamX.takes0 v' tg2 iter2 h6)
          (fun s H C cl fp => tg_ok (X := X.blk s H scope (compEnvC scope cl C X.env) fp) T.S.nd T.S.calm locB_blk t2 tg2 (by show chkT X.N scope t2 tg2 = true; rw [hN]; exact h4))
          (fun s H C cl fp => PTs.ex fun v' => soundC d2 _ _ W0 (T.S.blk scope s H C cl fp) LamX.takes0 v' ifs2 h7)
          (fun s H C cl fp => PE.ex fun v' => soundE e _ _ W0 (T.S.blk scope s H C cl fp) LamX.takes0 v' elt h8) (chkI_plain h1 X.env) (fun env => chkI_plain h6 env)) fun D' σ H q => ?_
        obtain ⟨v, q⟩ := q
        rw [ownOf_snd, show X.K = c.K from T.S.hK]
        exact ⟨v, lc2_parts q⟩
    | lst es =>
      obtain ⟨l, hy, h⟩ := optB_ok h
      obtain ⟨_, rfl⟩ := asLst_ok hy
      exact absurd rfl hx
    | bop p a b =>
      obtain ⟨⟨l, q, r⟩, hy, h⟩ := optB_ok h
      obtain ⟨_, rfl⟩ := asBin_ok hy
      exact absurd rfl hx
    | blt b es =>
      obtain ⟨⟨y, y2, l⟩, hy, h⟩ := optB_ok h
      obtain ⟨_, _, rfl⟩ := asCall_ok hy
      exact absurd rfl hx
    | lrng es =>
      obtain ⟨⟨y, y2, l⟩, hy, h⟩ := optB_ok h
      obtain ⟨_, _, rfl⟩ := asCall_ok hy
      exact absurd rfl hx
    | sl a lo hi =>
      obtain ⟨⟨y1, y2⟩, hy, hq⟩ := optB_ok h
      obtain ⟨_, rfl⟩ := asSub_ok hy
      exact absurd rfl hx
    | _ => cases hf
theorem rd_ok (S : Sx c g o k X) {i : Nat} {y : Str} {p : Pos} (h : rdN g.N X.env.scope i y = true) : PE X (.Name y p) (tVar i) := by
  obtain ⟨h1, ha⟩ := ba3 h
  obtain ⟨h2, h3⟩ := ba3 ha
  obtain ⟨o1, o2, _⟩ := okName_ok h3
  exact pe_var (by rw [S.hN]; exact beq_iff_eq.mp h1) (visB_ok h2) o1 o2
end
end Ev
set_option Elab.async false
set_option linter.all false
set_option maxRecDepth 100000
set_option maxHeartbeats 4000000
/-! Ev, part V: a, b = x, y. -/
namespace Ev
open PySem PySem.Spec PyProof.Rows L2
def notStar : Expr → Bool
  | .Starred .. => false
  | _ => true
def parB2 (sc : Scope) (x y : Str) (px py : Pos) (a b : Expr) : Bool := (sc.names.lookup x == some .local) && ((sc.names.lookup y == some .local) && ((py.line == px.line) && (decide (x ≠ y) && (notStar a && (notStar b && (!([a, b].all (foldedForSure 8)) && !([a, b].all (constantsAlone 8))))))))
theorem sw2 {x y : Str} {px py pt pt2 : Pos} {a b : Expr} {kt k2} {env : Env} (hk : env.scope.kind = .function) (h : parB2 env.scope x y px py a b = true) : swappedStores [.Tuple [.Name x px, .Name y py] kt pt] (.Tuple [a, b] k2 pt2) env = pure (some [x, y]) := by
  obtain ⟨h1, ha⟩ := ba3 h
  obtain ⟨h2, hb⟩ := ba3 ha
  obtain ⟨h3, hc⟩ := ba3 hb
  obtain ⟨h4, hd⟩ := ba3 hc
  obtain ⟨h5, he⟩ := ba3 hd
  obtain ⟨h6, hf⟩ := ba3 he
  obtain ⟨h7, h8⟩ := ba3 hf
  have hbk : env.blockKind = .function := by unfold Env.blockKind; rw [hk]; rfl
  have k1 : env.kindOf x = some .local := by simpa [Env.kindOf] using h1
  have k2' : env.kindOf y = some .local := by simpa [Env.kindOf] using h2
  have e3 : py.line = px.line := by simpa using h3
  have e4 : x ≠ y := by simpa using h4
  have f1 : ([a, b].all (foldedForSure 8)) = false := by rw [Bool.not_eq_true'] at h7; exact h7
  have f2 : ([a, b].all (constantsAlone 8)) = false := by rw [Bool.not_eq_true'] at h8; exact h8
  have er : ([x, y] : List Str).eraseDups = [x, y] := by
    have : (y == x) = false := by simpa using Ne.symm e4
    simp [List.eraseDups_cons, this]
  unfold swappedStores
  dsimp only
  split
  · rename_i q
    exfalso
    simp [hbk] at q
  · split
    · rename_i q
      exfalso
      simp only [List.any_cons, List.any_nil, Bool.or_false, Bool.or_eq_true] at q
      rcases q with q | q
      · clear h7 h8 f1 f2 hf he hd hc hb ha h
        cases a <;> first | (cases h5; done) | (cases q; done)
      · clear h7 h8 f1 f2 hf he hd hc hb ha h
        cases b <;> first | (cases h6; done) | (cases q; done)
    · split
      · rename_i q
        exfalso
        simp [k1, k2', e3, er, Expr.pos] at q
      · split
        · rename_i q
          rw [f1] at q; cases q
        · split
          · rename_i q
            rw [f2] at q; cases q
          · simp [k1, k2', e3, Expr.pos]
def parB3 (sc : Scope) (x y u : Str) (px py pu : Pos) (a b d : Expr) : Bool := (sc.names.lookup x == some .local) && ((sc.names.lookup y == some .local) && ((sc.names.lookup u == some .local) && ((py.line == px.line) && ((pu.line == px.line) && (decide (x ≠ y) && (decide (x ≠ u) && (decide (y ≠ u) && (notStar a && (notStar b && (notStar d && (!([a, b, d].all (foldedForSure 8)) && !([a, b, d].all (constantsAlone 8)))))))))))))
theorem sw3 {x y u : Str} {px py pu pt pt2 : Pos} {a b d : Expr} {kt k2} {env : Env} (hk : env.scope.kind = .function) (h : parB3 env.scope x y u px py pu a b d = true) : swappedStores [.Tuple [.Name x px, .Name y py, .Name u pu] kt pt] (.Tuple [a, b, d] k2 pt2) env = pure (some [x, y, u]) := by
  obtain ⟨h1, r1⟩ := ba3 h
  obtain ⟨h2, r2⟩ := ba3 r1
  obtain ⟨h3, r3⟩ := ba3 r2
  obtain ⟨h4, r4⟩ := ba3 r3
  obtain ⟨h5, r5⟩ := ba3 r4
  obtain ⟨h6, r6⟩ := ba3 r5
  obtain ⟨h7, r7⟩ := ba3 r6
  obtain ⟨h8, r8⟩ := ba3 r7
  obtain ⟨g1, r9⟩ := ba3 r8
  obtain ⟨g2, r10⟩ := ba3 r9
  obtain ⟨g3, r11⟩ := ba3 r10
  obtain ⟨g4, g5⟩ := ba3 r11
  have hbk : env.blockKind = .function := by unfold Env.blockKind; rw [hk]; rfl
  have k1 : env.kindOf x = some .local := by simpa [Env.kindOf] using h1
  have k2' : env.kindOf y = some .local := by simpa [Env.kindOf] using h2
  have k3 : env.kindOf u = some .local := by simpa [Env.kindOf] using h3
  have e3 : py.line = px.line := by simpa using h4
  have e4 : pu.line = px.line := by simpa using h5
  have n1 : x ≠ y := by simpa using h6
  have n2 : x ≠ u := by simpa using h7
  have n3 : y ≠ u := by simpa using h8
  have f1 : ([a, b, d].all (foldedForSure 8)) = false := by rw [Bool.not_eq_true'] at g4; exact g4
  have f2 : ([a, b, d].all (constantsAlone 8)) = false := by rw [Bool.not_eq_true'] at g5; exact g5
  have er : ([x, y, u] : List Str).eraseDups = [x, y, u] := by
    have m1 : (y == x) = false := by simpa using Ne.symm n1
    have m2 : (u == x) = false := by simpa using Ne.symm n2
    have m3 : (u == y) = false := by simpa using Ne.symm n3
    simp [List.eraseDups_cons, m1, m2, m3]
  unfold swappedStores
  dsimp only
  split
  · rename_i q
    exfalso
    simp [hbk] at q
  · split
    · rename_i q
      exfalso
      simp only [List.any_cons, List.any_nil, Bool.or_false, Bool.or_eq_true] at q
      clear g4 g5 f1 f2 r1 r2 r3 r4 r5 r6 r7 r8 r9 r10 r11 h
      rcases q with q | q | q
      · cases a <;> first | (cases g1; done) | (cases q; done)
      · cases b <;> first | (cases g2; done) | (cases q; done)
      · cases d <;> first | (cases g3; done) | (cases q; done)
    · split
      · rename_i q
        exfalso
        simp [k1, k2', k3, e3, e4, er, Expr.pos] at q
      · split
        · rename_i q
          rw [f1] at q; cases q
        · split
          · rename_i q
            rw [f2] at q; cases q
          · simp [k1, k2', k3, e3, e4, Expr.pos]

/-! ### a, b = x, y -/
section
variable {c : Cn} {z0 zl z : Fz} {H0 H : Hp} {σ : L2.St} {ρ : En} {E : XK} {o : Ora}
theorem snoc_get {α : Type} {l : List α} {x y : α} {i : Nat} (h : (l ++ [x])[i]? = some y) : (i < l.length ∧ l[i]? = some y) ∨ (i = l.length ∧ y = x) := by
  by_cases hi : i < l.length
  · rw [List.getElem?_append_left hi] at h; exact .inl ⟨hi, h⟩
  · rw [List.getElem?_append_right (by omega)] at h
    by_cases e : i = l.length
    · subst e; simp at h; exact .inr ⟨rfl, h.symm⟩
    · have : i - l.length ≠ 0 := by omega
      obtain ⟨k, hk⟩ := Nat.exists_eq_succ_of_ne_zero this
      rw [hk] at h; simp at h
theorem snoc_lt {α : Type} {l : List α} {x : α} {i : Nat} (hi : i < l.length) : (l ++ [x])[i]? = l[i]? := List.getElem?_append_left hi
theorem SOk.pushV (so : SOk c H0 z H σ ρ) {x : V} {d : D} (r : Rep c.K c.mg z x d) : SOk c H0 z H (σ ++ [some x]) (ρ ++ [.val d]) := by
  refine ⟨by simp [so.len], fun i e h => ?_, fun i xs h => ?_, fun i j xs ys q h1 h2 h3 h4 => ?_⟩
  · rcases snoc_get h with ⟨hi, h⟩ | ⟨rfl, e2⟩
    · obtain ⟨y, h1, h2⟩ := so.val i e h
      exact ⟨y, by rw [snoc_lt (by rw [← so.len]; exact hi)]; exact h1, h2⟩
    · cases e2; exact ⟨x, by rw [so.len]; simp, r⟩
  · rcases snoc_get h with ⟨hi, h⟩ | ⟨rfl, e2⟩
    · obtain ⟨p, vs, h1, h2⟩ := so.own i xs h
      exact ⟨p, vs, by rw [snoc_lt (by rw [← so.len]; exact hi)]; exact h1, h2⟩
    · cases e2
  · rcases snoc_get h1 with ⟨hi, h1⟩ | ⟨_, h1⟩
    · rcases snoc_get h2 with ⟨hj, h2⟩ | ⟨_, h2⟩
      · rw [snoc_lt (by rw [← so.len]; exact hi)] at h3
        rw [snoc_lt (by rw [← so.len]; exact hj)] at h4
        exact so.sep i j xs ys q h1 h2 h3 h4
      · cases h2
    · cases h1
theorem SOk.pushO (so : SOk c H0 z H σ ρ) {p : Addr} {vs : List V} {ds : List D} (ow : Ow z H p vs) (hp : H0 p = none) (r : RepL c.K c.mg z vs ds) (hn : ∀ (j : Nat) (xs : List D), ρ[j]? = some (.own xs) → σ[j]? ≠ some (some (.ref p))) :
    SOk c H0 z H (σ ++ [some (.ref p)]) (ρ ++ [.own ds]) := by
  refine ⟨by simp [so.len], fun i e h => ?_, fun i xs h => ?_, fun i j xs ys q h1 h2 h3 h4 => ?_⟩
  · rcases snoc_get h with ⟨hi, h⟩ | ⟨rfl, e2⟩
    · obtain ⟨y, h1, h2⟩ := so.val i e h
      exact ⟨y, by rw [snoc_lt (by rw [← so.len]; exact hi)]; exact h1, h2⟩
    · cases e2
  · rcases snoc_get h with ⟨hi, h⟩ | ⟨rfl, e2⟩
    · obtain ⟨p, vs, h1, h2⟩ := so.own i xs h
      exact ⟨p, vs, by rw [snoc_lt (by rw [← so.len]; exact hi)]; exact h1, h2⟩
    · cases e2; exact ⟨p, vs, by rw [so.len]; simp, ow, hp, r⟩
  · rcases snoc_get h1 with ⟨hi, h1⟩ | ⟨ei, h1⟩
    · rw [snoc_lt (by rw [← so.len]; exact hi)] at h3
      rcases snoc_get h2 with ⟨hj, h2⟩ | ⟨ej, h2⟩
      · rw [snoc_lt (by rw [← so.len]; exact hj)] at h4
        exact so.sep i j xs ys q h1 h2 h3 h4
      · subst ej
        rw [so.len] at h4
        simp at h4
        subst h4
        exact absurd h3 (hn i xs h1)
    · subst ei
      rw [so.len] at h3
      simp at h3
      subst h3
      rcases snoc_get h2 with ⟨hj, h2⟩ | ⟨ej, h2⟩
      · rw [snoc_lt (by rw [← so.len]; exact hj)] at h4
        exact absurd h4 (hn j ys h2)
      · exact ej.symm
/-- the last slot's into slot i -/
theorem SOk.pull {x : Option V} {s : Sl} {i : Nat} (hl : ρ.length = σ.length) (hi : i < ρ.length) (so : SOk c H0 z H (σ ++ [x]) (ρ ++ [s])) : SOk c H0 z H (σ.set i x) (setE ρ i s) := by
  rw [setE_eq]
  have last : (ρ ++ [s])[ρ.length]? = some s := by simp
  have lastσ : (σ ++ [x])[ρ.length]? = some x := by rw [hl]; simp
  -- slot j of the new is slot m j of the old
  have key : ∀ j, j < ρ.length → ∃ m, (m = ρ.length ∧ j = i ∨ m = j ∧ j ≠ i) ∧ (ρ.set i s)[j]? = (ρ ++ [s])[m]? ∧ (σ.set i x)[j]? = (σ ++ [x])[m]? := fun j hj => by
    by_cases e : i = j
    · subst e
      exact ⟨ρ.length, .inl ⟨rfl, rfl⟩, by rw [List.getElem?_set_self hi, last], by rw [List.getElem?_set_self (by rw [← hl]; exact hi), lastσ]⟩
    · exact ⟨j, .inr ⟨rfl, Ne.symm e⟩, by rw [List.getElem?_set_ne e, snoc_lt hj], by rw [List.getElem?_set_ne e, snoc_lt (by rw [← hl]; exact hj)]⟩
  have lt : ∀ {j : Nat} {t : Sl}, (ρ.set i s)[j]? = some t → j < ρ.length := fun h => by
    have := (List.getElem?_eq_some_iff.mp h).1
    simpa using this
  refine ⟨by simp [hl], fun j e h => ?_, fun j xs h => ?_, fun j k xs ys q h1 h2 h3 h4 => ?_⟩
  · obtain ⟨m, _, e1, e2⟩ := key j (lt h)
    rw [e1] at h
    rw [e2]; exact so.val m e h
  · obtain ⟨m, _, e1, e2⟩ := key j (lt h)
    rw [e1] at h
    rw [e2]; exact so.own m xs h
  · obtain ⟨m, hm, e1, e2⟩ := key j (lt h1)
    obtain ⟨n, hn, e3, e4⟩ := key k (lt h2)
    rw [e1] at h1; rw [e3] at h2; rw [e2] at h3; rw [e4] at h4
    have e := so.sep m n xs ys q h1 h2 h3 h4
    have hj := lt (j := j) (t := .own xs) (by rw [e1]; exact h1)
    have hk := lt (j := k) (t := .own ys) (by rw [e3]; exact h2)
    rcases hm with ⟨m1, m2⟩ | ⟨m1, m2⟩ <;> rcases hn with ⟨n1, n2⟩ | ⟨n1, n2⟩ <;> omega
def tPx (c : Cn) (E : XK) (o : Ora) (l : List (Nat × Bool)) (es : Es) (z0 : Fz) (H0 : Hp) (zl : Fz) (n : Nat) (κ : En) (τ : L2.St) : TA := fun σ H Q => ∃ z ρ, σ.length = ρ.length ∧ ρ.length = n ∧ At c z0 H0 zl z H (σ ++ τ) (ρ ++ κ) ∧
  (exP o l es ρ).w (fun p => ∀ vs H' z', At c z0 H0 zl z' H' (σ ++ (τ ++ vs.map some)) (p.2 ++ (κ ++ p.1)) → p.2.length = n → vs.length = p.1.length → Q vs H') (Px c z0 H0 E)
end
def chkP (g : Gx) (sc : Scope) : List (Nat × Bool) → Es → List Expr → Bool
  | [], .nil, [] => true
  | (_, b) :: l, .cons e es, x :: xs => plainX x && ((!b || isFr e) && (chkE g sc e x && chkP g sc l es xs))
  | _, _, _ => false
section
variable {c : Cn} {g : Gx} {o : Ora} {k : Nat} {X : Cx} {E : XK}
theorem PA.ex {ι : Type} {e : List Expr} {t : ι → TA} (h : ∀ i, PA X e (t i)) : PA X e (fun σ H Q => ∃ i, t i σ H Q) := ⟨fun pos pins s σ H Q I ⟨i, q⟩ => (h i).run pos pins s σ H Q I q⟩
theorem soundP (T : Tx c g o k X E) {z0 : Fz} {H0 : Hp} {zl : Fz} {n : Nat} : ∀ (l : List (Nat × Bool)) (es : Es) (xs : List Expr) (κ : En) (τ : L2.St), chkP g X.env.scope l es xs = true → PA X xs (tPx c E o l es z0 H0 zl n κ τ)
  | [], .nil, [], κ, τ, _ => PA.imp pa_nil fun σ H Q ⟨z, ρ, hl, hn, a, q⟩ => q [] H z (by simpa using a) hn rfl
  | (i, false) :: l, .cons e es, x :: xs, κ, τ, h => by
    obtain ⟨h1, ha⟩ := ba3 h
    obtain ⟨h2, hb⟩ := ba3 ha
    obtain ⟨h3, h4⟩ := ba3 hb
    refine PA.imp (pa_cons (PE.ex fun v => soundE e _ X _ T.S T.tk v x h3) (PA.ex fun (p : En × L2.St) => soundP T (z0 := z0) (H0 := H0) (zl := zl) (n := n) l es xs p.1 p.2 h4) (star_plain h1)) fun σ H Q ⟨z, ρ, hl, hn, a, q⟩ => ?_
    have q : (exE o e ρ).w (fun p => (exP o l es p.2).w (fun q => ∀ vs H' z', At c z0 H0 zl z' H' (σ ++ (τ ++ vs.map some)) (q.2 ++ (κ ++ (.val p.1 :: q.1))) → q.2.length = n → vs.length = (Sl.val p.1 :: q.1).length → Q vs H') (Px c z0 H0 E)) (Px c z0 H0 E) := q
    refine ⟨_, tM.mono (exE_ok a.w a.x hl a.so q) fun x1 H1 ⟨z1, d, ρ1, w1, x1', l1, so1, hl1, r, p⟩ => ⟨(κ ++ [.val d], τ ++ [some x1]), z1, ρ1, by rw [hl, hl1], by rw [hl1]; exact hn, ⟨w1, x1', a.l.trans l1, ?_⟩, M.mono _ (fun qq p vs H' z' a' hl' hv => ?_) (fun _ p => p) p⟩⟩
    · have := so1.pushV r
      simpa [List.append_assoc] using this
    · refine p (x1 :: vs) H' z' ?_ hl' (by simp [hv])
      simpa [List.append_assoc] using a'
  | (i, true) :: l, .cons e es, x :: xs, κ, τ, h => by
    obtain ⟨h1, ha⟩ := ba3 h
    obtain ⟨h2, hb⟩ := ba3 ha
    obtain ⟨h3, h4⟩ := ba3 hb
    refine PA.imp (pa_cons (PE.ex fun v => soundF T.S T.tk v (by simpa using h2) h3) (PA.ex fun (p : En × L2.St) => soundP T (z0 := z0) (H0 := H0) (zl := zl) (n := n) l es xs p.1 p.2 h4) (star_plain h1)) fun σ H Q ⟨z, ρ, hl, hn, a, q⟩ => ?_
    have q : (exF o e ρ).w (fun p => (exP o l es p.2).w (fun q => ∀ vs H' z', At c z0 H0 zl z' H' (σ ++ (τ ++ vs.map some)) (q.2 ++ (κ ++ (.own p.1 :: q.1))) → q.2.length = n → vs.length = (Sl.own p.1 :: q.1).length → Q vs H') (Px c z0 H0 E)) (Px c z0 H0 E) := q
    refine ⟨_, tF.mono (exF_ok a.w a.x hl a.so q) fun x1 H1 ⟨z1, ds, ρ1, pp, us, ex, w1, x1', l1, so1, hl1, o1, hp, r, nn, p⟩ => ?_⟩
    subst ex
    have hp0 : H0 pp = none := by
      cases e : H0 pp with
      | none => rfl
      | some u => exact absurd hp (a.x.there pp (by rw [e]; simp))
    refine ⟨(κ ++ [.own ds], τ ++ [some (.ref pp)]), z1, ρ1, by rw [hl, hl1], by rw [hl1]; exact hn, ⟨w1, x1', a.l.trans l1, ?_⟩, M.mono _ (fun qq p vs H' z' a' hl' hv => ?_) (fun _ p => p) p⟩
    · have := so1.pushO o1 hp0 r nn
      simpa [List.append_assoc] using this
    · refine p (.ref pp :: vs) H' z' ?_ hl' (by simp [hv])
      simpa [List.append_assoc] using a'
  | [], .cons _ _, _, _, _, h => by cases h
  | [], .star _ _, _, _, _, h => by cases h
  | [], .nil, _ :: _, _, _, h => by cases h
  | _ :: _, .nil, _, _, _, h => by cases h
  | _ :: _, .star _ _, _, _, _, h => by cases h
  | (_, false) :: _, .cons _ _, [], _, _, h => by cases h
  | (_, true) :: _, .cons _ _, [], _, _, h => by cases h
theorem exP_len {l : List (Nat × Bool)} : ∀ {es : Es} {ρ : En} {Q : List Sl × En → Prop} {R : Xn → Prop}, (exP o l es ρ).w Q R → (exP o l es ρ).w (fun p => Q p ∧ p.1.length = l.length) R := by
  induction l with
  | nil =>
    intro es ρ Q R q
    cases es with
    | nil => exact ⟨q, rfl⟩
    | _ => exact q.elim
  | cons a l ih =>
    intro es ρ Q R q
    obtain ⟨i, b⟩ := a
    cases es with
    | cons e es =>
      cases b with
      | false =>
        refine M.mono (exE o e ρ) (Q := fun p => (exP o l es p.2).w (fun r => Q (.val p.1 :: r.1, r.2)) R) (fun p q => ?_) (fun _ q => q) q
        exact M.mono (exP o l es p.2) (Q := fun r => Q (.val p.1 :: r.1, r.2) ∧ r.1.length = l.length) (fun r q => ⟨q.1, congrArg (· + 1) q.2⟩) (fun _ q => q) (ih q)
      | true =>
        refine M.mono (exF o e ρ) (Q := fun p => (exP o l es p.2).w (fun r => Q (.own p.1 :: r.1, r.2)) R) (fun p q => ?_) (fun _ q => q) q
        exact M.mono (exP o l es p.2) (Q := fun r => Q (.own p.1 :: r.1, r.2) ∧ r.1.length = l.length) (fun r q => ⟨q.1, congrArg (· + 1) q.2⟩) (fun _ q => q) (ih q)
    | _ => cases b <;> exact q.elim
/-! the statement -/
/-- two names, three -/
def asPar2 : Stmt → Option (Str × Pos × Str × Pos × Expr × Expr)
  | .Assign [.Tuple [.Name x px, .Name y py] _ _] (.Tuple [a, b] _ _) _ => some (x, px, y, py, a, b)
  | _ => none
def asPar3 : Stmt → Option (Str × Pos × Str × Pos × Str × Pos × Expr × Expr × Expr)
  | .Assign [.Tuple [.Name x px, .Name y py, .Name u pu] _ _] (.Tuple [a, b, d] _ _) _ => some (x, px, y, py, u, pu, a, b, d)
  | _ => none
theorem asPar2_ok {s : Stmt} {x y : Str} {px py : Pos} {a b : Expr} (h : asPar2 s = some (x, px, y, py, a, b)) : ∃ k p k2 p2 q, s = .Assign [.Tuple [.Name x px, .Name y py] k p] (.Tuple [a, b] k2 p2) q := by
  unfold asPar2 at h; split at h <;> first | (cases h; done) | (cases h; exact ⟨_, _, _, _, _, rfl⟩)
theorem asPar3_ok {s : Stmt} {x y u : Str} {px py pu : Pos} {a b d : Expr} (h : asPar3 s = some (x, px, y, py, u, pu, a, b, d)) : ∃ k p k2 p2 q, s = .Assign [.Tuple [.Name x px, .Name y py, .Name u pu] k p] (.Tuple [a, b, d] k2 p2) q := by
  unfold asPar3 at h; split at h <;> first | (cases h; done) | (cases h; exact ⟨_, _, _, _, _, rfl⟩)
def chkPar (g : Gx) (sc : Scope) (l : List (Nat × Bool)) (es : Es) (s : Stmt) : Bool := match l with
  | [(i, _), (j, _)] => optB (asPar2 s) fun t => g.N[i]? == some t.1 && (g.N[j]? == some t.2.2.1 && (decide (i ≠ j) && (parB2 sc t.1 t.2.2.1 t.2.1 t.2.2.2.1 t.2.2.2.2.1 t.2.2.2.2.2 && chkP g sc l es [t.2.2.2.2.1, t.2.2.2.2.2])))
  | [(i, _), (j, _), (m, _)] => optB (asPar3 s) fun t => g.N[i]? == some t.1 && (g.N[j]? == some t.2.2.1 && (g.N[m]? == some t.2.2.2.2.1 && (decide (i ≠ j) && (decide (i ≠ m) && (decide (j ≠ m) &&
      (parB3 sc t.1 t.2.2.1 t.2.2.2.2.1 t.2.1 t.2.2.2.1 t.2.2.2.2.2.1 t.2.2.2.2.2.2.1 t.2.2.2.2.2.2.2.1 t.2.2.2.2.2.2.2.2 && chkP g sc l es [t.2.2.2.2.2.2.1, t.2.2.2.2.2.2.2.1, t.2.2.2.2.2.2.2.2]))))))
  | _ => false
theorem setE_len (ρ : En) (i : Nat) (s : Sl) : (setE ρ i s).length = ρ.length := by rw [setE_eq, List.length_set]
theorem setE_comm (ρ : En) {i j : Nat} (s t : Sl) (h : i ≠ j) : setE (setE ρ i s) j t = setE (setE ρ j t) i s := by rw [setE_eq, setE_eq, setE_eq, setE_eq, List.set_comm _ _ h]
theorem setE_app (ρ : En) {i : Nat} (s t : Sl) (h : i < ρ.length) : setE (ρ ++ [t]) i s = setE ρ i s ++ [t] := by rw [setE_eq, setE_eq, List.set_append_left _ _ h]
/-! ### .. where the names aren't all plain locals: by a tuple -/
theorem SOk.via {c : Cn} {z : Fz} {H0 H : Hp} {σ σ' : L2.St} {ρ ρ' : En} (f : Nat → Nat) (so : SOk c H0 z H σ ρ) (hl : ρ'.length = σ'.length) (hv : ∀ j, j < ρ'.length → ρ'[j]? = ρ[f j]? ∧ σ'[j]? = σ[f j]?) (inj : ∀ j k, j < ρ'.length → k < ρ'.length → f j = f k → j = k) : SOk c H0 z H σ' ρ' := by
  have lt : ∀ {j : Nat} {t : Sl}, ρ'[j]? = some t → j < ρ'.length := fun h => (List.getElem?_eq_some_iff.mp h).1
  refine ⟨hl, fun j e h => ?_, fun j xs h => ?_, fun j k xs ys q h1 h2 h3 h4 => ?_⟩
  · obtain ⟨e1, e2⟩ := hv j (lt h)
    rw [e1] at h; rw [e2]; exact so.val _ e h
  · obtain ⟨e1, e2⟩ := hv j (lt h)
    rw [e1] at h; rw [e2]; exact so.own _ xs h
  · have j1 := lt h1
    have k1 := lt h2
    obtain ⟨e1, e2⟩ := hv j j1
    obtain ⟨e3, e4⟩ := hv k k1
    rw [e1] at h1; rw [e3] at h2; rw [e2] at h3; rw [e4] at h4
    exact inj j k j1 k1 (so.sep _ _ xs ys q h1 h2 h3 h4)
theorem SOk.pullM {c : Cn} {z : Fz} {H0 H : Hp} {σ τ : L2.St} {ρ κ : En} {x : Option V} {s : Sl} {i : Nat} (hl : ρ.length = σ.length) (hk : κ.length = τ.length) (hi : i < ρ.length) (so : SOk c H0 z H (σ ++ x :: τ) (ρ ++ s :: κ)) : SOk c H0 z H (σ.set i x ++ τ) (setE ρ i s ++ κ) := by
  rw [setE_eq]
  refine so.via (fun j => if j = i then ρ.length else if j < ρ.length then j else j + 1) (by simp [hl, hk]) (fun j hj => ?_) fun j k hj hk' e => ?_
  · by_cases e : j = i
    · subst e
      rw [if_pos rfl]
      refine ⟨?_, ?_⟩
      · rw [List.getElem?_append_left (by simpa using hi), List.getElem?_set_self hi, List.getElem?_append_right (Nat.le_refl _)]; simp
      · rw [List.getElem?_append_left (by simpa [← hl] using hi), List.getElem?_set_self (by rw [← hl]; exact hi), List.getElem?_append_right (by omega), hl]; simp
    · rw [if_neg e]
      by_cases h : j < ρ.length
      · rw [if_pos h]
        refine ⟨?_, ?_⟩
        · rw [List.getElem?_append_left (by simpa using h), List.getElem?_set_ne (Ne.symm e), List.getElem?_append_left h]
        · rw [List.getElem?_append_left (by simpa [← hl] using h), List.getElem?_set_ne (Ne.symm e), List.getElem?_append_left (by rw [← hl]; exact h)]
      · rw [if_neg h]
        refine ⟨?_, ?_⟩
        · rw [List.getElem?_append_right (by simp; omega), List.getElem?_append_right (by omega), List.length_set, show j + 1 - ρ.length = j - ρ.length + 1 by omega, List.getElem?_cons_succ]
        · rw [List.getElem?_append_right (by simp; omega), List.getElem?_append_right (by omega), List.length_set, ← hl, show j + 1 - ρ.length = j - ρ.length + 1 by omega, List.getElem?_cons_succ]
  · have e : (if j = i then ρ.length else if j < ρ.length then j else j + 1) = (if k = i then ρ.length else if k < ρ.length then k else k + 1) := e
    split at e <;> split at e <;> first | omega | skip
    all_goals (split at e <;> first | omega | skip)
    all_goals (split at e <;> omega)
def setAll : L2.St → List (Nat × Bool) → List V → L2.St
  | σ, (i, _) :: l, v :: vs => setAll (σ.set i (some v)) l vs
  | σ, _, _ => σ
theorem pulls {c : Cn} {z : Fz} {H0 H : Hp} : ∀ (l : List (Nat × Bool)) (sls : List Sl) (vs : List V) (σ : L2.St) (ρ : En), ρ.length = σ.length → (∀ p ∈ l, p.1 < ρ.length) → vs.length = l.length → sls.length = l.length → SOk c H0 z H (σ ++ vs.map some) (ρ ++ sls) → SOk c H0 z H (setAll σ l vs) (putS l sls ρ)
  | [], [], [], σ, ρ, _, _, _, _, so => by simpa [setAll, putS] using so
  | (i, b) :: l, s :: sls, v :: vs, σ, ρ, hl, hb, h1, h2, so => by
    have so1 := so.pullM (x := some v) (s := s) (τ := vs.map some) (κ := sls) hl (by simp at h1 h2 ⊢; omega) (hb _ List.mem_cons_self)
    exact pulls l sls vs _ _ (by rw [setE_len]; simp [hl]) (fun p hp => by rw [setE_len]; exact hb p (List.mem_cons_of_mem _ hp)) (by simpa using h1) (by simpa using h2) so1
  | [], _ :: _, _, _, _, _, _, _, h2, _ => by cases h2
  | [], [], _ :: _, _, _, _, _, h1, _, _ => by cases h1
  | _ :: _, [], _, _, _, _, _, _, h2, _ => by cases h2
  | _ :: _, _ :: _, [], _, _, _, _, h1, _, _ => by cases h1
theorem tgSs_nms {K : PySem.W.Frag} {H : Hp} {Q : L2.St → Hp → Prop} : ∀ (l : List (Nat × Bool)) (vs : List V) (σ : L2.St), vs.length = l.length → Q (setAll σ l vs) H → tgSs K (l.map fun p => .nm p.1) vs σ H Q
  | [], [], σ, _, q => ⟨rfl, q⟩
  | (i, b) :: l, v :: vs, σ, h, q => ⟨v, vs, rfl, tgSs_nms l vs _ (by simpa using h) q⟩
  | [], _ :: _, _, h, _ => by cases h
  | _ :: _, [], _, h, _ => by cases h
def asAsgT : Stmt → Option (List Expr × List Expr)
  | .Assign [.Tuple ts _ _] (.Tuple xs _ _) _ => some (ts, xs)
  | _ => none
theorem asAsgT_ok {s : Stmt} {ts xs : List Expr} (h : asAsgT s = some (ts, xs)) : ∃ k p k2 p2 q, s = .Assign [.Tuple ts k p] (.Tuple xs k2 p2) q := by
  unfold asAsgT at h; split at h <;> first | (cases h; done) | (cases h; exact ⟨_, _, _, _, _, rfl⟩)
def notLoc (sc : Scope) : Expr → Bool
  | .Name y _ => !(sc.names.lookup y == some .local)
  | _ => true
def parX (sc : Scope) (ts : List Expr) : Bool := !(ts.length == 2 || ts.length == 3) || ts.any (notLoc sc)
def chkParN (g : Gx) (sc : Scope) (l : List (Nat × Bool)) (es : Es) (s : Stmt) : Bool := optB (asAsgT s) fun t => chkTSs g.N sc (l.map fun p => .nm p.1) t.1 && (chkP g sc l es t.2 && (parX sc t.1 && decide (l.length ≤ 100)))
theorem filterMap_lt {α β : Type} {f : α → Option β} : ∀ {l : List α} {x : α}, x ∈ l → f x = none → (l.filterMap f).length < l.length
  | a :: l, x, h, e => by
    rcases List.mem_cons.mp h with rfl | h
    · rw [List.filterMap_cons, e]; exact Nat.lt_succ_of_le (List.length_filterMap_le _ _)
    · have := filterMap_lt h e
      rw [List.filterMap_cons]
      split
      · exact Nat.lt_succ_of_lt this
      · exact Nat.succ_lt_succ this
theorem swN {ts xs : List Expr} {k k2 : Nat} {p p2 : Pos} {env : Env} (h : parX env.scope ts = true) : swappedStores [.Tuple ts k p] (.Tuple xs k2 p2) env = pure none := by
  unfold swappedStores
  dsimp only
  split
  · rfl
  · rename_i h1
    split
    · rfl
    · split
      · rfl
      · rename_i h3
        exfalso
        have h1 : (ts.length == 2 || ts.length == 3) = true := by
          cases q : (ts.length == 2 || ts.length == 3) with
          | true => rfl
          | false => rw [q] at h1; exact absurd (by simp) h1
        unfold parX at h
        rw [h1] at h
        simp only [Bool.not_true, Bool.false_or] at h
        obtain ⟨x, hx, hn⟩ := List.any_eq_true.mp h
        refine h3 ?_
        rw [Bool.or_eq_true]
        left
        rw [bne_iff_ne]
        refine Nat.ne_of_lt (filterMap_lt hx ?_)
        cases x <;> first | rfl | skip
        rename_i y py
        have hn : (!(env.scope.names.lookup y == some .local)) = true := hn
        have hn : (env.scope.names.lookup y == some .local) = false := by rw [Bool.not_eq_true'] at hn; exact hn
        show (if (env.kindOf y == some .local && _) = true then some y else none) = none
        have : (env.kindOf y == some .local) = false := hn
        rw [this]
        rfl
theorem Wf.newT {c : Cn} {z : Fz} {H : Hp} {p : Addr} {vs : List V} (w : Wf c z H) (hp : H p = none) : Wf c z (L2.upd H p (.tup vs)) := by
  refine ⟨fun b u e => ?_, fun a ha => ?_, w.tb, w.ts.ext fun b u e => by rw [upd_ne (ne_of_none e hp)]; exact e, w.cl.ext (.refl z) rfl fun b q e => by rw [upd_ne (ne_of_none e hp)]; exact e⟩
  · rw [upd_ne (fun q => by rw [q] at e; rw [w.f p u e] at hp; cases hp)]; exact w.f b u e
  · obtain ⟨⟨i, j, k, e⟩, e2⟩ := w.hs a ha
    rw [upd_ne (ne_of_none e hp)]; exact ⟨⟨i, j, k, e⟩, e2⟩
theorem Ext.newT {z z' : Fz} {H H' : Hp} {p : Addr} {vs : List V} (x : Ext z H z' H') (hp : H' p = none) : Ext z H z' (L2.upd H' p (.tup vs)) where
  keep := fun b o e n t => by
    have := x.keep b o e n t
    rw [upd_ne (ne_of_none this hp)]; exact this
  there := fun b e => by
    have := x.there b e
    rw [upd_ne (fun (q : b = p) => this (by rw [q]; exact hp))]; exact this
  le := x.le
  fn := x.fn
  hn := x.hn
  ce := x.ce
  se := x.se
theorem SOk.newT {c : Cn} {z : Fz} {H0 H : Hp} {σ : L2.St} {ρ : En} {p : Addr} {vs : List V} (so : SOk c H0 z H σ ρ) (hp : H p = none) : SOk c H0 z (L2.upd H p (.tup vs)) σ ρ :=
  ⟨so.len, so.val, fun i xs h => by
    obtain ⟨q, us, e1, e2, e3⟩ := so.own i xs h
    exact ⟨q, us, e1, ⟨by rw [upd_ne (ne_of_none e2.at_ hp)]; exact e2.at_, e2.nf, e2.nh⟩, e3⟩, so.sep⟩
theorem parN_ok (T : Tx c g o k X E) {l : List (Nat × Bool)} {es : Es} {s : Stmt} (h : chkParN g X.env.scope l es s = true) : PS X s (tS c E (evS o (.par l es))) := by
  obtain ⟨⟨ts, xs⟩, hy, h⟩ := optB_ok h
  obtain ⟨_, _, _, _, _, rfl⟩ := asAsgT_ok hy
  obtain ⟨h1, ha⟩ := ba3 h
  obtain ⟨h2, hb⟩ := ba3 ha
  obtain ⟨h3, h4⟩ := ba3 hb
  have h4 := of_decide_eq_true h4
  refine PS.imp (ps_asg (pe_tup (PA.ex fun (p : (Fz × Hp) × (Fz × Nat)) => soundP T (z0 := p.1.1) (H0 := p.1.2) (zl := p.2.1) (n := p.2.2) l es xs [] [] h2)) (tgS_ok T.S.nd T.S.calm T.locs (.tp (l.map fun p => .nm p.1)) (.Tuple ts _ _) (by rw [T.S.hN]; exact h1)) rfl (swN h3) (by rw [assignEach_cons rfl] <;> rfl)) fun D' σ H ⟨z0, H0, zl, z, ρ, at_, q⟩ => ?_
  have q : (if (l.all fun p => decide (p.1 < ρ.length)) = true then M.bind (exP o l es ρ) fun p => ret (.nx (putS l p.1 p.2)) else stuck : M Fl).w (PD c z0 H0 zl D') (Px c z0 H0 E) := q
  split at q
  · rename_i hb
    have hlen : ∀ p ∈ l, p.1 < ρ.length := fun p hp => of_decide_eq_true (List.all_eq_true.mp hb p hp)
    refine ⟨((z0, H0), (zl, ρ.length)), z, ρ, at_.so.len.symm, rfl, by simpa using at_, M.mono _ (fun p pp vs H' z' a' hl' hv => ?_) (fun _ p => p) (exP_len q)⟩
    obtain ⟨pp, hpl⟩ := pp
    have hs : l.length ≤ sizeLine := Nat.le_trans h4 (by decide)
    have hv2 : vs.length = l.length := by rw [hv]; exact hpl
    refine ⟨by rw [hv2]; exact hs, fun t ht => ?_⟩
    refine ⟨t, vs, rfl, SqT.of upd_same, by simpa using hv2, tgSs_nms l vs σ hv2 ?_⟩
    have hl0 : p.2.length = σ.length := by rw [hl']; exact at_.so.len
    refine pp _ _ z' ⟨a'.w.newT ht, a'.x.newT ht, a'.l, SOk.newT ?_ ht⟩
    exact pulls l p.1 vs σ p.2 hl0 (fun q hq => by rw [hl']; exact hlen q hq) hv2 hpl (by simpa using a'.so)
  · exact q.elim
theorem par_ok (T : Tx c g o k X E) {l : List (Nat × Bool)} {es : Es} {s : Stmt} (h : chkPar g X.env.scope l es s = true) : PS X s (tS c E (evS o (.par l es))) := by
  match l, h with
  | [(i, b1), (j, b2)], h =>
    obtain ⟨⟨x, px, y, py, a, b⟩, hy, h⟩ := optB_ok h
    obtain ⟨_, _, _, _, _, rfl⟩ := asPar2_ok hy
    obtain ⟨h1, r1⟩ := ba3 h
    obtain ⟨h2, r2⟩ := ba3 r1
    obtain ⟨h3, r3⟩ := ba3 r2
    obtain ⟨h4, h5⟩ := ba3 r3
    have hij := of_decide_eq_true h3
    obtain ⟨l1, q1⟩ := ba3 h4
    obtain ⟨l2, _⟩ := ba3 q1
    refine PS.imp (ps_par T.S.calm T.S.nd (by rw [T.S.hN]; exact beq_iff_eq.mp h1) (by rw [T.S.hN]; exact beq_iff_eq.mp h2) hij (beq_iff_eq.mp l1) (beq_iff_eq.mp l2)
      (PA.ex fun (p : (Fz × Hp) × (Fz × Nat)) => soundP T (z0 := p.1.1) (H0 := p.1.2) (zl := p.2.1) (n := p.2.2) [(i, b1), (j, b2)] es [a, b] [] [] h5) (sw2 T.kind h4)) fun D' σ H ⟨z0, H0, zl, z, ρ, at_, q⟩ => ?_
    have q : (if ([(i, b1), (j, b2)].all fun p => decide (p.1 < ρ.length)) = true then M.bind (exP o [(i, b1), (j, b2)] es ρ) fun p => ret (.nx (putS [(i, b1), (j, b2)] p.1 p.2)) else stuck : M Fl).w (PD c z0 H0 zl D') (Px c z0 H0 E) := q
    split at q
    · rename_i hb
      have hlen : i < ρ.length ∧ j < ρ.length := by simpa using hb
      refine ⟨((z0, H0), (zl, ρ.length)), z, ρ, at_.so.len.symm, rfl, by simpa using at_, M.mono _ (fun p pp vs H' z' a' hl' hv => ?_) (fun _ p => p) (exP_len q)⟩
      obtain ⟨pp, hpl⟩ := pp
      obtain ⟨sls, ρ'⟩ := p
      match sls, hpl, vs, hv with
      | [s1, s2], _, [v1, v2], _ =>
        refine ⟨v1, v2, rfl, pp _ H' z' ⟨a'.w, a'.x, a'.l, ?_⟩⟩
        have hl0 : ρ'.length = σ.length := by
          have := a'.so.len
          simp at this
          omega
        have hl' : ρ'.length = ρ.length := hl'
        have so : SOk c H0 z' H' ((σ ++ [some v1]) ++ [some v2]) ((ρ' ++ [s1]) ++ [s2]) := by simpa [List.append_assoc] using a'.so
        have so1 := so.pull (i := j) (by simp [hl0]) (by simp; omega)
        rw [setE_app _ _ _ (by rw [hl']; exact hlen.2), List.set_append_left _ _ (by rw [← hl0, hl']; exact hlen.2)] at so1
        have so2 := so1.pull (i := i) (by simp [setE_len, hl0]) (by rw [setE_len, hl']; exact hlen.1)
        rw [List.set_comm _ _ (Ne.symm hij), setE_comm _ _ _ (Ne.symm hij)] at so2
        exact so2
    · exact q.elim
  | [(i, b1), (j, b2), (m, b3)], h =>
    obtain ⟨⟨x, px, y, py, u, pu, a, b, d⟩, hy, h⟩ := optB_ok h
    obtain ⟨_, _, _, _, _, rfl⟩ := asPar3_ok hy
    obtain ⟨h1, r1⟩ := ba3 h
    obtain ⟨h2, r2⟩ := ba3 r1
    obtain ⟨h3, r3⟩ := ba3 r2
    obtain ⟨h4, r4⟩ := ba3 r3
    obtain ⟨h5, r5⟩ := ba3 r4
    obtain ⟨h6, r6⟩ := ba3 r5
    obtain ⟨h7, h8⟩ := ba3 r6
    have hij := of_decide_eq_true h4
    have him := of_decide_eq_true h5
    have hjm := of_decide_eq_true h6
    obtain ⟨l1, q1⟩ := ba3 h7
    obtain ⟨l2, q2⟩ := ba3 q1
    obtain ⟨l3, _⟩ := ba3 q2
    refine PS.imp (ps_par3 T.S.calm T.S.nd (by rw [T.S.hN]; exact beq_iff_eq.mp h1) (by rw [T.S.hN]; exact beq_iff_eq.mp h2) (by rw [T.S.hN]; exact beq_iff_eq.mp h3) hij him hjm (beq_iff_eq.mp l1) (beq_iff_eq.mp l2) (beq_iff_eq.mp l3)
      (PA.ex fun (p : (Fz × Hp) × (Fz × Nat)) => soundP T (z0 := p.1.1) (H0 := p.1.2) (zl := p.2.1) (n := p.2.2) [(i, b1), (j, b2), (m, b3)] es [a, b, d] [] [] h8) (sw3 T.kind h7)) fun D' σ H ⟨z0, H0, zl, z, ρ, at_, q⟩ => ?_
    have q : (if ([(i, b1), (j, b2), (m, b3)].all fun p => decide (p.1 < ρ.length)) = true then M.bind (exP o [(i, b1), (j, b2), (m, b3)] es ρ) fun p => ret (.nx (putS [(i, b1), (j, b2), (m, b3)] p.1 p.2)) else stuck : M Fl).w (PD c z0 H0 zl D') (Px c z0 H0 E) := q
    split at q
    · rename_i hb
      have hlen : i < ρ.length ∧ j < ρ.length ∧ m < ρ.length := by simpa using hb
      refine ⟨((z0, H0), (zl, ρ.length)), z, ρ, at_.so.len.symm, rfl, by simpa using at_, M.mono _ (fun p pp vs H' z' a' hl' hv => ?_) (fun _ p => p) (exP_len q)⟩
      obtain ⟨pp, hpl⟩ := pp
      obtain ⟨sls, ρ'⟩ := p
      match sls, hpl, vs, hv with
      | [s1, s2, s3], _, [v1, v2, v3], _ =>
        refine ⟨v1, v2, v3, rfl, pp _ H' z' ⟨a'.w, a'.x, a'.l, ?_⟩⟩
        have hl0 : ρ'.length = σ.length := by
          have := a'.so.len
          simp at this
          omega
        have hl' : ρ'.length = ρ.length := hl'
        have so : SOk c H0 z' H' (((σ ++ [some v1]) ++ [some v2]) ++ [some v3]) (((ρ' ++ [s1]) ++ [s2]) ++ [s3]) := by simpa [List.append_assoc] using a'.so
        have so1 := so.pull (i := m) (by simp [hl0]) (by simp; omega)
        rw [setE_app _ _ _ (by simp; omega), setE_app _ _ _ (by rw [hl']; exact hlen.2.2), List.set_append_left _ _ (by simp; omega), List.set_append_left _ _ (by rw [← hl0, hl']; exact hlen.2.2)] at so1
        have so2 := so1.pull (i := j) (by simp [setE_len, hl0]) (by simp [setE_len]; omega)
        rw [setE_app _ _ _ (by rw [setE_len, hl']; exact hlen.2.1), List.set_append_left _ _ (by simp; omega)] at so2
        have so3 := so2.pull (i := i) (by simp [setE_len, hl0]) (by rw [setE_len, setE_len, hl']; exact hlen.1)
        have e1 : ((σ.set m (some v3)).set j (some v2)).set i (some v1) = ((σ.set i (some v1)).set j (some v2)).set m (some v3) := by
          rw [List.set_comm _ _ (Ne.symm hjm), List.set_comm _ _ (Ne.symm him), List.set_comm _ _ (Ne.symm hij)]
        have e2 : setE (setE (setE ρ' m s3) j s2) i s1 = setE (setE (setE ρ' i s1) j s2) m s3 := by
          rw [setE_comm _ _ _ (Ne.symm hjm), setE_comm _ _ _ (Ne.symm him), setE_comm _ _ _ (Ne.symm hij)]
        rw [e1, e2] at so3
        exact so3
    · exact q.elim
  | [], h => cases h
  | [_], h => cases h
  | _ :: _ :: _ :: _ :: _, h => cases h
end
end Ev
set_option Elab.async false
set_option linter.all false
set_option maxRecDepth 100000
set_option maxHeartbeats 4000000
/-! Ev, part V2: a walk over an own list, which stays an own one. -/
namespace Ev
open PySem PySem.Spec PyProof.Rows L2
open Classical
def tOw (K : PySem.W.Frag) (i : Nat) : TI := fun σ H R => ∃ p vs, σ[i]? = some (some (.ref p)) ∧ H p = some (.lst vs) ∧ ∀ J, Walk J vs.length (fun H' => SqL K H' p vs) (YAt vs) → R J H
theorem pi_ow {c : Cn} {X : Cx} (hK : X.K = c.K) {tg e : Expr} {i : Nat} (he : PE X e (tVar i)) : PI X tg e (tOw c.K i) := by
  refine ⟨fun pins s σ H R I h => ?_⟩
  obtain ⟨p, vs, h1, h2, q⟩ := h
  refine thn (he.run pins s σ H (fun x H1 => x = .ref p ∧ H1 = H) I ⟨_, h1, rfl, rfl⟩) fun u s1 ⟨x, H1, I1, r1, ex, eH⟩ => ?_
  subst ex eH
  cases r1
  obtain ⟨its, rv, pp, hz⟩ := I1.list (SqL.of h2)
  refine wpAny_pyIter_list pp.isList ?_
  refine pi_one (tk := s1.toks) I1 _ (turn_list p _) ⟨_, Heap.get?_push_size _ rfl, rfl, rfl⟩ (q _ ?_)
  exact hK ▸ walk_list
def pinZ (z : Fz) (p : Addr) : Fz := { z with sf := fun b => b = p }
noncomputable def pinH (H0 H : Hp) (p : Addr) : Hp := fun b => if b = p then H p else H0 b
theorem nosEn_val {ρ : En} (h : nosEn ρ = true) : ∀ (i : Nat) (d : D), ρ[i]? = some (.val d) → d.nos = true := by
  induction ρ with
  | nil => intro i d e; simp at e
  | cons s r ih =>
    intro i d e
    have h2 : nosEn r = true := by
      cases s with
      | no => exact h
      | val d' => exact (Bool.and_eq_true_iff.mp h).2
      | own xs => exact (Bool.and_eq_true_iff.mp h).2
    cases i with
    | zero =>
      simp at e
      subst e
      exact (Bool.and_eq_true_iff.mp h).1
    | succ i => exact ih h2 i d (by simpa using e)
theorem nosEn_own {ρ : En} (h : nosEn ρ = true) : ∀ (i : Nat) (xs : List D), ρ[i]? = some (.own xs) → D.nosL xs = true := by
  induction ρ with
  | nil => intro i d e; simp at e
  | cons s r ih =>
    intro i d e
    have h2 : nosEn r = true := by
      cases s with
      | no => exact h
      | val d' => exact (Bool.and_eq_true_iff.mp h).2
      | own xs => exact (Bool.and_eq_true_iff.mp h).2
    cases i with
    | zero =>
      simp at e
      subst e
      exact (Bool.and_eq_true_iff.mp h).1
    | succ i => exact ih h2 i d (by simpa using e)
theorem isSlfAt_ok : ∀ {ρ : En} {i : Nat}, isSlfAt ρ i = true → ρ[i]? = some (.val .slf)
  | [], _, h => by cases h
  | s :: r, 0, h => by
    cases s with
    | val d => cases d <;> first | rfl | cases h
    | _ => cases h
  | s :: r, i + 1, h => by
    have h' : isSlfAt r i = true := by
      cases s with
      | val d => cases d <;> exact h
      | _ => exact h
    simpa using isSlfAt_ok h'
section
variable {c : Cn} {z0 zl z z2 : Fz} {H0 H H2 : Hp} {σ σ2 : L2.St} {ρ ρ2 : En} {i : Nat} {xs : List D} {p : Addr} {vs : List V}
theorem pin_rep {d : D} {v : V} (hn : d.nos = true) (r : Rep c.K c.mg z v d) : Rep c.K c.mg (pinZ z p) v d := Rep.nosTo (z := z) (z' := pinZ z p) (fun _ _ h => h) (fun _ h => h) (fun _ _ _ _ _ h => h) d v hn r
theorem pin_repL {ds : List D} {us : List V} (hn : D.nosL ds = true) (r : RepL c.K c.mg z us ds) : RepL c.K c.mg (pinZ z p) us ds := RepL.nosTo (z := z) (z' := pinZ z p) (fun _ _ h => h) (fun _ h => h) (fun _ _ _ _ _ h => h) ds us hn r
/-- the list at p out of reach, p told by the mark -/
theorem At.pin (a : At c z0 H0 zl z H σ ρ) (hx : ρ[i]? = some (.own xs)) (e1 : σ[i]? = some (some (.ref p))) (e2 : Ow z H p vs) (e3 : H0 p = none) (hn : nosEn ρ = true) :
    At c (pinZ z0 p) (pinH H0 H p) (pinZ z p) (pinZ z p) H σ (setE ρ i (.val .slf)) := by
  have hi : i < ρ.length := (List.getElem?_eq_some_iff.mp hx).1
  refine ⟨⟨a.w.f, a.w.hs, a.w.tb, a.w.ts, ⟨a.w.cl.to, a.w.cl.co, fun q hq => pin_repL (a.w.cl.no q hq) (a.w.cl.rp q hq), a.w.cl.no⟩⟩, ⟨fun b o e nh nt => ?_, fun b e => ?_, ⟨a.x.le.f, a.x.le.h, a.x.le.c, fun _ h => h⟩, fun b o e1' e2' => ?_, fun b hb => ?_, a.x.ce, rfl⟩, .refl _, ?_⟩
  · have e : (if b = p then H p else H0 b) = some o := e
    by_cases hb : b = p
    · rw [if_pos hb] at e; rw [hb]; exact e
    · rw [if_neg hb] at e; exact a.x.keep b o e nh nt
  · have e : (if b = p then H p else H0 b) ≠ none := e
    by_cases hb : b = p
    · rw [if_pos hb] at e; rw [hb]; exact e
    · rw [if_neg hb] at e; exact a.x.there b e
  · have e1' : (if b = p then H p else H0 b) ≠ none := e1'
    have e2' : z.F b = some o := e2'
    by_cases hb : b = p
    · rw [hb, e2.nf] at e2'; cases e2'
    · rw [if_neg hb] at e1'; exact a.x.fn b o e1' e2'
  · have hb : z.hs b := hb
    by_cases hq : b = p
    · rw [hq] at hb; exact absurd hb e2.nh
    · rcases a.x.hn b hb with h | h
      · exact .inl h
      · exact .inr (by show (if b = p then H p else H0 b) = none; rw [if_neg hq]; exact h)
  · rw [setE_eq]
    refine ⟨by rw [List.length_set]; exact a.so.len, fun j d h => ?_, fun j ys h => ?_, fun j k ys us q h1 h2 h3 h4 => ?_⟩
    · by_cases hj : i = j
      · subst hj
        rw [List.getElem?_set_self hi] at h
        cases h
        exact ⟨_, e1, .slf rfl⟩
      · rw [List.getElem?_set_ne hj] at h
        obtain ⟨x, h1, h2⟩ := a.so.val j d h
        exact ⟨x, h1, pin_rep (nosEn_val hn j d h) h2⟩
    · have hj : i ≠ j := fun e => by
        subst e
        rw [List.getElem?_set_self hi] at h; cases h
      rw [List.getElem?_set_ne hj] at h
      obtain ⟨q, ws, f1, f2, f3, f4⟩ := a.so.own j ys h
      have hq : q ≠ p := fun e => by
        subst e
        exact hj (a.so.sep i j xs ys q hx h e1 f1)
      exact ⟨q, ws, f1, ⟨f2.at_, f2.nf, f2.nh⟩, by show (if q = p then H p else H0 q) = none; rw [if_neg hq]; exact f3, pin_repL (nosEn_own hn j ys h) f4⟩
    · have hj : i ≠ j := fun e => by
        subst e
        rw [List.getElem?_set_self hi] at h1; cases h1
      have hk : i ≠ k := fun e => by
        subst e
        rw [List.getElem?_set_self hi] at h2; cases h2
      rw [List.getElem?_set_ne hj] at h1
      rw [List.getElem?_set_ne hk] at h2
      exact a.so.sep j k ys us q h1 h2 h3 h4
def unZ (z z2 : Fz) : Fz := { z2 with sf := z.sf }
theorem un_rep {d : D} {v : V} (hn : d.nos = true) (r : Rep c.K c.mg z2 v d) : Rep c.K c.mg (unZ z z2) v d := Rep.nosTo (z := z2) (z' := unZ z z2) (fun _ _ h => h) (fun _ h => h) (fun _ _ _ _ _ h => h) d v hn r
theorem un_repL {ds : List D} {us : List V} (hn : D.nosL ds = true) (r : RepL c.K c.mg z2 us ds) : RepL c.K c.mg (unZ z z2) us ds := RepL.nosTo (z := z2) (z' := unZ z z2) (fun _ _ h => h) (fun _ h => h) (fun _ _ _ _ _ h => h) ds us hn r
/-- the world behind, the mark taken off -/
theorem un_world (a : At c z0 H0 zl z H σ ρ) (e2 : Ow z H p vs) (w2 : Wf c z2 H2) (x2 : Ext (pinZ z0 p) (pinH H0 H p) z2 H2) : Wf c (unZ z0 z2) H2 ∧ Ext z0 H0 (unZ z0 z2) H2 := by
  refine ⟨⟨w2.f, w2.hs, w2.tb, w2.ts, ⟨w2.cl.to, w2.cl.co, fun q hq => un_repL (w2.cl.no q hq) (w2.cl.rp q hq), w2.cl.no⟩⟩, ⟨fun b o e nh nt => ?_, fun b e => ?_, ⟨x2.le.f, x2.le.h, x2.le.c, fun _ h => h⟩, fun b o f1 f2 => ?_, fun b hb => ?_, x2.ce, rfl⟩⟩
  · by_cases hb : b = p
    · refine x2.keep b o ?_ nh nt
      show (if b = p then H p else H0 b) = some o
      rw [if_pos hb, ← hb]
      exact a.x.keep b o e nh nt
    · exact x2.keep b o (by show (if b = p then H p else H0 b) = some o; rw [if_neg hb]; exact e) nh nt
  · refine x2.there b ?_
    show (if b = p then H p else H0 b) ≠ none
    by_cases hb : b = p
    · rw [if_pos hb, ← hb]; exact a.x.there b e
    · rw [if_neg hb]; exact e
  · refine x2.fn b o ?_ f2
    show (if b = p then H p else H0 b) ≠ none
    by_cases hb : b = p
    · rw [if_pos hb, ← hb]; exact a.x.there b f1
    · rw [if_neg hb]; exact f1
  · rcases x2.hn b hb with h | h
    · exact .inl h
    · have h : (if b = p then H p else H0 b) = none := h
      by_cases hb2 : b = p
      · rw [if_pos hb2, e2.at_] at h; cases h
      · rw [if_neg hb2] at h; exact .inr h
theorem pin_ow (a : At c z0 H0 zl z H σ ρ) (e2 : Ow z H p vs) (x2 : Ext (pinZ z0 p) (pinH H0 H p) z2 H2) : Ow z2 H2 p vs := by
  have hp : pinH H0 H p p = some (.lst vs) := by show (if p = p then H p else H0 p) = _; rw [if_pos rfl]; exact e2.at_
  have nh0 : ¬ (pinZ z0 p).hs p := fun h => e2.nh (a.x.le.h p h)
  refine ⟨x2.keep p _ hp nh0 (fun _ e => by cases e), ?_, fun h => ?_⟩
  · cases e : z2.F p with
    | none => rfl
    | some o =>
      have h1 := x2.fn p o (by rw [hp]; simp) e
      have h2 := a.x.le.f p o h1
      rw [e2.nf] at h2; cases h2
  · rcases x2.hn p h with h | h
    · exact nh0 h
    · rw [hp] at h; cases h
/-- .. and the list in reach again -/
theorem At.unpin (a : At c z0 H0 zl z H σ ρ) (e2 : Ow z H p vs) (e3 : H0 p = none) (e4 : RepL c.K c.mg z vs xs) (a2 : At c (pinZ z0 p) (pinH H0 H p) (pinZ z p) z2 H2 σ2 ρ2) (hs : isSlfAt ρ2 i = true) (hn : nosEn (setE ρ2 i .no) = true) :
    At c z0 H0 zl (unZ z0 z2) H2 σ2 (setE ρ2 i (.own xs)) := by
  have hx := isSlfAt_ok hs
  have hi : i < ρ2.length := (List.getElem?_eq_some_iff.mp hx).1
  obtain ⟨w3, x3⟩ := un_world a e2 a2.w a2.x
  have ow := pin_ow a e2 a2.x
  have lz : z.Le (unZ z0 z2) := ⟨a2.l.f, a2.l.h, a2.l.c, fun b h => by have := a.x.se; rw [this] at h; exact h⟩
  have hσ : σ2[i]? = some (some (.ref p)) := by
    obtain ⟨x, f1, f2⟩ := a2.so.val i _ hx
    cases f2 with
    | slf h =>
      have : z2.sf = fun b => b = p := a2.x.se
      rw [this] at h
      rw [f1, h]
  rw [setE_eq] at hn
  have hnv : ∀ (j : Nat) (d : D), i ≠ j → ρ2[j]? = some (.val d) → d.nos = true := fun j d hj e => nosEn_val hn j d (by rw [List.getElem?_set_ne hj]; exact e)
  have hno : ∀ (j : Nat) (ys : List D), i ≠ j → ρ2[j]? = some (.own ys) → D.nosL ys = true := fun j d hj e => nosEn_own hn j d (by rw [List.getElem?_set_ne hj]; exact e)
  refine ⟨w3, x3, a.l.trans lz, ?_⟩
  rw [setE_eq]
  have own2 : ∀ (j : Nat) (ys : List D), i ≠ j → ρ2[j]? = some (.own ys) → ∃ q ws, σ2[j]? = some (some (.ref q)) ∧ Ow (unZ z0 z2) H2 q ws ∧ H0 q = none ∧ RepL c.K c.mg (unZ z0 z2) ws ys ∧ q ≠ p := fun j ys hj h => by
    obtain ⟨q, ws, f1, f2, f3, f4⟩ := a2.so.own j ys h
    have f3 : (if q = p then H p else H0 q) = none := f3
    have hq : q ≠ p := fun e => by rw [if_pos e, e2.at_] at f3; cases f3
    rw [if_neg hq] at f3
    exact ⟨q, ws, f1, ⟨f2.at_, f2.nf, f2.nh⟩, f3, un_repL (hno j ys hj h) f4, hq⟩
  refine ⟨by rw [List.length_set]; exact a2.so.len, fun j d h => ?_, fun j ys h => ?_, fun j k ys us q h1 h2 h3 h4 => ?_⟩
  · have hj : i ≠ j := fun e => by
      subst e
      rw [List.getElem?_set_self hi] at h; cases h
    rw [List.getElem?_set_ne hj] at h
    obtain ⟨x, f1, f2⟩ := a2.so.val j d h
    exact ⟨x, f1, un_rep (hnv j d hj h) f2⟩
  · by_cases hj : i = j
    · subst hj
      rw [List.getElem?_set_self hi] at h
      cases h
      exact ⟨p, vs, hσ, ⟨ow.at_, ow.nf, ow.nh⟩, e3, e4.mono lz⟩
    · rw [List.getElem?_set_ne hj] at h
      obtain ⟨q, ws, f1, f2, f3, f4, _⟩ := own2 j ys hj h
      exact ⟨q, ws, f1, f2, f3, f4⟩
  · by_cases hj : i = j
    · by_cases hk : i = k
      · rw [← hj, ← hk]
      · subst hj
        rw [List.getElem?_set_ne hk] at h2
        obtain ⟨q', ws, f1, _, _, _, hq⟩ := own2 k us hk h2
        rw [hσ] at h3; cases h3
        rw [f1] at h4; cases h4
        exact absurd rfl hq
    · by_cases hk : i = k
      · subst hk
        rw [List.getElem?_set_ne hj] at h1
        obtain ⟨q', ws, f1, _, _, _, hq⟩ := own2 j ys hj h1
        rw [hσ] at h4; cases h4
        rw [f1] at h3; cases h3
        exact absurd rfl hq
      · rw [List.getElem?_set_ne hj] at h1
        rw [List.getElem?_set_ne hk] at h2
        exact a2.so.sep j k ys us q h1 h2 h3 h4
end
theorem nosL_get : ∀ {xs : List D} {k : Nat} {d : D}, D.nosL xs = true → xs[k]? = some d → d.nos = true
  | [], _, _, _, h => by simp at h
  | x :: xs, 0, d, h, e => by
    simp at e
    subst e
    exact (Bool.and_eq_true_iff.mp h).1
  | x :: xs, k + 1, d, h, e => nosL_get (Bool.and_eq_true_iff.mp h).2 (by simpa using e)
theorem endW_nx {i : Nat} {xs : List D} {ρ : En} {P : Fl → Prop} {R : Xn → Prop} (h : (endW i xs (.nx ρ)).w P R) : isSlfAt ρ i = true ∧ nosEn (setE ρ i .no) = true ∧ P (.nx (setE ρ i (.own xs))) := by
  have h : (if (isSlfAt ρ i && nosEn (setE ρ i .no)) = true then ret (.nx (setE ρ i (.own xs))) else stuck : M Fl).w P R := h
  by_cases e : (isSlfAt ρ i && nosEn (setE ρ i .no)) = true
  · rw [if_pos e] at h
    obtain ⟨e1, e2⟩ := Bool.and_eq_true_iff.mp e
    exact ⟨e1, e2, h⟩
  · rw [if_neg e] at h
    exact h.elim
end Ev
set_option Elab.async false
set_option linter.all false
set_option maxRecDepth 100000
set_option maxHeartbeats 4000000
/-! Ev, part W: statements: what the meaning says is what the model does. -/
namespace Ev
open PySem PySem.Spec PyProof.Rows L2
section
variable (g : Gx)
mutual
def chkS (sc : Scope) : S → Stmt → Bool
  | .expr e, s => optB (asExprS s) fun x => notComp x && chkE g sc e x
  | .ret e, s => optB (asRet s) fun x => chkE g sc e x
  | .retN, s => isRetN s
  | .set t e, s => optB (asAsg s) fun u => plainX u.1 && (chkTS g.N sc t u.1 && (notComp u.2 && (notTup u.2 && chkE g sc e u.2)))
  | .own i e, s => optB (asAsg s) fun u => optB (asName u.1) fun y => ownN g.N sc i y && (isFr e && chkE g sc e u.2)
  | .par l es, s => chkPar g sc l es s || chkParN g sc l es s
  | .setitem i k e, s => optB (asAsg s) fun u => optB (asSubN u.1) fun t => rdN g.N sc i t.1 && (notComp u.2 && (notTup u.2 && (chkE g sc e u.2 && (chkE g sc k t.2 && plainX t.2))))
  | .append i e, s => optB (asExprS s) fun x => optB (asMth1 x) fun t => rdN g.N sc i t.1 && (t.2.1 == ("append" : Str) && (t.2.2.2 && (plainX t.2.2.1 && chkE g sc e t.2.2.1)))
  | .remove i e, s => optB (asExprS s) fun x => optB (asMth1 x) fun t => rdN g.N sc i t.1 && (t.2.1 == ("remove" : Str) && (t.2.2.2 && (plainX t.2.2.1 && chkE g sc e t.2.2.1)))
  | .apop i j e, s => optB (asExprS s) fun x => optB (asMth1 x) fun t => optB (asMth1 t.2.2.1) fun u => rdN g.N sc i t.1 && (t.2.1 == ("append" : Str) && (t.2.2.2 && (rdN g.N sc j u.1 && (u.2.1 == ("pop" : Str) && (u.2.2.2 && (plainX u.2.2.1 && chkE g sc e u.2.2.1))))))
  | .ifs e a b, s => optB (asIfS s) fun t => noIf t.1 && (chkE g sc e t.1 && (chkSs sc a t.2.1 && chkSs sc b t.2.2))
  | .for_ t it b, s => optB (asFor s) fun u => chkI g sc it u.1 u.2.1 && (chkTS g.N sc t u.1 && chkSs sc b u.2.2)
  | .forw t i b, s => optB (asFor s) fun u => chkI g sc (.val (.var i)) u.1 u.2.1 && (chkTS g.N sc t u.1 && chkSs sc b u.2.2)
  | .while_ e b, s => optB (asWhile s) fun t => noIf t.1 && (chkE g sc e t.1 && chkSs sc b t.2)
  | .pass, s => isPass s
  | .brk, s => isBrk s
  | .cont, s => isCont s
  | .bad, _ => true
def chkSs (sc : Scope) : Ss → List Stmt → Bool
  | .nil, [] => true
  | .cons s r, x :: xs => chkS sc s x && chkSs sc r xs
  | _, _ => false
end
end
/-! ### remove -/
theorem place_py (d : D) (i : Nat) (hi : d.dep = some i) : ∀ (ys : List D) (n j : Nat), D.depL ys = some n → D.place d ys = some j → SeqAt.dataPlace (D.toPyL ys) d.toPy = some j
  | [], _, _, _, h => by cases h
  | y :: ys, n, j, hn, h => by
    obtain ⟨a, b, d1, d2, rfl⟩ := D.depL_cons hn
    unfold D.place at h
    unfold SeqAt.dataPlace
    rw [List.findIdx?_cons] at h
    show List.findIdx? (fun y => PyData.eqv y d.toPy) (y.toPy :: D.toPyL ys) = some j
    rw [List.findIdx?_cons]
    have e : PyData.eqv y.toPy d.toPy = D.eq y d := (D.eq_py y d _ _ d1 hi).symm
    rw [e]
    cases q : D.eq y d with
    | true => rw [q] at h; exact h
    | false =>
      rw [q] at h
      simp only [Bool.false_eq_true, if_false] at h ⊢
      obtain ⟨j', h1, h2⟩ := Option.map_eq_some_iff.mp h
      subst h2
      have := place_py d i hi ys b j' d2 h1
      unfold SeqAt.dataPlace at this
      rw [this]; rfl
def rRemD (X : Cx) (c : Cn) : V → List V → Hp → VK → Prop := fun x vs H Q => ∃ (z : Fz) (p : Addr) (us : List V) (ys : List D) (d : D) (y : V) (j : Nat), x = .ref p ∧ vs = [y] ∧ H p = some (.lst us) ∧ Wf c z H ∧ RepL c.K c.mg z us ys ∧ Rep c.K c.mg z y d ∧ D.eqOk d (.lst ys) ∧ D.place d ys = some j ∧
  Q .non (upd H p (.lst (us.eraseIdx j)))
theorem mt_removeD {c : Cn} {X : Cx} (hK : X.K = c.K) (hu : X.A.units + 70 < cLine) : MtM X "list.remove" (rRemD X c) := by
  intro pins s σ H x xs v us0 Q I rx rxs h
  obtain ⟨z, p, us, ys, d, y, j, rfl, rfl, hH, w, rl, rd, ok, hp, q⟩ := h
  cases rx
  obtain ⟨u, rfl, ru⟩ := vals1 rxs
  obtain ⟨hz, its, n, r, hl, e0⟩ := I.lstM hH
  obtain ⟨i, j', hi, hj, hm⟩ := ok
  obtain ⟨n', hn, e9⟩ := Option.map_eq_some_iff.mp (show (D.depL ys).map (· + 1) = some j' from hj)
  obtain ⟨p1, q1, q2⟩ := Rep.dp_all (H := H) w.f d i y hi rd
  rw [← hK] at p1
  obtain ⟨as, rr⟩ := Dp.reads I _ _ _ p1 ru
  obtain ⟨e1, e2⟩ := each_of hK I w rl r (fun d' hd' => by
    obtain ⟨k, hk⟩ := List.mem_iff_getElem?.mp hd'
    obtain ⟨a, h1, _⟩ := D.depL_get hn hk
    exact ⟨a, h1⟩)
  obtain ⟨bs, rall⟩ := PySem.W.each_readsAll D.toPy e2
  have em : ∀ l : List D, l.map D.toPy = D.toPyL l := fun l => by
    induction l with
    | nil => rfl
    | cons a l ih => show a.toPy :: l.map D.toPy = a.toPy :: D.toPyL l; rw [ih]
  rw [em] at rall
  obtain ⟨k1, k2⟩ := plain_depL ys n' hn
  have hlt : ∃ h0 : j < ys.length, True := by
    have := List.findIdx?_eq_some_iff_findIdx_eq.mp hp
    exact ⟨this.1, trivial⟩
  have hj2 : j < its.length := by rw [← hl, rl.length]; exact hlt.1
  refine SeqAt.remove_list_data (vs := its.toArray) (j := j) ⟨_, e0, rfl, _, rfl⟩ (by simpa using rall) rr k1 q2 (by rw [k2, q1]; omega) (place_py d i hi ys n' j hn hp) (by rw [List.size_toArray, ← hl]; exact hz) ?_
  have r2 : Vals (us.eraseIdx j) (its.eraseIdx j) := r.eraseIdx j
  refine ⟨.non, _, I.lset (its' := its.eraseIdx j) hH e0 ?_ r2 ?_, rfl, q⟩
  · show its.toArray.eraseIdxIfInBounds j = (its.eraseIdx j).toArray
    rw [List.eraseIdxIfInBounds_toArray]
  · exact Nat.le_trans (List.length_eraseIdx_le _ _) hz
section
variable {c : Cn} {g : Gx} {o : Ora} {k : Nat} {X : Cx} {E : XK}
mutual
theorem soundS (T : Tx c g o k X E) : ∀ (s : S) (x : Stmt), chkS g X.env.scope s x = true → PS X x (tS c E (evS o s))
  | .expr e, x, h => by
    obtain ⟨y, hy, h⟩ := optB_ok h
    obtain ⟨p, rfl⟩ := asExprS_ok hy
    obtain ⟨h1, h2⟩ := ba3 h
    refine PS.imp (ps_expr (PE.ex fun v => soundE e _ X _ T.S T.tk v y h2) (sw_not h1 _ _ _)) fun D' σ H ⟨z0, H0, zl, z, ρ, a, q⟩ => ?_
    obtain ⟨v, q⟩ := ex0 a (show (exE o e ρ).w (fun p => PD c z0 H0 zl D' (.nx p.2)) _ from q)
    exact ⟨v, tM.mono q fun x H1 ⟨z1, d, ρ1, a1, r, p⟩ => p σ H1 z1 a1⟩
  | .ret e, x, h => by
    obtain ⟨y, hy, h⟩ := optB_ok h
    obtain ⟨p, rfl⟩ := asRet_ok hy
    refine PS.imp (ps_ret (PE.ex fun v => soundE e _ X _ T.S T.tk v y h)) fun D' σ H ⟨z0, H0, zl, z, ρ, a, q⟩ => ?_
    obtain ⟨v, q⟩ := ex0 a (show (exE o e ρ).w (fun p => PD c z0 H0 zl D' (.rt p.1)) _ from q)
    exact ⟨v, tM.mono q fun x H1 ⟨z1, d, ρ1, a1, r, p⟩ => p x H1 z1 a1.w a1.x r⟩
  | .retN, x, h => by
    obtain ⟨p, rfl⟩ := isRetN_ok h
    exact PS.imp ps_retN fun D' σ H ⟨z0, H0, zl, z, ρ, a, q⟩ => q _ H z a.w a.x .non
  | .set t e, x, h => by
    obtain ⟨⟨tg, y⟩, hy, h⟩ := optB_ok h
    obtain ⟨p, rfl⟩ := asAsg_ok hy
    obtain ⟨h0, ha⟩ := ba3 h
    obtain ⟨h1, hb⟩ := ba3 ha
    obtain ⟨h2, hd⟩ := ba3 hb
    obtain ⟨h3, h4⟩ := ba3 hd
    refine PS.imp (ps_asg (PE.ex fun v => soundE e _ X _ T.S T.tk v y h4) (tgS_ok T.S.nd T.S.calm T.locs t tg (by rw [T.S.hN]; exact h1)) (sw_not h2 _ _ _) (swStores_not h3 _) (by rw [assignEach_cons h0] <;> rfl)) fun D' σ H ⟨z0, H0, zl, z, ρ, a, q⟩ => ?_
    obtain ⟨v, q⟩ := ex0 a (show (exE o e ρ).w (fun p => (M.bind (M.ofO (bindS t p.1 p.2)) fun ρ => ret (.nx ρ)).w (PD c z0 H0 zl D') (Px c z0 H0 E)) _ from q)
    refine ⟨v, tM.mono q fun x H1 ⟨z1, d, ρ1, a1, r, p⟩ => ?_⟩
    obtain ⟨ρ2, e2, p⟩ := ofO_w p
    rw [T.S.hK]
    exact bindS_ok t d x z1 H1 σ ρ1 ρ2 _ a1.w a1.x r a1.so e2 fun σ' H' w' x' so' => p σ' H' z1 ⟨w', x', a1.l, so'⟩
  | .own i e, x, h => by
    obtain ⟨⟨tg, y⟩, hy, h⟩ := optB_ok h
    obtain ⟨p, rfl⟩ := asAsg_ok hy
    obtain ⟨n, hn, h⟩ := optB_ok h
    obtain ⟨q, rfl⟩ := asName_ok hn
    obtain ⟨h1, ha⟩ := ba3 h
    obtain ⟨h2, h3⟩ := ba3 ha
    refine PS.imp (own_asg T h1 h2 h3) fun D' σ H ⟨z0, H0, zl, z, ρ, a, q⟩ => ?_
    obtain ⟨v, q⟩ := exF0 a (show (exF o e ρ).w (fun p => PD c z0 H0 zl D' (.nx (setE p.2 i (.own p.1)))) _ from q)
    refine ⟨v, tF.mono q fun x H1 ⟨z1, ds, ρ1, p, vs, ex, a1, o1, hp, r, nn, pd⟩ => ?_⟩
    subst ex
    exact pd _ H1 z1 ⟨a1.w, a1.x, a1.l, a1.so.setO o1 hp r fun j xs _ hj => nn j xs hj⟩
  | .par l es, x, h => by
    have h : (chkPar g X.env.scope l es x || chkParN g X.env.scope l es x) = true := h
    rcases Bool.or_eq_true_iff.mp h with h | h
    · exact par_ok T h
    · exact parN_ok T h
  | .setitem i kk e, x, h => by
    obtain ⟨⟨tg, y⟩, hy, h⟩ := optB_ok h
    obtain ⟨p, rfl⟩ := asAsg_ok hy
    obtain ⟨⟨n, ix⟩, hn, h⟩ := optB_ok h
    obtain ⟨pa, pb, rfl⟩ := asSubN_ok hn
    obtain ⟨h1, ha⟩ := ba3 h
    obtain ⟨h2, hb⟩ := ba3 ha
    obtain ⟨h3, hd⟩ := ba3 hb
    obtain ⟨h4, he⟩ := ba3 hd
    obtain ⟨h5, h6⟩ := ba3 he
    refine PS.imp (ps_asg (PE.ex fun v => soundE e _ X _ T.S T.tk v y h4) (pg_sub (rd_ok T.S h1) (PE.ex fun v => soundE kk _ X _ T.S T.tk v ix h5) set_list (asg_plain h6)) (sw_not h2 (some (.Subscript (.Name n pa) ix pb)) p.line X.env) (swStores_not h3 _) rfl) fun D' σ H ⟨z0, H0, zl, z, ρ, a, q⟩ => ?_
    obtain ⟨v, q⟩ := ex0 a q
    refine ⟨v, tM.mono q fun x H1 ⟨z1, d, ρ1, a1, r, p⟩ => ?_⟩
    obtain ⟨xs, hxs, p⟩ := own_w p
    obtain ⟨b, vs, e1, e2, e3, e4⟩ := a1.so.own i xs hxs
    obtain ⟨v2, q2⟩ := ex0 (zl := z1) ⟨a1.w, a1.x, .refl _, a1.so⟩ p
    refine ⟨_, e1, v2, tM.mono q2 fun x2 H2 ⟨z2, d2, ρ2, a2, r2, p⟩ => ?_⟩
    obtain ⟨ys, hys, p⟩ := own_w p
    obtain ⟨b', us, f1, f2, f3, f4⟩ := a2.so.own i ys hys
    rw [e1] at f1; cases f1
    cases d2 <;> first | exact p.elim | skip
    obtain ⟨jj, hj, p⟩ := ofO_w p
    refine ⟨b, us, _, jj, rfl, r2.int_inv, f2.at_, by rw [f4.length]; exact hj, p _ _ z2 ⟨a2.w.upd f2, a2.x.upd f3, a1.l.trans a2.l, a2.so.upd hys e1 f2 f3 (RepL.set (r.mono a2.l) jj f4)⟩⟩
  | .append i e, x, h => by
    obtain ⟨y, hy, h⟩ := optB_ok h
    obtain ⟨p, rfl⟩ := asExprS_ok hy
    obtain ⟨⟨n, m, ex, b⟩, hn, h⟩ := optB_ok h
    obtain ⟨_, ap, cp, rfl, hb⟩ := asMth1_ok hn
    obtain ⟨h1, ha⟩ := ba3 h
    obtain ⟨h2, hc⟩ := ba3 ha
    obtain ⟨h3, hd⟩ := ba3 hc
    obtain ⟨h4, h5⟩ := ba3 hd
    obtain rfl : m = ("append" : Str) := beq_iff_eq.mp h2
    refine PS.imp (ps_expr (pe_bm F.plainAttrs_list F.slot_list_append F.type_list_append mt_append (rd_ok T.S h1) (pa_cons (PE.ex fun v => soundE e _ X _ T.S T.tk v ex h5) pa_nil (star_plain h4)) rfl (few_one h4) (by first | exact h3 | exact hb.trans h3) (star_plain h4) rfl) rfl) fun D' σ H ⟨z0, H0, zl, z, ρ, a, q⟩ => ?_
    obtain ⟨xs, hxs, q⟩ := own_w q
    obtain ⟨b, vs, e1, e2, e3, e4⟩ := a.so.own i xs hxs
    obtain ⟨v, q⟩ := ex0 a q
    refine ⟨_, e1, .inl ⟨rfl, vs, .inl (.inl e2.at_)⟩, v, tM.mono q fun x H1 ⟨z1, d, ρ1, a1, r, p⟩ => ?_⟩
    obtain ⟨ys, hys, p⟩ := own_w p
    obtain ⟨b', us, f1, f2, f3, f4⟩ := a1.so.own i ys hys
    rw [e1] at f1; cases f1
    obtain ⟨hl, p⟩ := p
    exact ⟨b, us, x, rfl, rfl, f2.at_, by rw [f4.length]; exact hl, p _ _ z1 ⟨a1.w.upd f2, a1.x.upd f3, a1.l, a1.so.upd hys e1 f2 f3 (f4.append (.cons r .nil))⟩⟩
  | .remove i e, x, h => by
    obtain ⟨y, hy, h⟩ := optB_ok h
    obtain ⟨p, rfl⟩ := asExprS_ok hy
    obtain ⟨⟨n, m, ex, b⟩, hn, h⟩ := optB_ok h
    obtain ⟨_, ap, cp, rfl, hb⟩ := asMth1_ok hn
    obtain ⟨h1, ha⟩ := ba3 h
    obtain ⟨h2, hc⟩ := ba3 ha
    obtain ⟨h3, hd⟩ := ba3 hc
    obtain ⟨h4, h5⟩ := ba3 hd
    obtain rfl : m = ("remove" : Str) := beq_iff_eq.mp h2
    have hu : X.A.units + 70 < cLine := by have := T.S.room.un; omega
    refine PS.imp (ps_expr (pe_bm F.plainAttrs_list F.slot_list_remove F.type_list_remove (mt_removeD T.S.hK hu) (rd_ok T.S h1) (pa_cons (PE.ex fun v => soundE e _ X _ T.S T.tk v ex h5) pa_nil (star_plain h4)) rfl (few_one h4) (by first | exact h3 | exact hb.trans h3) (star_plain h4) rfl) rfl) fun D' σ H ⟨z0, H0, zl, z, ρ, a, q⟩ => ?_
    obtain ⟨xs, hxs, q⟩ := own_w q
    obtain ⟨b, vs, e1, e2, e3, e4⟩ := a.so.own i xs hxs
    obtain ⟨v, q⟩ := ex0 a q
    refine ⟨_, e1, .inl ⟨rfl, vs, .inl (.inl e2.at_)⟩, v, tM.mono q fun x H1 ⟨z1, d, ρ1, a1, r, p⟩ => ?_⟩
    obtain ⟨ys, hys, p⟩ := own_w p
    obtain ⟨b', us, f1, f2, f3, f4⟩ := a1.so.own i ys hys
    rw [e1] at f1; cases f1
    obtain ⟨ok, p⟩ := p
    obtain ⟨j, hj, p⟩ := ofO_w p
    exact ⟨z1, b, us, ys, d, x, j, rfl, rfl, f2.at_, a1.w, f4, r, ok, hj, p _ _ z1 ⟨a1.w.upd f2, a1.x.upd f3, a1.l, a1.so.upd hys e1 f2 f3 (f4.erase j)⟩⟩
  | .apop i j e, x, h => by
    obtain ⟨y, hy, h⟩ := optB_ok h
    obtain ⟨p, rfl⟩ := asExprS_ok hy
    obtain ⟨⟨n, m, ex, b⟩, hn, h⟩ := optB_ok h
    obtain ⟨_, ap, cp, rfl, hb⟩ := asMth1_ok hn
    obtain ⟨⟨n2, m2, ex2, b2⟩, hn2, hh⟩ := optB_ok h
    obtain ⟨pn2, ap2, cp2, rfl, hb2⟩ := asMth1_ok hn2
    obtain ⟨h1, ha⟩ := ba3 hh
    obtain ⟨h2, hc⟩ := ba3 ha
    obtain ⟨h3, hd⟩ := ba3 hc
    obtain ⟨h4, he⟩ := ba3 hd
    obtain ⟨h5, hf⟩ := ba3 he
    obtain ⟨h6, hg⟩ := ba3 hf
    obtain ⟨h7, h8⟩ := ba3 hg
    obtain rfl : m = ("append" : Str) := beq_iff_eq.mp h2
    obtain rfl : m2 = ("pop" : Str) := beq_iff_eq.mp h5
    have hpop := pe_bm F.plainAttrs_list F.slot_list_pop F.type_list_pop mt_popAt (rd_ok T.S h4 (p := pn2)) (pa_cons (PE.ex fun v => soundE e _ X _ T.S T.tk v ex2 h8) pa_nil (star_plain h7)) (apos := ap2) (cpos := cp2) rfl (few_one h7) (by first | exact h6 | exact hb2.trans h6) (star_plain h7) rfl
    refine PS.imp (ps_expr (pe_bm F.plainAttrs_list F.slot_list_append F.type_list_append mt_append (rd_ok T.S h1) (pa_cons hpop pa_nil rfl) rfl rfl (by first | exact h3 | exact hb.trans h3) rfl rfl) rfl) fun D' σ H ⟨z0, H0, zl, z, ρ, a, q⟩ => ?_
    obtain ⟨xs0, hxs0, q⟩ := own_w q
    obtain ⟨ys0, hys0, q⟩ := own_w q
    obtain ⟨b1, vs1, e1, e2, _⟩ := a.so.own i xs0 hxs0
    obtain ⟨b3, vs2, g1, g2, _⟩ := a.so.own j ys0 hys0
    obtain ⟨v, q⟩ := ex0 a q
    refine ⟨_, e1, .inl ⟨rfl, vs1, .inl (.inl e2.at_)⟩, _, g1, .inl ⟨rfl, vs2, .inl (.inl g2.at_)⟩, v, tM.mono q fun x H1 ⟨z1, d, ρ1, a1, r, p⟩ => ?_⟩
    cases d <;> first | exact p.elim | skip
    obtain ⟨ys, hys, p⟩ := own_w p
    obtain ⟨b4, us, f1, f2, f3, f4⟩ := a1.so.own j ys hys
    rw [g1] at f1; cases f1
    obtain ⟨⟨n1, n2⟩, p⟩ := p
    obtain ⟨jj, hj, p⟩ := ofO_w p
    obtain ⟨dd, hd, p⟩ := ofO_w p
    obtain ⟨s1, s2, s3, s4⟩ := ixN_seq hj
    obtain ⟨yv, hyv, ry⟩ := f4.getD hd
    have so2 := a1.so.upd hys g1 f2 f3 (RepL.erase jj f4)
    obtain ⟨xs, hxs, p⟩ := own_w p
    obtain ⟨b5, ws, k1, k2, k3, k4⟩ := so2.own i xs hxs
    rw [e1] at k1; cases k1
    obtain ⟨hl, p⟩ := p
    refine ⟨b3, us, _, jj, yv, rfl, by rw [r.int_inv], f2.at_, n1, n2, by rw [f4.length]; exact s1, hyv, ?_⟩
    exact ⟨b1, ws, yv, rfl, rfl, k2.at_, by rw [k4.length]; exact hl, p _ _ z1 ⟨(a1.w.upd f2).upd k2, (a1.x.upd f3).upd k3, a1.l, so2.upd hxs e1 k2 k3 (k4.append (.cons ry .nil))⟩⟩
  | .ifs e a b, x, h => by
    obtain ⟨⟨t, y, y2⟩, hy, h⟩ := optB_ok h
    obtain ⟨p, rfl⟩ := asIfS_ok hy
    obtain ⟨h1, ha⟩ := ba3 h
    obtain ⟨h2, hb⟩ := ba3 ha
    obtain ⟨h3, h4⟩ := ba3 hb
    refine PS.imp (ps_if (PT.ex fun v => soundT e _ X _ T.S T.tk v t h1 h2) (soundSs T a y h3) (soundSs T b y2 h4)) fun D' σ H ⟨z0, H0, zl, z, ρ, a, q⟩ => ?_
    obtain ⟨v, q⟩ := exT0 a q
    refine ⟨v, tMB.mono q fun kk H1 ⟨z1, a1, p⟩ => ?_⟩
    cases kk with
    | true => exact ⟨z0, H0, zl, z1, ρ, a1, p⟩
    | false => exact ⟨z0, H0, zl, z1, ρ, a1, p⟩
  | .for_ t it b, x, h => by
    obtain ⟨⟨tg, y, body⟩, hy, h⟩ := optB_ok h
    obtain ⟨p, rfl⟩ := asFor_ok hy
    obtain ⟨h1, ha⟩ := ba3 h
    obtain ⟨h2, h3⟩ := ba3 ha
    have hg := tgS_ok T.S.nd T.S.calm T.locs t tg (by rw [T.S.hN]; exact h2)
    have hb := soundSs T b body h3
    rw [T.S.hK] at hg
    -- from the walk on: anchored at zi
    have go : ∀ (z0 : Fz) (H0 : Hp) (zl : Fz) (D' : Ends) (J : L2.It) (σ : L2.St) (H1 : Hp) (zi z1 : Fz) (ρ1 : En) (ds : List D), Wk c ds zi J → zl.Le zi → At c z0 H0 zi z1 H1 σ ρ1 → (forL t (fun ρ => evSs o b ρ) ds ρ1).w (PD c z0 H0 zl D') (Px c z0 H0 E) →
        ∃ W : Nat → Nat → L2.St → Hp → Prop, (∃ m, W 0 m σ H1) ∧ ∀ i m σ H, W i m σ H → (J.stop i H ∧ D'.nx σ H) ∨ (J.go i H ∧ ∃ N : L2.St → Hp → Prop, (∀ σ' H', N σ' H' → ∃ m', m' < m ∧ W (i + 1) m' σ' H') ∧ ∀ x H', J.yld i H x H' → tgS c.K t x σ H' fun σ2 H2 => tS c E (evSs o b) { D' with nx := N, ct := N, bk := D'.nx } σ2 H2) := by
      intro z0 H0 zl D' J σ H1 zi z1 ρ1 ds wk lli a1 q
      obtain ⟨G, Y, wl, hG, hY⟩ := wk
      refine for_it (g := tgS c.K t) (tb := tS c E (evSs o b)) wl (Pv := fun i σ H => ∃ z ρ, At c z0 H0 zi z H σ ρ ∧ (forL t (fun ρ => evSs o b ρ) (ds.drop i) ρ).w (PD c z0 H0 zl D') (Px c z0 H0 E)) ⟨z1, ρ1, a1, q⟩ ?_ ?_ ?_
      · rintro i σ H hi ⟨z, ρ, a, _⟩
        exact hG z H a.w a.l
      · rintro i x σ H H' hi ⟨z, ρ, a, q⟩ yy
        obtain ⟨z2, d, w2, x2, hd, rd⟩ := hY i z H x H' hi a.w a.l yy
        have ed : ds.drop i = d :: ds.drop (i + 1) := by
          have hlt : i < ds.length := hi
          rw [List.drop_eq_getElem_cons hlt]
          rw [List.getElem?_eq_getElem hlt] at hd
          rw [Option.some.inj hd]
        rw [ed] at q
        obtain ⟨ρ2, e2, q⟩ := ofO_w (show (M.ofO (bindS t d ρ)).w _ _ from q)
        have so2 : SOk c H0 z2 H' σ ρ := ⟨a.so.len, fun i d h => by
          obtain ⟨x, h1, h2⟩ := a.so.val i d h
          exact ⟨x, h1, h2.mono x2.le⟩, fun i xs h => by
          obtain ⟨p, vs, e1, e2, e3, e4⟩ := a.so.own i xs h
          exact ⟨p, vs, e1, e2.ext x2, e3, e4.mono x2.le⟩, a.so.sep⟩
        refine bindS_ok t d x z2 H' σ ρ ρ2 _ w2 (a.x.trans x2) rd so2 e2 fun σ3 H3 w3 x3 so3 => ?_
        refine ⟨z0, H0, zi, z2, ρ2, ⟨w3, x3, a.l.trans x2.le, so3⟩, M.mono _ (fun f p => ?_) (fun _ p => p) q⟩
        cases f with
        | nx ρ4 => exact fun σ5 H5 z5 a5 => ⟨z5, ρ4, a5, p⟩
        | ct ρ4 => exact fun σ5 H5 z5 a5 => ⟨z5, ρ4, a5, p⟩
        | bk ρ4 => exact fun σ5 H5 z5 a5 => p σ5 H5 z5 ⟨a5.w, a5.x, lli.trans a5.l, a5.so⟩
        | rt d => exact fun x5 H5 z5 w5 x5' r => p x5 H5 z5 w5 x5' r
      · rintro σ H ⟨z, ρ, a, q⟩
        rw [List.drop_length] at q
        exact q σ H z ⟨a.w, a.x, lli.trans a.l, a.so⟩
    have fold := chkI_plain h1 X.env
    cases hr : it.isRng with
    | false =>
      refine PS.imp (ps_for T.pass T.S.calm (PI.ex fun v => soundI it _ X _ T.S T.tk v tg y h1) hg hb fold) fun D' σ H ⟨z0, H0, zl, z, ρ, a, q⟩ => ?_
      have q : (evI o it (vw it.vars 0 ρ)).w (fun ds => (forL t (fun ρ => evSs o b ρ) ds (if it.isRng = true then ρ else frz it.vars 0 ρ)).w (PD c z0 H0 zl D') (Px c z0 H0 E)) (Px c z0 H0 E) := q
      rw [hr] at q
      obtain ⟨v, q⟩ := exI0 a q
      obtain ⟨z', w', o', q⟩ := q
      refine ⟨v, z', w', o', M.mono _ (fun ds p J H' z'' w'' x'' wk => ?_) (fun _ p => p) q⟩
      obtain ⟨z1, ds, a1, wk, p⟩ := p J H' z'' w'' x'' wk
      exact go z0 H0 zl D' J σ H' z1 z1 _ ds wk a1.l ⟨a1.w, a1.x, .refl _, a1.so⟩ p
    | true =>
      obtain ⟨es, rfl⟩ : ∃ es, it = .rng es := by cases it <;> first | exact ⟨_, rfl⟩ | cases hr
      refine PS.imp (ps_for T.pass T.S.calm (PI.ex fun v => soundR T.S T.tk v h1) hg hb fold) fun D' σ H ⟨z0, H0, zl, z, ρ, a, q⟩ => ?_
      have q : (evI o (.rng es) (vw (Ev.It.rng es).vars 0 ρ)).w (fun ds => (forL t (fun ρ => evSs o b ρ) ds ρ).w (PD c z0 H0 zl D') (Px c z0 H0 E)) (Px c z0 H0 E) := q
      obtain ⟨v, q⟩ := exR0 a q
      obtain ⟨z', w', o', q⟩ := q
      refine ⟨v, z', w', o', M.mono _ (fun ds p J H' z'' w'' x'' wk => ?_) (fun _ p => p) q⟩
      obtain ⟨z1, ds, a1, wk, p⟩ := p J H' z'' w'' x'' wk
      exact go z0 H0 zl D' J σ H' zl z1 _ ds (wk zl) (.refl _) a1 p
  | .forw t i b, x, h => by
    obtain ⟨⟨tg, y, body⟩, hy, h⟩ := optB_ok h
    obtain ⟨p, rfl⟩ := asFor_ok hy
    obtain ⟨h1, ha⟩ := ba3 h
    obtain ⟨h2, h3⟩ := ba3 ha
    have hg := tgS_ok T.S.nd T.S.calm T.locs t tg (by rw [T.S.hN]; exact h2)
    have hb := soundSs T b body h3
    rw [T.S.hK] at hg
    have fold := chkI_plain h1 X.env
    have hv : PE X y (tVar i) := by
      obtain ⟨_, h5⟩ := ba3 h1
      obtain ⟨y', hy', h5⟩ := optB_ok h5
      obtain ⟨p', rfl⟩ := asName_ok hy'
      obtain ⟨h6, hc⟩ := ba3 h5
      obtain ⟨h7, h8⟩ := ba3 hc
      obtain ⟨o1, o2, _⟩ := okName_ok h8
      exact pe_var (i := i) (by rw [T.S.hN]; exact beq_iff_eq.mp h6) (visB_ok h7) o1 o2
    refine PS.imp (ps_for T.pass T.S.calm (pi_ow T.S.hK hv) hg hb fold) fun D' σ H ⟨z0, H0, zl, z, ρ, a, q⟩ => ?_
    obtain ⟨xs, hxs, hn, q⟩ := own_w q
    obtain ⟨pa, vs, e1, e2, e3, e4⟩ := a.so.own i xs hxs
    refine ⟨pa, vs, e1, e2.at_, fun J wl => ?_⟩
    have q : (forL t (fun ρ => evSs o b ρ) xs (setE ρ i (.val .slf))).w (fun f => (endW i xs f).w (PD c z0 H0 zl D') (Px c z0 H0 E)) (fun _ => False) := q
    have A := At.pin a hxs e1 e2 e3 hn
    have hlen : vs.length = xs.length := e4.length
    refine for_it (g := tgS c.K t) (tb := tS c E (evSs o b)) wl (Pv := fun k σ' H' => ∃ z' ρ', At c (pinZ z0 pa) (pinH H0 H pa) (pinZ z pa) z' H' σ' ρ' ∧ (forL t (fun ρ => evSs o b ρ) (xs.drop k) ρ').w (fun f => (endW i xs f).w (PD c z0 H0 zl D') (Px c z0 H0 E)) (fun _ => False)) ⟨_, _, A, q⟩ ?_ ?_ ?_
    · rintro k σ' H' hk ⟨z', ρ', a', _⟩
      exact SqL.of (pin_ow a e2 a'.x).at_
    · rintro k x σ' H' H'' hk ⟨z', ρ', a', q⟩ yy
      obtain ⟨rfl, ex⟩ := yy
      obtain ⟨d, hd, rd⟩ := e4.get ex
      have lz : (pinZ z pa).Le z' := a'.l
      have hnx : D.nosL xs = true := nosEn_own hn i xs hxs
      have hnd : d.nos = true := nosL_get hnx hd
      have rd' : Rep c.K c.mg z' x d := (pin_rep hnd rd).mono lz
      have ed : xs.drop k = d :: xs.drop (k + 1) := by
        have hlt : k < xs.length := by omega
        rw [List.drop_eq_getElem_cons hlt]
        rw [List.getElem?_eq_getElem hlt] at hd
        rw [Option.some.inj hd]
      rw [ed] at q
      obtain ⟨ρ2, f2, q⟩ := ofO_w (show (M.ofO (bindS t d ρ')).w _ _ from q)
      refine bindS_ok t d x z' H'' σ' ρ' ρ2 _ a'.w a'.x rd' a'.so f2 fun σ3 H3 w3 x3 so3 => ?_
      refine ⟨pinZ z0 pa, pinH H0 H pa, pinZ z pa, z', ρ2, ⟨w3, x3, a'.l, so3⟩, M.mono _ (fun f p => ?_) (fun _ p => p.elim) q⟩
      cases f with
      | nx ρ4 => exact fun σ5 H5 z5 a5 => ⟨z5, ρ4, a5, p⟩
      | ct ρ4 => exact fun σ5 H5 z5 a5 => ⟨z5, ρ4, a5, p⟩
      | bk ρ4 =>
        have p : (endW i xs (.nx ρ4)).w (PD c z0 H0 zl D') (Px c z0 H0 E) := p
        obtain ⟨b1, b2, p⟩ := endW_nx p
        exact fun σ5 H5 z5 a5 => p σ5 H5 _ (At.unpin a e2 e3 e4 a5 b1 b2)
      | rt d5 =>
        obtain ⟨b1, p⟩ : d5.nos = true ∧ PD c z0 H0 zl D' (.rt d5) := p
        exact fun x5 H5 z5 w5 x5' r => p x5 H5 _ (un_world a e2 w5 x5').1 (un_world a e2 w5 x5').2 (un_rep b1 r)
    · rintro σ' H' ⟨z', ρ', a', q⟩
      rw [hlen, List.drop_length] at q
      have p : (endW i xs (.nx ρ')).w (PD c z0 H0 zl D') (Px c z0 H0 E) := q
      obtain ⟨b1, b2, p⟩ := endW_nx p
      exact p σ' H' _ (At.unpin a e2 e3 e4 a' b1 b2)
  | .while_ e b, x, h => by
    obtain ⟨⟨t, body⟩, hy, h⟩ := optB_ok h
    obtain ⟨p, rfl⟩ := asWhile_ok hy
    obtain ⟨h1, ha⟩ := ba3 h
    obtain ⟨h2, h3⟩ := ba3 ha
    refine PS.imp (ps_while T.pass (PT.ex fun v => soundT e _ X _ T.S T.tk v t h1 h2) (soundSs T b body h3)) fun D' σ H ⟨z0, H0, zl, z, ρ, a, q⟩ => ?_
    refine ⟨fun m σ H => ∃ z ρ, At c z0 H0 zl z H σ ρ ∧ (whileL (exT o e) (fun ρ => evSs o b ρ) m ρ).w (PD c z0 H0 zl D') (Px c z0 H0 E), ⟨o.wf, z, ρ, a, q⟩, ?_⟩
    rintro m σ H ⟨z, ρ, a, q⟩
    cases m with
    | zero => exact q.elim
    | succ m =>
      obtain ⟨v, q⟩ := exT0 a q
      refine ⟨v, tMB.mono q fun kk H1 ⟨z1, a1, p⟩ => ?_⟩
      cases kk with
      | false =>
        rw [if_neg (by simp)]
        exact p σ H1 z1 a1
      | true =>
        rw [if_pos rfl]
        refine ⟨fun σ H => ∃ z ρ, At c z0 H0 zl z H σ ρ ∧ (whileL (exT o e) (fun ρ => evSs o b ρ) m ρ).w (PD c z0 H0 zl D') (Px c z0 H0 E), fun σ' H' hN => ⟨m, Nat.lt_succ_self m, hN⟩, z0, H0, zl, z1, ρ, a1, ?_⟩
        have p : (evSs o b ρ).w (fun f => M.w (match f with
          | .nx ρ => whileL (exT o e) (fun ρ => evSs o b ρ) m ρ
          | .ct ρ => whileL (exT o e) (fun ρ => evSs o b ρ) m ρ
          | .bk ρ => ret (.nx ρ)
          | .rt d => ret (.rt d)) (PD c z0 H0 zl D') (Px c z0 H0 E)) (Px c z0 H0 E) := p
        refine M.mono _ (fun f p => ?_) (fun _ p => p) p
        cases f with
        | nx ρ4 => exact fun σ5 H5 z5 a5 => ⟨z5, ρ4, a5, p⟩
        | ct ρ4 => exact fun σ5 H5 z5 a5 => ⟨z5, ρ4, a5, p⟩
        | bk ρ4 => exact fun σ5 H5 z5 a5 => p σ5 H5 z5 a5
        | rt d => exact fun x5 H5 z5 w5 x5' r => p x5 H5 z5 w5 x5' r
  | .pass, x, h => by
    obtain ⟨p, rfl⟩ := isPass_ok h
    exact PS.imp ps_pass fun D' σ H ⟨z0, H0, zl, z, ρ, a, q⟩ => q σ H z a
  | .brk, x, h => by
    obtain ⟨p, rfl⟩ := isBrk_ok h
    exact PS.imp ps_break fun D' σ H ⟨z0, H0, zl, z, ρ, a, q⟩ => q σ H z a
  | .cont, x, h => by
    obtain ⟨p, rfl⟩ := isCont_ok h
    exact PS.imp ps_continue fun D' σ H ⟨z0, H0, zl, z, ρ, a, q⟩ => q σ H z a
  | .bad, x, _ => PS.imp ps_never fun D' σ H ⟨z0, H0, zl, z, ρ, a, q⟩ => q.elim
theorem soundSs (T : Tx c g o k X E) : ∀ (s : Ss) (xs : List Stmt), chkSs g X.env.scope s xs = true → PSs X xs (tS c E (evSs o s))
  | .nil, [], _ => PSs.imp pss_nil fun D' σ H ⟨z0, H0, zl, z, ρ, a, q⟩ => q σ H z a
  | .cons s r, x :: xs, h => by
    obtain ⟨h1, h2⟩ := ba3 h
    refine PSs.imp (pss_cons (soundS T s x h1) (soundSs T r xs h2)) fun D' σ H ⟨z0, H0, zl, z, ρ, a, q⟩ => ?_
    refine ⟨z0, H0, zl, z, ρ, a, M.mono _ (fun f p => ?_) (fun _ p => p) (show (evS o s ρ).w _ _ from q)⟩
    cases f with
    | nx ρ4 => exact fun σ5 H5 z5 a5 => ⟨z0, H0, zl, z5, ρ4, a5, p⟩
    | ct ρ4 => exact fun σ5 H5 z5 a5 => p σ5 H5 z5 a5
    | bk ρ4 => exact fun σ5 H5 z5 a5 => p σ5 H5 z5 a5
    | rt d => exact fun x5 H5 z5 w5 x5' r => p x5 H5 z5 w5 x5' r
  | .nil, _ :: _, h => by cases h
  | .cons _ _, [], h => by cases h
end
end
end Ev
set_option Elab.async false
set_option linter.all false
set_option maxRecDepth 100000
set_option maxHeartbeats 4000000
/-! Ev, part X: defs. -/
namespace Ev
open PySem PySem.Spec PyProof.Rows L2

/-- what the making of lambdas asks of a def's code object -/
def LamAt (c : Cn) (fd : FuncData) (qual : Str) : Prop := ∃ c0 P0, fd.code = .ref c0 ∧ LamX.TabB c.b0 c.mg c0 P0 ∧ (P0, qual ++ ".<locals>." ++ "<lambda>") ∈ c.T ∧ ∀ p ∈ c.T, p.1 = P0 → p.2 = qual ++ ".<locals>." ++ "<lambda>"
/-- what the head tells of a def, and its text in the small syntax -/
structure DefIs (c : Cn) (g : Gx) (P : Prg) (f : Str) : Prop where
  ex : ∃ (a : Addr) (fd : FuncData) (st : Stmt) (qual : Str) (N : List Str) (fn : Fn) (lm : Bool), c.mg f = some (.ref a) ∧ Fun c.K f qual st a fd ∧ FnScope N fn.ps (defScope st) ∧ L2.Binds c.K fd fn.ps [] ∧
    P.fns f = some fn ∧ fn.ns = N.length ∧ chkSs { g with N := N, top := true, lam := lm } (defScope st) fn.body (defBody st) = true ∧ (lm = true → LamAt c fd qual) ∧
    ∀ n ks pm, g.kws.contains (f, n, ks, pm) = true → ∀ (s : Shared) (us ws : List Value), c.K.In s.heap → us.length = n → ws.length = ks.length → BindsTo s fd ⟨us, ks.zip ws⟩ (fn.ps.zip (permV pm us ws))
theorem _root_.L2.Fun.look {K : PySem.W.Frag} {x qual : Str} {st : Stmt} {f : Addr} {fd : FuncData} (F : Fun K x qual st f fd) : ∃ oc od osl, K.lookup f = some ⟨oc, od, .func fd, osl⟩ := by
  obtain ⟨oc, od, kV, doc, pm, an, cdv, ct, osl, _, lk, _⟩ := F.ex
  exact ⟨oc, od, osl, lk⟩
theorem Fun.okC {P : Program} {w : World} {K : PySem.W.Frag} {mg : Str → Option Value} {base : Heap} {x qual : Str} {st : Stmt} {f : Addr} {fd : FuncData} {N ps : List Str} {k : Nat} {sp : Sp} (F : Fun K x qual st f fd) (S : FnScope N ps (defScope st)) (len : ∀ vs H Q E, sp vs H Q E → vs.length = ps.length)
    (hb : ∀ (A : Around) (outer : List Env) (s : Shared) (H : Hp) (vs : List V) (Q : VK) (E : XK), Room k (A.deeper (envOfC qual (defScope st) s.heap.objs.size f fd.code)) → sp vs H Q E →
      ∃ t, PSs (cxOf (L2.CX P w) P w K mg base N qual (defScope st) f fd.code A outer s H E) (defBody st) t ∧ t { nx := fun _ H' => Q .non H', rt := Q } (start N vs) H) : FnOk P w K mg base (L2.CX P w) (k + 1) f fd ps sp := by
  obtain ⟨oc, od, kV, doc, pm, an, cdv, ct, osl, rfl, lk, hcd⟩ := F.ex
  exact fn_of lk hcd S len fun A outer s H vs Q E hr hsp => hb A outer s H vs Q E hr hsp
theorem Sok_start {c : Cn} {H0 : Hp} {z : Fz} {H : Hp} {vs : List V} {ds : List D} (r : RepL c.K c.mg z vs ds) (m : Nat) : SOk c H0 z H (vs.map some ++ List.replicate m none) (ds.map Sl.val ++ List.replicate m Sl.no) := by
  have hl := r.length
  refine ⟨by simp [hl], fun i d h => ?_, fun i xs h => ?_, fun i j xs ys p h => ?_⟩
  · by_cases hi : i < ds.length
    · rw [List.getElem?_append_left (by simpa using hi), List.getElem?_map] at h
      obtain ⟨e, h1, h2⟩ := Option.map_eq_some_iff.mp h
      cases h2
      obtain ⟨v, h3, h4⟩ := r.getD h1
      refine ⟨v, ?_, h4⟩
      rw [List.getElem?_append_left (by simp [hl]; exact hi), List.getElem?_map, h3]; rfl
    · rw [List.getElem?_append_right (by simpa using hi), List.getElem?_replicate] at h
      split at h <;> cases h
  · by_cases hi : i < ds.length
    · rw [List.getElem?_append_left (by simpa using hi), List.getElem?_map] at h
      obtain ⟨e, h1, h2⟩ := Option.map_eq_some_iff.mp h
      cases h2
    · rw [List.getElem?_append_right (by simpa using hi), List.getElem?_replicate] at h
      split at h <;> cases h
  · by_cases hi : i < ds.length
    · rw [List.getElem?_append_left (by simpa using hi), List.getElem?_map] at h
      obtain ⟨e, h1, h2⟩ := Option.map_eq_some_iff.mp h
      cases h2
    · rw [List.getElem?_append_right (by simpa using hi), List.getElem?_replicate] at h
      split at h <;> cases h
theorem locB_fn {sc : Scope} {x : Str} (h : locB sc x = true) : Loc sc x := by
  unfold locB at h
  split at h <;> first | (cases h; done) | skip
  · rename_i e; exact .inl e
  · rename_i e; exact .inr e
section
variable {c : Cn} {g : Gx} {P : Prg} {pr : Program} {w : World} {base : Heap}
/-- a made lambda, called -/
theorem lam_ok {o : Ora} {n : Nat} {q : Cl} (hA : OraA c g o n pr w) (le : BLe c.b0 base) (cls : ClsB g c.cl base) (hq : q ∈ c.cl) {A : Around} {outer : List Env} {s : Shared} {H : Hp} {us : List Value} {vs : List V} {Q : VK} {E : XK} (hr : Room (n + 1) A) (e0 : Env0 pr w c.K c.mg base A outer s H) (r : Vals vs us)
    (sp : spM c q.ps.length (runLam o q.ps.length q.ex.length q.e q.env) vs H Q E) : codeAny (model pr w) A (.call (.ref q.a) ⟨us, []⟩) (CR (L2.CX pr w) outer pr w H s Q E) s := by
  obtain ⟨hl, z, ds, wz, rd, m⟩ := sp
  obtain ⟨⟨pm, ctv, ho⟩, hall, hinj, hlen, hhas, hps, hpb, S, hck⟩ := cls q hq
  have lim : s.heap.NoLimit := e0.mod.nolimit.keeps fun b o e => (e0.bs b o e).1
  let F : NdefX.NF := ⟨"<lambda>", q.qual, q.params, [], q.scope, q.cells, q.c'⟩
  have hlp : us.length = (parsOf q.params).length := by rw [hps, ← r.length]; exact hl
  refine PySem.W.kla_callFunE hr.depth (e0.bs _ _ ho).1 rfl S.co S.gen rfl (NdefX.codeO_at e0.hok (wz.cl.co q hq)) ?_
  rw [bind_lam hpb hlp, hps]
  refine wpAny_pure (wpAny_newFunctionEnv S.nocell (fun ⟨n, _⟩ hy => S.par n (List.of_mem_zip hy).1) (fun h₁ hns hsb => ⟨lim.fresh _ hsb, ?_⟩) S.kind)
  have kp : ∀ b o, s.heap.get? b = some o → h₁.get? b = some o := fun b o e => hsb.extBut b o (Nat.ne_of_lt (Heap.lt_size e)) (Heap.get?_push_of_some _ e)
  have C : NdefX.CellsAt F.cl q.fv (q.ws.map some) s.heap H := by
    refine ⟨by rw [List.length_map]; exact hlen, fun y a e => ?_, hinj, fun i y e => ?_⟩
    · obtain ⟨v, o', h1, h2⟩ := hall y a e
      obtain ⟨g1, g2⟩ := e0.bs a o' h1
      exact ⟨g2, v, o', g1, h2⟩
    · obtain ⟨a, ha, hv⟩ := hhas i y e
      refine ⟨a, ha, fun v ev => ?_⟩
      rw [List.getElem?_map] at ev
      cases ew : q.ws[i]? with
      | none => rw [ew] at ev; cases ev
      | some v' =>
        rw [ew] at ev
        have ev : some (some v') = some (some v) := ev
        cases ev
        obtain ⟨u, ru, o', h1, h2⟩ := hv v ew
        exact ⟨u, ru, o', (e0.bs a o' h1).1, h2⟩
  let X := NdefX.ncx (L2.CX pr w) pr w c.K c.mg base (q.ps ++ q.fv ++ q.ex) F q.a A outer s H E
  have I : Inv X [] (NdefX.startF (q.ps ++ q.fv ++ q.ex) vs (q.ws.map some)) H { s with heap := h₁, toks := s.toks + (q.ps.zip us).length } := NdefX.inv_startN S hr.hd e0 hl r C hns kp
  have SX : Sx c { g with N := q.ps ++ q.fv ++ q.ex, top := false, lam := false } o n X := ⟨rfl, rfl, rfl, S.nd, rfl, hr.deeper _, hA.to ⟨rfl, rfl, rfl, rfl, rfl, rfl, rfl⟩, le, ClsB.to (g := g) ⟨rfl, rfl, rfl, rfl, rfl, rfl, rfl⟩ cls, fun h => by (cases h), fun h => by cases h⟩
  have tk : Takes X (WXe E) := takes_of rfl rfl rfl rfl
  have hds : ds.length = q.ps.length := by rw [← rd.length]; exact hl
  have m : (if ds.length = q.ps.length then evE o q.e ((ds ++ q.env).map some ++ List.replicate q.ex.length none) else stuck : M D).w (Po c z H Q) (Px c z H E) := m
  rw [if_pos hds] at m
  have rws := wz.cl.rp q hq
  have vo : VOk c z (NdefX.startF (q.ps ++ q.fv ++ q.ex) vs (q.ws.map some)) ((ds ++ q.env).map some ++ List.replicate q.ex.length none) := by
    have hz : NdefX.startF (q.ps ++ q.fv ++ q.ex) vs (q.ws.map some) = (vs ++ q.ws).map some ++ List.replicate q.ex.length none := by
      unfold NdefX.startF
      rw [List.length_append, List.length_append, List.length_map, hl, hlen, show q.ps.length + q.fv.length + q.ex.length - q.ps.length - q.fv.length = q.ex.length by omega, List.map_append, List.append_assoc]
    have ra := rd.append rws
    rw [hz]
    refine ⟨by rw [List.length_append, List.length_append, List.length_map, List.length_map, ra.length, List.length_replicate, List.length_replicate], fun i d h => ?_⟩
    by_cases hi : i < (ds ++ q.env).length
    · rw [List.getElem?_append_left (by rw [List.length_map]; exact hi), List.getElem?_map] at h
      cases ei : (ds ++ q.env)[i]? with
      | none => rw [ei] at h; cases h
      | some d' =>
        rw [ei] at h
        have h : some (some d') = some (some d) := h
        cases h
        obtain ⟨x, h1, h2⟩ := ra.getD ei
        exact ⟨x, by rw [List.getElem?_append_left (by rw [List.length_map, ra.length]; exact hi), List.getElem?_map, h1]; rfl, h2⟩
    · rw [List.getElem?_append_right (by rw [List.length_map]; omega), List.getElem?_replicate] at h
      split at h <;> cases h
  have pe := soundE (c := c) (o := o) (k := n) q.e _ X (WXe E) SX tk ((ds ++ q.env).map some ++ List.replicate q.ex.length none) q.body hck
  show codeAny _ _ (.expr q.body (NdefX.envF F q.a s.heap.objs.size)) _ _
  refine PySem.W.kla_codeExpr (wpAny_mono (pe.run [] _ _ H Q I ⟨z, wz, vo, m⟩) (fun v s' hv => ?_) fun e s' he => he)
  obtain ⟨y, H', J, rv, hQ⟩ := hv
  exact ⟨y, H', J.os, J.bare, J.base, J.hok, rv, hQ⟩
/-- statements, then one more -/
theorem soundSn {o : Ora} {k : Nat} {X : Cx} {E : XK} {g : Gx} (T : Tx c g o k X E) {st : Stmt} {t2 : TS} (hs : PS X st t2) : ∀ (s : Ss) (xs : List Stmt), chkSs g X.env.scope s xs = true → PSs X (xs ++ [st]) (fun D σ H => tS c E (evSs o s) { D with nx := t2 D } σ H)
  | .nil, [], _ => PSs.imp (pss_one hs) fun D' σ H ⟨z0, H0, zl, z, ρ, a, q⟩ => q σ H z a
  | .cons s r, x :: xs, h => by
    obtain ⟨h1, h2⟩ := ba3 h
    refine PSs.imp (pss_cons (soundS T s x h1) (soundSn T hs r xs h2)) fun D' σ H ⟨z0, H0, zl, z, ρ, a, q⟩ => ?_
    refine ⟨z0, H0, zl, z, ρ, a, M.mono _ (fun f p => ?_) (fun _ p => p) (show (evS o s ρ).w _ _ from q)⟩
    cases f with
    | nx ρ4 => exact fun σ5 H5 z5 a5 => ⟨z0, H0, zl, z5, ρ4, a5, p⟩
    | ct ρ4 => exact fun σ5 H5 z5 a5 => p σ5 H5 z5 a5
    | bk ρ4 => exact fun σ5 H5 z5 a5 => p σ5 H5 z5 a5
    | rt d => exact fun x5 H5 z5 w5 x5' r => p x5 H5 z5 w5 x5' r
  | .nil, _ :: _, h => by cases h
  | .cons _ _, [], h => by cases h
/-- self.f = e -/
def asSelf : Stmt → Option (Str × Str × Expr)
  | .Assign [.Attribute (.Name y _) f _] e _ => some (y, f, e)
  | _ => none
theorem asSelf_ok {s : Stmt} {y f : Str} {e : Expr} (h : asSelf s = some (y, f, e)) : ∃ p q r, s = .Assign [.Attribute (.Name y p) f q] e r := by
  unfold asSelf at h
  split at h
  · cases h; exact ⟨_, _, _, rfl⟩
  · cases h
def chkInit (g : Gx) (sc : Scope) (I : Init) (body : List Stmt) : Bool := match body.getLast? with
  | some s => optB (asSelf s) fun t => t.2.1 == I.f && (rdN g.N sc 0 t.1 && (notComp t.2.2 && (chkE g sc I.e t.2.2 && chkSs g sc I.body body.dropLast)))
  | none => false
/-- the new object, out of the world of its making -/
theorem Ext.out {z z' : Fz} {H0 H H' : Hp} {x dx C : Addr} (wz : Wf c z H0) (hx : H0 x = none) (hdx : H0 dx = none) (hH : H = L2.upd (L2.upd H0 dx (.own x)) x (.ins C dx [])) (e : Ext { z with sf := fun b => b = x } H z' H') : Ext z H0 { z' with sf := z.sf } H' := by
  have at0 : ∀ b, H0 b ≠ none → H b = H0 b := fun b hb => by
    rw [hH, upd_ne (fun q => hb (by rw [q]; exact hx)), upd_ne (fun q => hb (by rw [q]; exact hdx))]
  have no : ∀ b, H b = none → H0 b = none := fun b hb => by
    cases q : H0 b with
    | none => rfl
    | some u => rw [at0 b (by rw [q]; simp), q] at hb; cases hb
  refine ⟨fun b o q n t => e.keep b o (by rw [at0 b (by rw [q]; simp)]; exact q) n t, fun b hb => e.there b fun q => hb (no b q), ⟨e.le.f, e.le.h, e.le.c, fun _ h => h⟩, fun b o hb q => e.fn b o (fun r => hb (no b r)) q, fun b hb => (e.hn b hb).imp id (no b), e.ce, rfl⟩
structure InitIs (c : Cn) (g : Gx) (P : Prg) (cn : Str) : Prop where
  ex : ∃ (C f : Addr) (fd : FuncData) (st : Stmt) (x qual y : Str) (N : List Str) (I : Init), c.mg cn = some (.ref C) ∧ Mk c.K C f ∧ Cls c.K C ∧ NoAttr c.K C I.f ∧ Fun c.K x qual st f fd ∧ FnScope N (y :: I.ps) (defScope st) ∧ L2.Binds c.K fd (y :: I.ps) [] ∧
    P.inits cn = some I ∧ I.ns = N.length ∧ chkInit { g with N := N, top := true, lam := false } (defScope st) I (defBody st) = true
theorem init_ok {o : Ora} {n : Nat} {cn : Str} {C f : Addr} {fd : FuncData} {st : Stmt} {x qual y : Str} {N : List Str} {I : Init} (hA : OraA c g o n pr w) (le : BLe c.b0 base) (cls : ClsB g c.cl base) (m1 : c.mg cn = some (.ref C)) (m2 : Cls c.K C) (m3 : NoAttr c.K C I.f) (F : Fun c.K x qual st f fd)
    (S : FnScope N (y :: I.ps) (defScope st)) (hns : I.ns = N.length) (hc : chkInit { g with N := N, top := true, lam := false } (defScope st) I (defBody st) = true) :
    FnOk pr w c.K c.mg base (L2.CX pr w) (n + 1) f fd (y :: I.ps) (spI c C I.ps.length fun ds => M.noc (runInit o cn I ds)) := by
  refine Fun.okC F S (fun vs H Q E ⟨x, dx, us, H0, e, hl, _⟩ => by rw [e, List.length_cons, List.length_cons, hl]) fun A outer s H vs Q E hr hsp => ?_
  obtain ⟨x, dx, us, H0, rfl, hl, hH, hx, hdx, hne, z, ds, wz, rd, hno, q⟩ := hsp
  let X := cxOf (L2.CX pr w) pr w c.K c.mg base N qual (defScope st) f fd.code A outer s H E
  have T : Tx c { g with N := N, top := true, lam := false } o n X E := {
    S := ⟨rfl, rfl, rfl, S.nd, rfl, hr, hA.to ⟨rfl, rfl, rfl, rfl, rfl, rfl, rfl⟩, le, ClsB.to (g := g) ⟨rfl, rfl, rfl, rfl, rfl, rfl, rfl⟩ cls, fun _ _ => rfl, fun h => by cases h⟩
    tk := takes_of rfl rfl rfl rfl
    pass := passes_of rfl
    kind := S.kind
    locs := fun x hx => ⟨locB_fn hx, .inl rfl⟩ }
  unfold chkInit at hc
  cases hlast : (defBody st).getLast? with
  | none => rw [hlast] at hc; cases hc
  | some sl =>
  rw [hlast] at hc
  obtain ⟨⟨y', fx, e⟩, hy, hc⟩ := optB_ok hc
  obtain ⟨p1, p2, p3, rfl⟩ := asSelf_ok hy
  obtain ⟨h1, ha⟩ := ba3 hc
  obtain ⟨h2, hb⟩ := ba3 ha
  obtain ⟨h3, hd⟩ := ba3 hb
  obtain ⟨h4, h5⟩ := ba3 hd
  have h1 : fx = I.f := beq_iff_eq.mp h1
  subst h1
  obtain ⟨l, hbody⟩ := List.getLast?_eq_some_iff.mp hlast
  have hdl : (defBody st).dropLast = l := by rw [hbody, List.dropLast_concat]
  rw [hdl] at h5
  rw [hbody]
  refine ⟨_, soundSn T (ps_fld (rd_ok T.S h2) (PE.ex fun v => soundE I.e _ X _ T.S T.tk v e h4) (sw_not h3 _ _ _)) I.body l h5, ?_⟩
  have hds : ds.length = I.ps.length := by rw [← rd.length]; exact hl
  let z1 : Fz := { z with sf := fun b => b = x }
  have hzx : ∀ b o, H0 b = some o → H b = some o := fun b o q => by
    rw [hH, upd_ne (fun q' => by rw [q', hx] at q; cases q), upd_ne (fun q' => by rw [q', hdx] at q; cases q)]; exact q
  have l1n : ∀ {d : List D} {vs : List V}, D.nosL d = true → RepL c.K c.mg z vs d → RepL c.K c.mg z1 vs d := fun {d vs} hn r => RepL.nosTo (z := z) (z' := z1) (fun _ _ h => h) (fun _ h => h) (fun _ _ _ _ _ h => h) d vs hn r
  have w1 : Wf c z1 H := ⟨fun b o q => hzx b o (wz.f b o q), fun a ha => ⟨by obtain ⟨⟨i, j, k, e⟩, _⟩ := wz.hs a ha; exact ⟨i, j, k, hzx _ _ e⟩, (wz.hs a ha).2⟩, wz.tb, wz.ts.ext hzx,
    ⟨wz.cl.to, fun q hq => hzx _ _ (wz.cl.co q hq), fun q hq => l1n (wz.cl.no q hq) (wz.cl.rp q hq), wz.cl.no⟩⟩
  have Hx : H x = some (.ins C dx []) := by rw [hH, upd_same]
  have Hdx : H dx = some (.own x) := by rw [hH, upd_ne hne, upd_same]
  have zx : z.F x = none := by
    cases e : z.F x with
    | none => rfl
    | some u => rw [wz.f x u e] at hx; cases hx
  have zdx : z.F dx = none := by
    cases e : z.F dx with
    | none => rfl
    | some u => rw [wz.f dx u e] at hdx; cases hdx
  have nhx : ¬ z1.hs x := fun h => by
    obtain ⟨⟨i, j, k, e⟩, _⟩ := wz.hs x h
    rw [hx] at e; cases e
  have nhdx : ¬ z1.hs dx := fun h => by
    obtain ⟨⟨i, j, k, e⟩, _⟩ := wz.hs dx h
    rw [hdx] at e; cases e
  have pxe : ∀ xn : Xn, xn.noc = true → Px c z H0 E xn → Px c z1 H E xn := fun xn hn hp cls' dd H' z' w' x' r' => by
    refine hp cls' dd H' { z' with sf := z.sf } ⟨w'.f, w'.hs, w'.tb, w'.ts, ⟨w'.cl.to, w'.cl.co, fun q hq => RepL.mono (z := z) (z' := { z' with sf := z.sf }) ⟨x'.le.f, x'.le.h, x'.le.c, fun _ h => h⟩ _ _ (wz.cl.rp q hq), w'.cl.no⟩⟩ (Ext.out wz hx hdx hH x') ⟨r'.1, ?_⟩
    have r2 := r'.2
    unfold Xn.noc at hn
    cases hv : xn.val with
    | none => trivial
    | some fd =>
      rw [hv] at r2 hn
      obtain ⟨a9, v9, e9, e8, e7⟩ := r2
      exact ⟨a9, v9, e9, e8, Rep.nocTo (z := z') (z' := { z' with sf := z.sf }) (fun _ _ h => h) (fun _ h => h) _ _ hn e7⟩
  have q : (if ds.length = I.ps.length then M.bind (evSs o I.body (.val .slf :: (ds.map .val ++ List.replicate (I.ns - I.ps.length - 1) .no))) fun r => match r with
      | .nx ρ => if isSlf ρ = true then M.bind (exE o I.e ρ) fun p => if isSlf p.2 = true then M.must (p.1.noc = true) (ret (.obj cn [(I.f, p.1)])) else stuck else stuck
      | _ => stuck
    else stuck : M D).w (fun d => d.noc = true ∧ ∀ H' z', Wf c z' H' → Ext z H0 z' H' → Rep c.K c.mg z' (.ref x) d → Q .non H') (fun xn => xn.noc = true ∧ Px c z H0 E xn) := q
  rw [if_pos hds] at q
  have so : SOk c H z1 H (start N (.ref x :: us)) (.val .slf :: (ds.map .val ++ List.replicate (I.ns - I.ps.length - 1) .no)) := by
    have r1 : RepL c.K c.mg z1 (.ref x :: us) (.slf :: ds) := .cons (.slf rfl) (l1n hno rd)
    have := Sok_start (c := c) (H0 := H) (H := H) r1 (N.length - (V.ref x :: us).length)
    have e : I.ns - I.ps.length - 1 = N.length - (V.ref x :: us).length := by rw [hns, List.length_cons, hl]; omega
    rw [e]
    exact this
  refine ⟨z1, H, z1, z1, _, ⟨w1, .refl _ _, .refl _, so⟩, M.mono _ (fun fl p => ?_) (fun xn p => pxe xn p.1 p.2) q⟩
  cases fl with
  | bk ρ => exact p.elim
  | ct ρ => exact p.elim
  | rt d => exact p.elim
  | nx ρ =>
  intro σ1 H1 z2 a1
  have p : (if isSlf ρ = true then M.bind (exE o I.e ρ) fun p => if isSlf p.2 = true then M.must (p.1.noc = true) (ret (.obj cn [(I.f, p.1)])) else stuck else stuck : M D).w (fun d => d.noc = true ∧ ∀ H' z', Wf c z' H' → Ext z H0 z' H' → Rep c.K c.mg z' (.ref x) d → Q .non H') (fun xn => xn.noc = true ∧ Px c z H0 E xn) := p
  by_cases hs1 : isSlf ρ = true
  · rw [if_pos hs1] at p
    have p2 : (exE o I.e ρ).w (fun p => (if isSlf p.2 = true then M.must (p.1.noc = true) (ret (.obj cn [(I.f, p.1)])) else stuck : M D).w (fun d => d.noc = true ∧ ∀ H' z', Wf c z' H' → Ext z H0 z' H' → Rep c.K c.mg z' (.ref x) d → Q .non H') fun _ => True) (Px c z1 H E) := M.mono _ (fun a h => M.mono _ (fun _ h => h) (fun _ _ => trivial) h) (fun xn h => pxe xn h.1 h.2) p
    obtain ⟨v, q2⟩ := ex0 a1 p2
    refine ⟨v, tM.mono q2 fun yv H2 ⟨z3, d, ρ1, a2, r2, p3⟩ => ?_⟩
    by_cases hs2 : isSlf ρ1 = true
    · have p3 : (if isSlf ρ1 = true then M.must (d.noc = true) (ret (.obj cn [(I.f, d)])) else stuck : M D).w (fun d => d.noc = true ∧ ∀ H' z', Wf c z' H' → Ext z H0 z' H' → Rep c.K c.mg z' (.ref x) d → Q .non H') (fun _ => True) := p3
      rw [if_pos hs2] at p3
      obtain ⟨hdn, _, hfin⟩ := p3
      obtain ⟨s0, h0s, hr0⟩ : ∃ s0, σ1[0]? = some (some s0) ∧ Rep c.K c.mg z3 s0 .slf := by
        cases ρ1 with
        | nil => cases hs2
        | cons s1 ρ1 =>
          cases s1 with
          | val d0 =>
            cases d0 <;> first | (cases hs2; done) | skip
            exact a2.so.val 0 _ rfl
          | _ => cases hs2
      have ex : s0 = .ref x := by
        cases hr0 with
        | slf hsf =>
          have e : z3.sf = z1.sf := a2.x.se
          rw [e] at hsf
          rw [show _ = x from hsf]
      subst ex
      have H2x : H2 x = some (.ins C dx []) := a2.x.keep x _ Hx nhx fun _ e => by cases e
      have H2dx : H2 dx = some (.own x) := a2.x.keep dx _ Hdx nhdx fun _ e => by cases e
      have z3x : z3.F x = none := by
        cases e : z3.F x with
        | none => rfl
        | some u => have := a2.x.fn x u (by rw [Hx]; simp) e; rw [show z1.F x = none from zx] at this; cases this
      have z3dx : z3.F dx = none := by
        cases e : z3.F dx with
        | none => rfl
        | some u => have := a2.x.fn dx u (by rw [Hdx]; simp) e; rw [show z1.F dx = none from zdx] at this; cases this
      refine ⟨_, h0s, _, C, dx, [], rfl, H2x, m2, m3, by decide, ?_⟩
      have hf9 : ∀ b u, z3.F b = some u → L2.upd (L2.upd z3.F dx (.own x)) x (.ins C dx [(I.f, yv)]) b = some u := fun b u e => by
        rw [upd_ne (fun q => by rw [q, z3x] at e; cases e), upd_ne (fun q => by rw [q, z3dx] at e; cases e)]; exact e
      let z9 : Fz := { z3 with F := L2.upd (L2.upd z3.F dx (.own x)) x (.ins C dx [(I.f, yv)]), sf := z.sf }
      have out := Ext.out wz hx hdx hH a2.x
      have nx3 : ¬ z3.hs x := fun h => by
        obtain ⟨⟨i, j, k, e⟩, _⟩ := a2.w.hs x h
        rw [H2x] at e; cases e
      have ndx3 : ¬ z3.hs dx := fun h => by
        obtain ⟨⟨i, j, k, e⟩, _⟩ := a2.w.hs dx h
        rw [H2dx] at e; cases e
      have kp : ∀ b o, H2 b = some o → b ≠ x → L2.upd H2 x (.ins C dx [(I.f, yv)]) b = some o := fun b o e hb => by rw [upd_ne hb]; exact e
      have tabs : LamX.Tabs c.T (L2.upd H2 x (.ins C dx [(I.f, yv)])) := fun p hp => by
        obtain ⟨ps, t1, t2, t3⟩ := a2.w.ts p hp
        refine ⟨ps, kp _ _ t1 (fun e => by rw [e, H2x] at t1; cases t1), t2, fun pos cv hcv => ?_⟩
        obtain ⟨a, e1, e2⟩ := t3 pos cv hcv
        exact ⟨a, e1, kp _ _ e2 fun e => by rw [e, H2x] at e2; unfold LamX.CodeO at e2; cases e2⟩
      have w9 : Wf c z9 (L2.upd H2 x (.ins C dx [(I.f, yv)])) := by
        refine ⟨fun b o e => ?_, fun a ha => ?_, fun b ps e => ?_, tabs, ⟨a2.w.cl.to, fun q hq => kp _ _ (a2.w.cl.co q hq) fun e => ?_, fun q hq => ?_, a2.w.cl.no⟩⟩
        · have e : L2.upd (L2.upd z3.F dx (.own x)) x (.ins C dx [(I.f, yv)]) b = some o := e
          by_cases hb : b = x
          · subst hb; rw [upd_same] at e ⊢; exact e
          · rw [upd_ne hb] at e ⊢
            by_cases hb2 : b = dx
            · subst hb2; rw [upd_same] at e; rw [H2dx]; exact e
            · rw [upd_ne hb2] at e; exact a2.w.f b o e
        · obtain ⟨⟨i, j, k, e⟩, e2⟩ := a2.w.hs a ha
          have h1 : a ≠ x := fun q => nx3 (q ▸ ha)
          have h2 : a ≠ dx := fun q => ndx3 (q ▸ ha)
          exact ⟨⟨i, j, k, kp _ _ e h1⟩, by show L2.upd (L2.upd z3.F dx (.own x)) x _ a = none; rw [upd_ne h1, upd_ne h2]; exact e2⟩
        · have e : L2.upd (L2.upd z3.F dx (.own x)) x (.ins C dx [(I.f, yv)]) b = some (.tbl ps) := e
          by_cases hb : b = x
          · subst hb; rw [upd_same] at e; cases e
          · rw [upd_ne hb] at e
            by_cases hb2 : b = dx
            · subst hb2; rw [upd_same] at e; cases e
            · rw [upd_ne hb2] at e; exact a2.w.tb b ps e
        · have := a2.w.cl.co q hq
          rw [e, H2x] at this; unfold LamX.CodeO at this; cases this
        · exact RepL.nosTo (z := z3) (z' := z9) hf9 (fun _ h => h) (fun _ _ _ _ _ h => h) _ _ (a2.w.cl.no q hq) (a2.w.cl.rp q hq)
      have x9 : Ext z H0 z9 (L2.upd H2 x (.ins C dx [(I.f, yv)])) := by
        refine ⟨fun b o e n t => kp _ _ (out.keep b o e n t) (fun q => by rw [q, hx] at e; cases e), fun b hb => ?_, ⟨fun b u e => hf9 b u (out.le.f b u e), out.le.h, out.le.c, fun _ h => h⟩, fun b o hb e => ?_, out.hn, out.ce, rfl⟩
        · by_cases h : b = x
          · subst h; exact absurd hx hb
          · rw [upd_ne h]; exact out.there b hb
        · have e : L2.upd (L2.upd z3.F dx (.own x)) x (.ins C dx [(I.f, yv)]) b = some o := e
          rw [upd_ne (fun q => hb (by rw [q]; exact hx)), upd_ne (fun q => hb (by rw [q]; exact hdx))] at e
          exact out.fn b o hb e
      refine hfin _ z9 w9 x9 (.obj (C := C) (dx := dx) (fvs := [(I.f, yv)]) m1 upd_same ?_ rfl (.cons (Rep.nocTo (z := z3) (z' := z9) hf9 (fun _ h => h) _ _ hdn r2) .nil))
      show L2.upd (L2.upd z3.F dx (.own x)) x _ dx = some (.own x)
      rw [upd_ne hne, upd_same]
    · have p3 : (if isSlf ρ1 = true then M.must (d.noc = true) (ret (.obj cn [(I.f, d)])) else stuck : M D).w (fun d => d.noc = true ∧ ∀ H' z', Wf c z' H' → Ext z H0 z' H' → Rep c.K c.mg z' (.ref x) d → Q .non H') (fun _ => True) := p3
      rw [if_neg hs2] at p3; exact p3.elim
  · rw [if_neg hs1] at p; exact p.elim
/-- a def keeps what its meaning says -/
theorem def_ok {o : Ora} {n : Nat} {fd : FuncData} {a : Addr} {st : Stmt} {x qual : Str} {N : List Str} {fn : Fn} {lm : Bool} (hA : OraA c g o n pr w) (le : BLe c.b0 base) (cls : ClsB g c.cl base) (h2 : Fun c.K x qual st a fd) (h3 : FnScope N fn.ps (defScope st)) (h6 : fn.ns = N.length)
    (h7 : chkSs { g with N := N, top := true, lam := lm } (defScope st) fn.body (defBody st) = true) (hlm : lm = true → LamAt c fd qual) : FnOk pr w c.K c.mg base (L2.CX pr w) (n + 1) a fd fn.ps (spM c fn.ps.length (runFn o fn)) := by
  refine Fun.okC h2 h3 (fun vs H Q E q => q.1) fun A outer s H vs Q E hr hsp => ?_
  obtain ⟨hl, z, ds, wz, r, q⟩ := hsp
  let X := cxOf (L2.CX pr w) pr w c.K c.mg base N qual (defScope st) a fd.code A outer s H E
  have T : Tx c { g with N := N, top := true, lam := lm } o n X E := {
    S := ⟨rfl, rfl, rfl, h3.nd, rfl, hr, hA.to ⟨rfl, rfl, rfl, rfl, rfl, rfl, rfl⟩, le, ClsB.to (g := g) ⟨rfl, rfl, rfl, rfl, rfl, rfl, rfl⟩ cls, fun _ _ => rfl, fun h => by
      obtain ⟨c0, P0, t1, t2, t3, t4⟩ := hlm h
      exact ⟨c0, P0, t1, ⟨t2.code.keeps le, t2.bm.keeps le, t2.gP⟩, t3, t4⟩⟩
    tk := takes_of rfl rfl rfl rfl
    pass := passes_of rfl
    kind := h3.kind
    locs := fun x hx => ⟨locB_fn hx, .inl rfl⟩ }
  refine ⟨_, soundSs T fn.body _ h7, ?_⟩
  have hl2 : ds.length = fn.ps.length := by rw [← r.length]; exact hl
  have q : (if ds.length = fn.ps.length then M.bind (evSs o fn.body (ds.map .val ++ List.replicate (fn.ns - fn.ps.length) .no)) fun r => match r with
      | .rt d => ret d
      | .nx _ => ret .non
      | _ => stuck
    else stuck : M D).w (Po c z H Q) (Px c z H E) := q
  rw [if_pos hl2] at q
  have so := Sok_start (c := c) (H0 := H) (H := H) r (N.length - vs.length)
  refine ⟨z, H, z, z, _, ⟨wz, .refl _ _, .refl _, so⟩, ?_⟩
  rw [show N.length - vs.length = fn.ns - fn.ps.length by rw [h6, hl]]
  refine M.mono _ (fun fl p => ?_) (fun _ p => p) q
  cases fl with
  | nx ρ => exact fun σ H' z' at' => p .non H' z' at'.w at'.x .non
  | rt d => exact fun x H' z' w' x' r' => p x H' z' w' x' r'
  | bk ρ => exact p.elim
  | ct ρ => exact p.elim
/-- what the head tells of a property -/
structure PropIs (c : Cn) (g : Gx) (P : Prg) (cn x : Str) : Prop where
  ex : ∃ (C p gt : Addr) (fd : FuncData) (st : Stmt) (nm qual : Str) (N : List Str) (fn : Fn), c.mg cn = some (.ref C) ∧ Cls c.K C ∧ PropOf c.K C x p gt ∧ Fun c.K nm qual st gt fd ∧ FnScope N fn.ps (defScope st) ∧ L2.Binds c.K fd fn.ps [] ∧
    P.gets cn x = some fn ∧ fn.ps.length = 1 ∧ fn.ns = N.length ∧ chkSs { g with N := N, top := true, lam := false } (defScope st) fn.body (defBody st) = true
/-- what the head tells of a program, with its text in the small syntax -/
structure PrgIs (c : Cn) (g : Gx) (P : Prg) : Prop where
  defs : ∀ f, g.defs.contains f = true → DefIs c g P f
  free : ∀ x, g.free.contains x = true → c.mg x = none
  globs : ∀ x d, P.globs x = some d → ∃ u v, c.mg x = some u ∧ RelV v u ∧ ∀ z, Rep c.K c.mg z v d
  par : ∀ f, (P.fns f).isSome = true → g.defs.contains f = true
  inits : ∀ cn, g.clss.contains cn = true → InitIs c g P cn
  props : ∀ cn x, g.props.contains (cn, x) = true → PropIs c g P cn x
  flds : ∀ cn x, g.flds.contains (cn, x) = true → ∃ C, c.mg cn = some (.ref C) ∧ L2.Cls c.K C ∧ L2.NoAttr c.K C x
  iscs : ∀ cn, g.iscs.contains cn = true → ∃ C, c.mg cn = some (.ref C) ∧ TyC c.K C ∧ PySem.W.kitOne c.K (.ref C) (.ref C) = some true ∧ ∀ n : String, ["NoneType", "bool", "int", "str", "tuple", "list"].contains n = true → PySem.W.kitOne c.K (.type n) (.ref C) = some false
theorem runFn_len {o : Ora} {fn : Fn} {ds : List D} (h : ds.length ≠ fn.ps.length) : runFn o fn ds = stuck := by unfold runFn; rw [if_neg h]
theorem runInit_len {o : Ora} {cn : Str} {I : Init} {ds : List D} (h : ds.length ≠ I.ps.length) : runInit o cn I ds = stuck := by unfold runInit; rw [if_neg h]
theorem noc_stuck : M.noc stuck = stuck := M.ext' fun Q R => rfl
/-- the properties -/
theorem props_ok (hP : PrgIs c g P) (le : BLe c.b0 base) (cls : ClsB g c.cl base) (n : Nat) (ih : ∀ m, n = m + 1 → OraA c g (P.ora m) m pr w) : ∀ cn x, g.props.contains (cn, x) = true → ∃ C p gt fd sps, c.mg cn = some (.ref C) ∧ L2.Cls c.K C ∧ L2.PropOf c.K C x p gt ∧ L2.Binds c.K fd sps [] ∧
    ((∀ d, (P.ora (n + 1)).prop cn x d = stuck) ∨ ∃ j, j + 1 ≤ n + 1 ∧ FnOk pr w c.K c.mg base (L2.CX pr w) j gt fd sps (spM c 1 (one ((P.ora (n + 1)).prop cn x)))) := by
  intro cn x h
  obtain ⟨C, p, gt, fd, st, nm, qual, N, fn, h1, h2, h3, h4, h5, h6, h7, h8, h9, h10⟩ := (hP.props cn x h).ex
  refine ⟨C, p, gt, fd, fn.ps, h1, h2, h3, h6, ?_⟩
  cases n with
  | zero => exact .inl fun d => rfl
  | succ m =>
    refine .inr ⟨m + 1, Nat.le_refl _, (def_ok (ih m rfl) le cls h4 h5 h9 h10 (fun h => by cases h)).imp fun vs H Q E q => ?_⟩
    obtain ⟨hl, z, ds, wz, r, q⟩ := q
    refine ⟨by rw [hl, h8], z, ds, wz, r, ?_⟩
    have hd : ds.length = 1 := by rw [← r.length]; exact hl
    match ds, hd with
    | [d], _ =>
      have e : (P.ora (m + 1 + 1)).prop cn x d = runFn (P.ora m) fn [d] := by
        show (match P.gets cn x with | some fn => runFn (P.ora m) fn [d] | none => stuck) = _
        rw [h7]
      have q : ((P.ora (m + 1 + 1)).prop cn x d).w (Po c z H Q) (Px c z H E) := q
      rw [e] at q
      exact q
/-- the making of objects -/
theorem makes_ok (hP : PrgIs c g P) (le : BLe c.b0 base) (cls : ClsB g c.cl base) (n : Nat) (ih : ∀ m, n = m + 1 → OraA c g (P.ora m) m pr w) : ∀ cn, g.clss.contains cn = true → ∃ C f fd sps n', c.mg cn = some (.ref C) ∧ L2.Mk c.K C f ∧ L2.Binds c.K fd sps [] ∧ (∀ ds, ds.length ≠ n' → (P.ora (n + 1)).make cn ds = stuck) ∧
    ((∀ ds, (P.ora (n + 1)).make cn ds = stuck) ∨ ∃ j, j + 1 ≤ n + 1 ∧ FnOk pr w c.K c.mg base (L2.CX pr w) j f fd sps (spI c C n' ((P.ora (n + 1)).make cn))) := by
  intro cn h
  obtain ⟨C, f, fd, st, x, qual, y, N, I, h1, h2, h3, h4, h5, h6, h7, h8, h9, h10⟩ := (hP.inits cn h).ex
  cases n with
  | zero => exact ⟨C, f, fd, _, I.ps.length, h1, h2, h7, fun _ _ => rfl, .inl fun _ => rfl⟩
  | succ m =>
    have e : (P.ora (m + 1 + 1)).make cn = fun ds => M.noc (runInit (P.ora m) cn I ds) := by
      funext ds
      show (match P.inits cn with | some I => M.noc (runInit (P.ora m) cn I ds) | none => stuck) = _
      rw [h8]
    refine ⟨C, f, fd, _, I.ps.length, h1, h2, h7, fun ds hl => by rw [e]; show M.noc (runInit _ _ _ _) = _; rw [runInit_len hl]; exact noc_stuck, .inr ⟨m + 1, Nat.le_refl _, ?_⟩⟩
    rw [e]
    exact init_ok (ih m rfl) le cls h1 h3 h4 h5 h6 h9 h10
theorem ora_ok0 (hP : PrgIs c g P) : OraA c g (P.ora 0) 0 pr w := by
  intro cl base le cls
  refine ⟨fun f hff => ?_, hP.free, hP.globs, fun q hq A outer s H us vs Q E _ _ _ sp => ?_, fun _ _ _ _ _ _ => rfl, fun cn h => ?_, fun cn x h => ?_, hP.flds, hP.iscs, fun f h => hP.par f ?_⟩
  · obtain ⟨a, fd, st, qual, N, fn, lm, h1, h2, h3, h4, h5, h6, h7, _, h8⟩ := (hP.defs f hff).ex
    refine ⟨a, fd, fn.ps, h1, h2.kp, h4, by show (P.fns f).map (·.ps) = _; rw [h5]; rfl, fun _ _ => rfl, ⟨fun vs H Q E q => q.1, fun A outer s H args us vs Q E _ _ _ _ q => ?_⟩, h2.look, h8⟩
    obtain ⟨_, z, ds, _, _, q⟩ := q
    exact q.elim
  · obtain ⟨_, z, ds, _, _, q⟩ := sp
    exact q.elim
  · obtain ⟨C, f, fd, st, x, qual, y, N, I, h1, h2, h3, h4, h5, h6, h7, h8, h9, h10⟩ := (hP.inits cn h).ex
    exact ⟨C, f, fd, _, I.ps.length, h1, h2, h7, fun _ _ => rfl, .inl fun _ => rfl⟩
  · obtain ⟨C, p, gt, fd, st, nm, qual, N, fn, h1, h2, h3, h4, h5, h6, h7, h8, h9, h10⟩ := (hP.props cn x h).ex
    exact ⟨C, p, gt, fd, fn.ps, h1, h2, h3, h6, .inl fun d => rfl⟩
  · have h : ((P.fns f).map (·.ps)).isSome = true := h
    rwa [Option.isSome_map] at h
theorem PrgIs.wc (hP : PrgIs c g P) (cl : List Cl) : PrgIs (c.wc cl) g P :=
  ⟨fun f h => ⟨(hP.defs f h).ex⟩, hP.free, hP.globs, hP.par, fun cn h => ⟨(hP.inits cn h).ex⟩, fun cn x h => ⟨(hP.props cn x h).ex⟩, hP.flds, hP.iscs⟩
/-- each def keeps what its meaning says, at every depth, whatever lambdas were made -/
theorem ora_ok2 (hP : PrgIs c g P) : ∀ n, OraA c g (P.ora n) n pr w ∧ ∀ m, n = m + 1 → OraA c g (P.ora m) m pr w
  | 0 => ⟨ora_ok0 hP, fun m h => by cases h⟩
  | n + 1 => by
    obtain ⟨ih, ih2⟩ := ora_ok2 hP n
    refine ⟨?_, fun m h => by cases h; exact ih⟩
    intro cl base le cls
    refine ⟨fun f hff => ?_, hP.free, hP.globs, fun q hq A outer s H us vs Q E hr e0 r sp => lam_ok (c := c.wc cl) (ih.wc cl) le cls hq hr e0 r sp, fun n' m b env ds h => if_neg h,
      makes_ok (c := c.wc cl) (hP.wc cl) le cls n fun m h => (ih2 m h).wc cl, props_ok (c := c.wc cl) (hP.wc cl) le cls n fun m h => (ih2 m h).wc cl, hP.flds, hP.iscs, fun f h => hP.par f ?_⟩
    · obtain ⟨a, fd, st, qual, N, fn, lm, h1, h2, h3, h4, h5, h6, h7, hlm, h8⟩ := (hP.defs f hff).ex
      have hcall : (P.ora (n + 1)).call f = runFn (P.ora n) fn := by
        funext ds
        show (match P.fns f with | some fn => runFn (P.ora n) fn ds | none => stuck) = _
        rw [h5]
      refine ⟨a, fd, fn.ps, h1, h2.kp, h4, by show (P.fns f).map (·.ps) = _; rw [h5]; rfl, fun ds hl => ?_, ?_, h2.look, h8⟩
      · rw [hcall]
        exact runFn_len hl
      · rw [hcall]
        exact def_ok (c := c.wc cl) (ih.wc cl) le cls h2 h3 h6 h7 hlm
    · have h : ((P.fns f).map (·.ps)).isSome = true := h
      rwa [Option.isSome_map] at h
theorem ora_ok (hP : PrgIs c g P) (n : Nat) : OraA c g (P.ora n) n pr w := (ora_ok2 hP n).1
end
end Ev
set_option Elab.async false
set_option linter.all false
set_option maxRecDepth 100000
set_option maxHeartbeats 4000000
/-! Ev, part Y: from the head's facts to a law's end. -/
namespace Ev
open PySem PySem.Spec PyProof.Rows L2

/-! ### binding -/
def plainA (p : Arguments) (ps : List Str) : Bool := p.posonlyargs.isEmpty && (p.vararg.isNone && (p.kwonlyargs.isEmpty && (p.kwarg.isNone && (decide (p.args.map (·.arg) = ps) && decide ps.Nodup))))
theorem lookup_zip : ∀ {ps : List Str} {us : List Value} {n : Str}, us.length = ps.length → n ∈ ps → ∃ u, (ps.zip us).lookup n = some u
  | [], _, _, _, h => by cases h
  | p :: ps, [], _, h, _ => by cases h
  | p :: ps, u :: us, n, hl, h => by
    rw [List.zip_cons_cons, List.lookup_cons]
    cases e : n == p with
    | true => exact ⟨u, rfl⟩
    | false =>
      rcases List.mem_cons.mp h with rfl | h
      · simp at e
      · exact lookup_zip (by simpa using hl) h
theorem filterMap_zip : ∀ {ps : List Str} {us : List Value} {l : List (Str × Value)}, us.length = ps.length → ps.Nodup → (∀ n ∈ ps, l.lookup n = (ps.zip us).lookup n) → ps.filterMap (fun n => (l.lookup n).map fun x => (n, x)) = ps.zip us
  | [], _, _, _, _, _ => rfl
  | p :: ps, [], _, h, _, _ => by cases h
  | p :: ps, u :: us, l, hl, nd, h => by
    have h0 := h p List.mem_cons_self
    rw [List.zip_cons_cons, List.lookup_cons, beq_self_eq_true] at h0
    rw [List.filterMap_cons, h0, List.zip_cons_cons]
    show (p, u) :: _ = _
    congr 1
    refine filterMap_zip (by simpa using hl) (List.nodup_cons.mp nd).2 fun n hn => ?_
    rw [h n (List.mem_cons_of_mem _ hn), List.zip_cons_cons, List.lookup_cons]
    have : (n == p) = false := by
      cases e : n == p with
      | false => rfl
      | true => rw [beq_iff_eq.mp e] at hn; exact absurd hn (List.nodup_cons.mp nd).1
    rw [this]
theorem bind_pos {name qual : Str} {p : Arguments} {body : List Stmt} {sc : Scope} {kV doc pm : Value} {an : Option Addr} {cdv ct : Value} {ps : List Str} {us : List Value} (h : plainA p ps = true) (hl : us.length = ps.length) :
    bindArgs (PySem.W.fnOf name qual p body sc .none kV doc pm an cdv ct) ⟨us, []⟩ = pure (ps.zip us) := by
  obtain ⟨po, as, va, ko, kd, kw, df⟩ := p
  unfold plainA at h
  simp only [Bool.and_eq_true, List.isEmpty_iff, Option.isNone_iff_eq_none, decide_eq_true_eq] at h
  obtain ⟨rfl, rfl, rfl, rfl, rfl, nd⟩ := h
  have e1 : ((as.map (·.arg)).filter fun n => (((as.map (·.arg)).zip us).lookup n).isNone) = [] := by
    rw [List.filter_eq_nil_iff]
    intro n hn
    obtain ⟨u, hu⟩ := lookup_zip hl hn
    rw [hu]; simp
  have e2 := filterMap_zip (l := (as.map (·.arg)).zip us) hl nd fun _ _ => rfl
  have hl2 : us.length = as.length := by simpa using hl
  unfold bindArgs
  have ht : List.take as.length (as.map (·.arg)) = as.map (·.arg) := by rw [← List.length_map (f := (·.arg)) (as := as)]; exact List.take_length
  have hn : notAStandIn Value.none = (pure () : Sem Unit) := rfl
  have e3 := e2
  rw [List.filterMap_map] at e3
  simp [seqItems?, hl2, ht, hn, e1, e3]

theorem forIn_app {α β : Type} {F : α → (List α × β) → Sem (ForInStep (List α × β))} : ∀ {l : List α} {s : List α} {e : β}, (∀ pre x post, l = pre ++ x :: post → F x (s ++ pre, e) = pure (.yield (s ++ pre ++ [x], e))) → forIn l (s, e) F = pure (s ++ l, e)
  | [], s, e, _ => by simp
  | x :: l, s, e, h => by
    rw [List.forIn_cons]
    have h0 := h [] x l rfl
    rw [List.append_nil] at h0
    rw [h0, pure_bind]
    show forIn l (s ++ [x], e) F = _
    rw [forIn_app fun pre y post hl => by
      have := h (x :: pre) y post (by rw [hl]; rfl)
      rw [show s ++ [x] ++ pre = s ++ (x :: pre) by simp]
      exact this]
    simp
theorem zip_take {α β : Type} : ∀ (ps : List α) (us : List β), ps.zip us = (ps.take us.length).zip us
  | [], us => by simp
  | _ :: _, [] => by simp
  | p :: ps, u :: us => by simp [zip_take ps us]
theorem lookup_app {l m : List (Str × Value)} {n : Str} (h : l.lookup n = none) : (l ++ m).lookup n = m.lookup n := by
  rw [List.lookup_append, h]; rfl
theorem lookup_no {l : List (Str × Value)} {n : Str} (h : n ∉ l.map (·.1)) : l.lookup n = none := by
  induction l with
  | nil => rfl
  | cons x l ih =>
    obtain ⟨a, b⟩ := x
    rw [List.lookup_cons]
    have h1 : (n == a) = false := by
      cases e : n == a with
      | false => rfl
      | true => exact absurd (by rw [beq_iff_eq.mp e]; exact List.mem_cons_self) h
    rw [h1]
    exact ih fun q => h (List.mem_cons_of_mem _ q)
theorem bind_kw {name qual : Str} {p : Arguments} {body : List Stmt} {sc : Scope} {kV doc pm : Value} {an : Option Addr} {cdv ct : Value} {ps ks : List Str} {us ws : List Value} (h : plainA p ps = true) (hl : us.length + ks.length = ps.length) (hw : ws.length = ks.length)
   (hk : ∀ k ∈ ks, k ∈ ps) (nd : (ps.take us.length ++ ks).Nodup) (hall : ∀ n ∈ ps, n ∈ ps.take us.length ++ ks) :
    bindArgs (PySem.W.fnOf name qual p body sc .none kV doc pm an cdv ct) ⟨us, ks.zip ws⟩ = pure (ps.filterMap fun n => (((ps.take us.length ++ ks).zip (us ++ ws)).lookup n).map fun x => (n, x)) := by
  obtain ⟨po, as, va, ko, kd, kw, df⟩ := p
  unfold plainA at h
  simp only [Bool.and_eq_true, List.isEmpty_iff, Option.isNone_iff_eq_none, decide_eq_true_eq] at h
  obtain ⟨rfl, rfl, rfl, rfl, rfl, _⟩ := h
  have hn : notAStandIn Value.none = (pure () : Sem Unit) := rfl
  have hlt : (List.take us.length (as.map (·.arg))).length = us.length := by rw [List.length_take]; omega
  have ez : (as.map (·.arg)).zip us ++ ks.zip ws = ((as.map (·.arg)).take us.length ++ ks).zip (us ++ ws) := by
    rw [List.zip_append hlt, ← zip_take]
  have e1 : ((as.map (·.arg)).filter fun n => (((((as.map (·.arg)).take us.length ++ ks).zip (us ++ ws)).lookup n)).isNone) = [] := by
    rw [List.filter_eq_nil_iff]
    intro n hn
    obtain ⟨u, hu⟩ := lookup_zip (us := us ++ ws) (by rw [List.length_append, List.length_append, hlt, hw]) (hall n hn)
    rw [hu]; simp
  have hl2 : ¬ (as.length < us.length) := by have : us.length + ks.length = as.length := (by simpa using hl); omega
  have ht : List.take as.length (as.map (·.arg)) = as.map (·.arg) := by rw [← List.length_map (f := (·.arg)) (as := as)]; exact List.take_length
  unfold bindArgs
  simp only [List.map_nil, List.nil_append, List.append_nil]
  rw [forIn_app (fun pre x post hx => by
    have hx1 : x.1 ∈ ks := (List.of_mem_zip (a := x.1) (b := x.2) (by rw [hx]; simp)).1
    have hc : (as.map (·.arg)).contains x.1 = true := by simpa using hk _ hx1
    have hno : ((as.map (·.arg)).zip us ++ pre).lookup x.1 = none := by
      refine lookup_no ?_
      have e9 : (ks.zip ws).map (·.1) = ks := List.map_fst_zip (Nat.le_of_eq hw.symm)
      rw [hx, List.map_append, List.map_cons] at e9
      rw [List.map_append, zip_take, List.map_fst_zip (Nat.le_of_eq hlt)]
      rw [← e9, ← List.append_assoc] at nd
      have := (List.nodup_append.mp nd).2.2
      intro hm
      exact this _ hm _ List.mem_cons_self rfl
    simp only [hc, Bool.true_or, if_true, hno]
    rfl)]
  rw [ez]
  simp [seqItems?, hl2, ht, hn, e1]
theorem lookup_at : ∀ {L : List Str} {xs : List Value} {i : Nat} {p : Str}, L.Nodup → xs.length = L.length → L[i]? = some p → (L.zip xs).lookup p = xs[i]?
  | [], _, _, _, _, _, h => by simp at h
  | _ :: _, [], _, _, _, h, _ => by cases h
  | a :: L, x :: xs, 0, p, _, _, h => by
    simp at h
    subst h
    rw [List.zip_cons_cons, List.lookup_cons]
    simp
  | a :: L, x :: xs, i + 1, p, nd, hl, h => by
    have h : L[i]? = some p := by simpa using h
    have hm := List.mem_of_getElem? h
    rw [List.zip_cons_cons, List.lookup_cons]
    have : (p == a) = false := by
      cases e : p == a with
      | false => rfl
      | true => rw [beq_iff_eq.mp e] at hm; exact absurd hm (List.nodup_cons.mp nd).1
    rw [this]
    simpa using lookup_at (List.nodup_cons.mp nd).2 (by simpa using hl) h
theorem perm_zip {L : List Str} {xs : List Value} (nd : L.Nodup) (hl : xs.length = L.length) : ∀ {ps : List Str} {pm : List Nat}, pm.map (fun i => L[i]?) = ps.map some → ps.filterMap (fun n => ((L.zip xs).lookup n).map fun x => (n, x)) = ps.zip (pm.filterMap fun i => xs[i]?)
  | [], [], _ => rfl
  | [], _ :: _, h => by cases h
  | _ :: _, [], h => by cases h
  | p :: ps, i :: pm, h => by
    have h1 : L[i]? = some p := (List.cons.inj h).1
    have h2 := lookup_at nd hl h1
    have hi : i < xs.length := by
      rw [hl]
      exact (List.getElem?_eq_some_iff.mp h1).1
    rw [List.getElem?_eq_getElem hi] at h2
    rw [List.filterMap_cons, List.filterMap_cons, h2, List.getElem?_eq_getElem hi]
    show (p, xs[i]) :: _ = (p, xs[i]) :: _
    rw [perm_zip nd hl (List.cons.inj h).2]; rfl
/-- the look at a keyword call -/
def kwB (p : Arguments) (ps : List Str) (n : Nat) (ks : List Str) (pm : List Nat) : Bool :=
  plainA p ps && (decide (n + ks.length = ps.length) && (decide (pm.map (fun i => (ps.take n ++ ks)[i]?) = ps.map some) && (decide (ps.take n ++ ks).Nodup && (ks.all (fun k => ps.contains k) && ps.all (fun k => (ps.take n ++ ks).contains k)))))
theorem bind_kwB {name qual : Str} {p : Arguments} {body : List Stmt} {sc : Scope} {kV doc pm' : Value} {an : Option Addr} {cdv ct : Value} {ps ks : List Str} {n : Nat} {pm : List Nat} {us ws : List Value} (h : kwB p ps n ks pm = true) (hu : us.length = n) (hw : ws.length = ks.length) :
    bindArgs (PySem.W.fnOf name qual p body sc .none kV doc pm' an cdv ct) ⟨us, ks.zip ws⟩ = pure (ps.zip (permV pm us ws)) := by
  subst hu
  unfold kwB at h
  simp only [Bool.and_eq_true, decide_eq_true_eq, List.all_eq_true] at h
  obtain ⟨h1, h2, h3, h4, h5, h6⟩ := h
  rw [bind_kw h1 h2 hw (fun k hk => by simpa using h5 k hk) h4 (fun n hn => by simpa using h6 n hn)]
  have hl : (us ++ ws).length = (ps.take us.length ++ ks).length := by rw [List.length_append, List.length_append, List.length_take, hw]; omega
  rw [perm_zip h4 hl h3]; rfl
/-! ### constants of the module -/
mutual
def repB (K : PySem.W.Frag) : D → Value → Bool
  | .non, .none => true
  | .bl b, .bool c => b == c
  | .int i, .int j _ => decide (i = j)
  | .str x, .str y _ => decide (x = y)
  | .tup ds, .ref a => match K.lookup a with
    | some ⟨.type c, _, .seq its _, _⟩ => decide (c = "tuple") && (decide (its.size ≤ sizeLine) && repBL K ds its.toList)
    | _ => false
  | _, _ => false
def repBL (K : PySem.W.Frag) : List D → List Value → Bool
  | [], [] => true
  | d :: ds, u :: us => repB K d u && repBL K ds us
  | _, _ => false
end
mutual
theorem repB_ok {K : PySem.W.Frag} {mg : Str → Option Value} : ∀ (d : D) (u : Value), repB K d u = true → ∃ v, RelV v u ∧ ∀ z, Rep K mg z v d
  | .non, u, h => by cases u <;> first | (cases h; done) | exact ⟨.non, rfl, fun _ => .non⟩
  | .bl b, u, h => by
    cases u <;> first | (cases h; done) | skip
    rename_i c
    have e : b = c := by simpa [repB] using h
    subst e
    exact ⟨.bl b, rfl, fun _ => .bl b⟩
  | .int i, u, h => by
    cases u <;> first | (cases h; done) | skip
    rename_i j t
    have e : i = j := by simpa [repB] using h
    subst e
    exact ⟨.int i, ⟨t, rfl⟩, fun _ => .int i⟩
  | .str x, u, h => by
    cases u <;> first | (cases h; done) | skip
    rename_i y t
    have e : x = y := by simpa [repB] using h
    subst e
    exact ⟨.str x, ⟨t, rfl⟩, fun _ => .str x⟩
  | .tup ds, u, h => by
    cases u <;> first | (cases h; done) | skip
    rename_i a
    have h : (match K.lookup a with
      | some ⟨.type c, _, .seq its _, _⟩ => decide (c = "tuple") && (decide (its.size ≤ sizeLine) && repBL K ds its.toList)
      | _ => false) = true := h
    split at h
    · rename_i c od its n sl e
      obtain ⟨h1, h2⟩ := ba3 h
      obtain ⟨h3, h4⟩ := ba3 h2
      obtain ⟨vs, r1, r2⟩ := repBL_ok (mg := mg) ds its.toList h4
      exact ⟨.ref a, rfl, fun z => .tup (.inr ⟨_, its, n, e, by rw [of_decide_eq_true h1], rfl, of_decide_eq_true h3, r1⟩) (r2 z)⟩
    · cases h
  | .lst _, u, h => by cases u <;> cases h
  | .obj _ _, u, h => by cases u <;> cases h
  | .set _, u, h => by cases u <;> cases h
  | .dic _ _, u, h => by cases u <;> cases h
  | .hnd, u, h => by cases u <;> cases h
  | .fn _, u, h => by cases u <;> cases h
  | .ty _, u, h => by cases u <;> cases h
  | .clo _ _ _ _, u, h => by cases u <;> cases h
  | .slf, u, h => by cases u <;> cases h
theorem repBL_ok {K : PySem.W.Frag} {mg : Str → Option Value} : ∀ (ds : List D) (us : List Value), repBL K ds us = true → ∃ vs, Vals vs us ∧ ∀ z, RepL K mg z vs ds
  | [], [], _ => ⟨[], .nil, fun _ => .nil⟩
  | [], _ :: _, h => by cases h
  | _ :: _, [], h => by cases h
  | d :: ds, u :: us, h => by
    obtain ⟨h1, h2⟩ := ba3 (show (repB K d u && repBL K ds us) = true from h)
    obtain ⟨v, r1, r2⟩ := repB_ok (mg := mg) d u h1
    obtain ⟨vs, s1, s2⟩ := repBL_ok (mg := mg) ds us h2
    exact ⟨v :: vs, .cons r1 s1, fun z => .cons (r2 z) (s2 z)⟩
end
theorem inj_of_nodup {α β : Type} {f : α → β} : ∀ {l : List α} {a b : α}, (l.map f).Nodup → a ∈ l → b ∈ l → f a = f b → a = b
  | [], _, _, _, h, _, _ => by cases h
  | x :: l, a, b, nd, ha, hb, e => by
    rw [List.map_cons, List.nodup_cons] at nd
    rcases List.mem_cons.mp ha with rfl | ha' <;> rcases List.mem_cons.mp hb with rfl | hb'
    · rfl
    · exact absurd (List.mem_map.mpr ⟨b, hb', e.symm⟩) nd.1
    · exact absurd (List.mem_map.mpr ⟨a, ha', e⟩) nd.1
    · exact inj_of_nodup nd.2 ha' hb' e
/-! ### a law's defs -/
structure DefC where
  name : Str
  st : Stmt
  N : List Str
  fn : Fn
  lm : Bool
/-- an __init__ -/
structure IniC where
  cls : Str
  st : Stmt
  N : List Str
  self : Str
  I : Init
/-- a property -/
structure GetC where
  cls : Str
  x : Str
  st : Stmt
  N : List Str
  fn : Fn
/-- a law's text in the small syntax -/
structure LawC where
  dfs : List DefC
  free : List Str
  gl : List (Str × D)
  kws : List (Str × Nat × List Str × List Nat)
  wf : Nat
  inis : List IniC := []
  gts : List GetC := []
  flds : List (Str × Str) := []
  iscs : List Str := []
  na : Nat := 1500
/-- where a property's def stands -/
def gA (K : PySem.W.Frag) (C x : Str) : Addr := match PySem.W.recIn K (He.ma K (He.ga K C) x) "property" with
  | some (.ref g :: _) => g
  | _ => 0
def fnA (K : PySem.W.Frag) (a : Addr) : He.FnV := match K.lookup a with
  | some ⟨_, _, .func fd, _⟩ => some (fd.name, fd.qualname, fd.params, fd.body, fd.scope, fd.globals, fd.closure, fd.defaults, fd.builtins)
  | _ => none
def GetC.qual (d : GetC) : Str := d.cls ++ "." ++ d.x
def GetC.val (d : GetC) : He.FnV := some (d.x, d.qual, defArgs d.st, .stmts (defBody d.st), defScope d.st, mainGlobals, [], .none, builtinsNs)
def getB (K : PySem.W.Frag) (d : GetC) : Bool :=
  He.eqO (PySem.W.findIn K (.ref (He.ga K d.cls)) d.x) (some (some (.ref (He.ma K (He.ga K d.cls) d.x)))) && (He.eqO (PySem.W.specialIn K (.ref (He.ma K (He.ga K d.cls) d.x)) "__get__") (some (some (.builtin "property.__get__"))) &&
    (decide (PySem.W.takesIn K (.ref (He.ma K (He.ga K d.cls) d.x)) = some true) && ((match PySem.W.recIn K (He.ma K (He.ga K d.cls) d.x) "property" with
      | some (.ref _ :: _) => true
      | _ => false) && (PySem.W.keepIn K (.ref (gA K d.cls d.x)) && (match K.lookup (gA K d.cls d.x) with
      | some ⟨_, _, .func fd, _⟩ => PySem.W.codeIn K fd.code d.qual
      | _ => false)))))
theorem getB_ok {K : PySem.W.Frag} {d : GetC} (h : getB K d = true) (e : fnA K (gA K d.cls d.x) = d.val) : L2.PropOf K (He.ga K d.cls) d.x (He.ma K (He.ga K d.cls) d.x) (gA K d.cls d.x) ∧ ∃ fd, Fun K d.x d.qual d.st (gA K d.cls d.x) fd ∧
    ∃ kV doc pm an cdv ct, fd = PySem.W.fnOf d.x d.qual (defArgs d.st) (defBody d.st) (defScope d.st) .none kV doc pm an cdv ct := by
  obtain ⟨h1, h⟩ := He.ba h
  obtain ⟨h2, h⟩ := He.ba h
  obtain ⟨h3, h⟩ := He.ba h
  obtain ⟨h4, h⟩ := He.ba h
  obtain ⟨h5, h6⟩ := He.ba h
  refine ⟨⟨He.eqO_ok h1, He.eqO_ok h2, of_decide_eq_true h3, ?_⟩, ?_⟩
  · unfold gA
    cases q : PySem.W.recIn K (He.ma K (He.ga K d.cls) d.x) "property" with
    | none => rw [q] at h4; cases h4
    | some l =>
      cases l with
      | nil => rw [q] at h4; cases h4
      | cons v l =>
        cases v with
        | ref g => exact ⟨l, rfl⟩
        | _ => rw [q] at h4; cases h4
  · unfold fnA at e
    cases q : K.lookup (gA K d.cls d.x) with
    | none => rw [q] at h6; cases h6
    | some o =>
      obtain ⟨oc, od, dt, osl⟩ := o
      rw [q] at h6 e
      cases dt with
      | func fd =>
        obtain ⟨n1, n2, n3, n4, n5, n6, n7, n8, n9, n10, n11, n12, n13, n14, n15⟩ := fd
        have e2 : (some (n1, n2, n3, n4, n5, n6, n7, n8, n15) : He.FnV) = some (d.x, d.qual, defArgs d.st, .stmts (defBody d.st), defScope d.st, mainGlobals, [], .none, builtinsNs) := e
        simp only [Option.some.injEq, Prod.mk.injEq] at e2
        obtain ⟨h1, h2, h3, h4, h5, h6', h7, h8, h9⟩ := e2
        subst h1 h2 h3 h4 h5 h6' h7 h8 h9
        exact ⟨_, ⟨⟨oc, od, n9, n10, n11, n12, n13, n14, osl, rfl, q, h6⟩, h5⟩, n9, n10, n11, n12, n13, n14, rfl⟩
      | _ => cases h6
/-- isinstance with an own class -/
def iscB (K : PySem.W.Frag) (x : Str) : Bool :=
  He.eqO (PySem.W.findIn K (.ref (He.ga K x)) "__class__") (some (some (.builtin "object.__class__"))) && (He.eqO (PySem.W.specialIn K (.builtin "object.__class__") "__get__") (some (some (.builtin "getset_descriptor.__get__"))) &&
    (decide (PySem.W.takesIn K (.builtin "object.__class__") = some true) && (decide (PySem.W.mroIn K (He.ga K x) (.type "object") = some true) && (decide (PySem.W.kitOne K (.ref (He.ga K x)) (.ref (He.ga K x)) = some true) &&
      ["NoneType", "bool", "int", "str", "tuple", "list"].all fun n => decide (PySem.W.kitOne K (.type n) (.ref (He.ga K x)) = some false)))))
namespace LawC
variable (L : LawC)
def names : List Str := L.dfs.map (·.name)
def clsI : List Str := L.inis.map (·.cls)
def g : Gx := { N := [], defs := L.names, free := L.free, kws := L.kws, top := true, lam := false, clss := L.clsI, props := L.gts.map fun d => (d.cls, d.x), flds := L.flds, iscs := L.iscs }
def find (x : Str) : Option DefC := L.dfs.find? fun d => d.name == x
def findI (x : Str) : Option IniC := L.inis.find? fun d => d.cls == x
def findG (c x : Str) : Option GetC := L.gts.find? fun d => d.cls == c && d.x == x
def prg : Prg := { fns := fun x => (L.find x).map (·.fn), inits := fun x => (L.findI x).map (·.I), gets := fun c x => (L.findG c x).map (·.fn), globs := fun x => match L.gl.lookup x with
  | some d => some d
  | none => if L.names.contains x then some (.fn x) else none, wf := L.wf }
def dd (d : DefC) : He.DefD := ⟨(d.name, none), d.name, d.name, defArgs d.st, defBody d.st, defScope d.st, [], []⟩
def di (d : IniC) : He.DefD := ⟨(d.cls, some "__init__"), "__init__", d.cls ++ "." ++ "__init__", defArgs d.st, defBody d.st, defScope d.st, [], []⟩
def fnD : List He.DefD := L.dfs.map dd ++ L.inis.map di
/-- the classes that are looked at -/
def allC : List Str := L.clsI ++ L.gts.map (·.cls) ++ L.flds.map (·.1) ++ L.iscs
def fa : List He.Fa := L.names.map .glo ++ L.free.map .free ++ L.allC.map .glo ++ L.allC.map .cls ++ L.inis.map (fun d => .mkr d.cls) ++ L.inis.map (fun d => .noat d.cls d.I.f) ++ L.flds.map (fun p => .noat p.1 p.2)
def tf : List He.Defn := (L.dfs.filter (·.lm)).map fun d => (d.name, none)
/-- what else is looked at behind the top -/
def ex (K : PySem.W.Frag) : Bool := decide (L.tf.map fun p => (He.cT K p).2).Nodup && ((L.gl.all fun p => match PySem.W.nsIn K mainGlobals p.1 with
  | some (some u) => repB K p.2 u
  | _ => false) && (L.gts.all (getB K) && L.iscs.all (iscB K)))
/-- the looks at the text -/
def chkD (d : DefC) : Bool := C8.scC d.N d.fn.ps (defScope d.st) && (decide (d.fn.ns = d.N.length) && (plainA (defArgs d.st) d.fn.ps && chkSs { L.g with N := d.N, top := true, lam := d.lm } (defScope d.st) d.fn.body (defBody d.st)))
def chkI (d : IniC) : Bool := C8.scC d.N (d.self :: d.I.ps) (defScope d.st) && (decide (d.I.ns = d.N.length) && (plainA (defArgs d.st) (d.self :: d.I.ps) && chkInit { L.g with N := d.N, top := true, lam := false } (defScope d.st) d.I (defBody d.st)))
def chkG (d : GetC) : Bool := C8.scC d.N d.fn.ps (defScope d.st) && (decide (d.fn.ns = d.N.length) && (plainA (defArgs d.st) d.fn.ps && (decide (d.fn.ps.length = 1) && chkSs { L.g with N := d.N, top := true, lam := false } (defScope d.st) d.fn.body (defBody d.st))))
def chkK : Bool := L.kws.all fun k => match L.find k.1 with
  | some d => kwB (defArgs d.st) d.fn.ps k.2.1 k.2.2.1 k.2.2.2
  | none => false
def tabs (K : PySem.W.Frag) : List (Addr × Str) := L.tf.map fun p => ((He.cT K p).2, p.1 ++ ".<locals>." ++ "<lambda>")
def cn (K : PySem.W.Frag) (mg : Str → Option Value) (b : Heap) : Cn := ⟨K, mg, L.tabs K, b, []⟩
end LawC
/-! ### the hook: the kit's, and the properties' defs -/
abbrev AlY : Type := He.AlX × List He.FnV
def SaysY (L : LawC) (w : World) (h : Heap) (K : PySem.W.Frag) : Prop := He.SaysX L.fa L.fnD [] L.tf L.ex w h K ∧ L.gts.map (fun d => fnA K (gA K d.cls d.x)) = L.gts.map GetC.val
def frY (L : LawC) (g : Addr → Option Obj) : PySem.W.Frag := He.frT g (List.range L.na)
def obsK (L : LawC) (g : Addr → Option Obj) (K : PySem.W.Frag) : AlY := ((He.obsT L.fa L.fnD [] K, L.ex K && He.tabsB g L.tf K), L.gts.map fun d => fnA K (gA K d.cls d.x))
def obsY (L : LawC) (g : Addr → Option Obj) : AlY := obsK L g (frY L g)
/-- the kit's facts, of the objects at the first addresses -/
theorem saysK_of {L : LawC} {w : World} {h : Heap} {as : List Addr} {K : PySem.W.Frag} (eK : K = He.frT h.get? as) (e : (He.obsT L.fa L.fnD [] K, L.ex K && He.tabsB h.get? L.tf K) = He.valX L.fnD [] w) : He.SaysX L.fa L.fnD [] L.tf L.ex w h K := by
  have e1 : He.obsT L.fa L.fnD [] K = He.valT L.fnD [] w := congrArg (fun z : He.AlX => z.1) e
  obtain ⟨h1, h2⟩ := He.ba (show (L.ex K && He.tabsB h.get? L.tf K) = true from congrArg (fun z : He.AlX => z.2) e)
  have tab : ∀ p ∈ L.tf, ∃ o, h.get? (He.cT K p).2 = some o ∧ He.emptyTab o = true ∧ PySem.W.codeHdIn K (He.cT K p).1 (He.cT K p).2 = true := fun p hp => by
    have h3 := List.all_eq_true.mp h2 p hp
    revert h3
    cases q : h.get? (He.cT K p).2 with
    | none => simp
    | some o => intro h3; obtain ⟨h4, h5⟩ := He.ba h3; exact ⟨o, rfl, h5, h4⟩
  refine ⟨e1, h1, fun p hp => ?_, fun p hp => ?_, fun p hp => ?_⟩ <;> obtain ⟨o, q, z, c⟩ := tab p hp
  · exact c
  · have := He.frT_none (as := as) q z
    rw [← eK] at this
    exact this
  · rw [q, He.emptyTab_eq z]
def hookY (L : LawC) : PySem.W.Hook where
  α := AlY
  obs := fun s => obsY L s.heap.get?
  val := fun w => (He.valX L.fnD [] w, L.gts.map GetC.val)
  says := fun w h => ∃ K : PySem.W.Frag, K.In h ∧ SaysY L w h K
  of := fun _ _ e => ⟨_, He.frT_in, saysK_of rfl (congrArg (fun z : AlY => z.1) e), congrArg (fun z : AlY => z.2) e⟩
  keeps := fun _ _ _ ⟨K, hK, c, c2⟩ k => ⟨K, PySem.W.Frag.In.keeps hK k, ⟨c.t, c.more, c.hd, c.out, fun p hp => k _ _ (c.empty p hp)⟩, c2⟩
theorem obsY_eq {L : LawC} {g : Addr → Option Obj} {s : Shared} (h : ∀ a, g a = s.heap.get? a) : obsY L g = (hookY L).obs s := by
  have e : g = s.heap.get? := funext h
  rw [e] <;> rfl
section
variable {L : LawC} {w : World} {h : Heap} {K : PySem.W.Frag} {mg : Str → Option Value} {base : Heap}
theorem find_of {x : Str} {d : DefC} (e : L.find x = some d) : d ∈ L.dfs ∧ d.name = x := by
  unfold LawC.find at e
  exact ⟨List.mem_of_find?_eq_some e, by simpa using List.find?_some e⟩
theorem find_some {x : Str} (h : L.g.defs.contains x = true) : ∃ d, L.find x = some d := by
  have h : x ∈ L.dfs.map (·.name) := by simpa [LawC.g, LawC.names] using h
  obtain ⟨d, hd, rfl⟩ := List.mem_map.mp h
  cases e : L.find d.name with
  | some d' => exact ⟨d', rfl⟩
  | none =>
    unfold LawC.find at e
    have := List.find?_eq_none.mp e d hd
    simp at this
theorem findI_some {x : Str} (h : L.g.clss.contains x = true) : ∃ d, L.findI x = some d ∧ d ∈ L.inis ∧ d.cls = x := by
  have h : x ∈ L.inis.map (·.cls) := by simpa [LawC.g, LawC.clsI] using h
  obtain ⟨d, hd, rfl⟩ := List.mem_map.mp h
  cases e : L.findI d.cls with
  | some d' =>
    unfold LawC.findI at e
    exact ⟨d', rfl, List.mem_of_find?_eq_some e, by simpa using List.find?_some e⟩
  | none =>
    unfold LawC.findI at e
    have := List.find?_eq_none.mp e d hd
    simp at this
theorem findG_some {c x : Str} (h : L.g.props.contains (c, x) = true) : ∃ d, L.findG c x = some d ∧ d ∈ L.gts ∧ d.cls = c ∧ d.x = x := by
  have h : (c, x) ∈ L.gts.map fun d => (d.cls, d.x) := by
    unfold LawC.g at h
    exact List.contains_iff_mem.mp h
  obtain ⟨d, hd, e⟩ := List.mem_map.mp h
  cases e
  cases e : L.findG d.cls d.x with
  | some d' =>
    unfold LawC.findG at e
    have := List.find?_some e
    obtain ⟨e1, e2⟩ := ba3 this
    exact ⟨d', rfl, List.mem_of_find?_eq_some e, beq_iff_eq.mp e1, beq_iff_eq.mp e2⟩
  | none =>
    unfold LawC.findG at e
    have := List.find?_eq_none.mp e d hd
    simp at this
theorem funD_of (c : He.SaysX L.fa L.fnD [] L.tf L.ex w h K) {d : He.DefD} {st : Stmt} (hd : d ∈ L.fnD) (h1 : d.params = defArgs st) (h2 : d.body = defBody st) (h3 : d.scope = defScope st) (h4 : d.dfl = []) (h5 : d.kwd = []) : ∃ fd, Fun K d.name d.qual st (He.fAd K d.at_) fd ∧ (∀ {ps}, plainA (defArgs st) ps = true → L2.Binds K fd ps [] ∧
    (∀ n ks pm, kwB (defArgs st) ps n ks pm = true → ∀ (s : Shared) (us ws : List Value), us.length = n → ws.length = ks.length → BindsTo s fd ⟨us, ks.zip ws⟩ (ps.zip (permV pm us ws)))) := by
  obtain ⟨fd, F⟩ := c.t.d.defs (d := d) hd
  obtain ⟨⟨oc, od, dV, kV, doc, pm, an, cdv, ct, osl, e, lk, hcd, hD, hK⟩, kp⟩ := F
  rw [h1, h2, h3] at e
  rcases hD with ⟨_, rfl⟩ | ⟨e', _⟩
  · subst e
    refine ⟨_, ⟨⟨oc, od, kV, doc, pm, an, cdv, ct, osl, rfl, lk, hcd⟩, kp⟩, fun hp => ⟨.all fun us hl => bind_pos hp hl, fun n ks pm' hk s us ws hu hw => .of_eq (bind_kwB hk hu hw)⟩⟩
  · exact absurd (by unfold He.DefD.dvs; rw [h4]; rfl) e'
theorem fun_of (c : He.SaysX L.fa L.fnD [] L.tf L.ex w h K) {d : DefC} (hd : d ∈ L.dfs) : ∃ fd, Fun K d.name d.name d.st (He.ga K d.name) fd ∧ (∀ {ps}, plainA (defArgs d.st) ps = true → L2.Binds K fd ps [] ∧
    (∀ n ks pm, kwB (defArgs d.st) ps n ks pm = true → ∀ (s : Shared) (us ws : List Value), us.length = n → ws.length = ks.length → BindsTo s fd ⟨us, ks.zip ws⟩ (ps.zip (permV pm us ws)))) :=
  funD_of c (d := LawC.dd d) (List.mem_append_left _ (List.mem_map.mpr ⟨d, hd, rfl⟩)) rfl rfl rfl rfl rfl
theorem mem_fa1 {x : Str} (h : x ∈ L.names) : He.Fa.glo x ∈ L.fa := by unfold LawC.fa; simp [h]
theorem mem_fa2 {x : Str} (h : x ∈ L.free) : He.Fa.free x ∈ L.fa := by unfold LawC.fa; simp [h]
theorem mem_fa3 {x : Str} (h : x ∈ L.allC) : He.Fa.glo x ∈ L.fa := by unfold LawC.fa; simp [h]
theorem mem_fa4 {x : Str} (h : x ∈ L.allC) : He.Fa.cls x ∈ L.fa := by unfold LawC.fa; simp [h]
theorem mem_fa5 {d : IniC} (h : d ∈ L.inis) : He.Fa.mkr d.cls ∈ L.fa := by unfold LawC.fa; simp only [List.mem_append]; exact .inl (.inl (.inr (List.mem_map.mpr ⟨d, h, rfl⟩)))
theorem mem_fa6 {d : IniC} (h : d ∈ L.inis) : He.Fa.noat d.cls d.I.f ∈ L.fa := by unfold LawC.fa; simp only [List.mem_append]; exact .inl (.inr (List.mem_map.mpr ⟨d, h, rfl⟩))
theorem mem_fa7 {p : Str × Str} (h : p ∈ L.flds) : He.Fa.noat p.1 p.2 ∈ L.fa := by unfold LawC.fa; simp only [List.mem_append]; exact .inr (List.mem_map.mpr ⟨p, h, rfl⟩)
theorem defIs_of (c : He.SaysX L.fa L.fnD [] L.tf L.ex w h K) (KX : K.In h) (G : h.Ns mainGlobals mg) (hD : L.dfs.all L.chkD = true) (hK : L.chkK = true) (hT : ∀ p ∈ L.tf.map (He.cT K), LamX.TabB base mg p.1 p.2) {f : Str} (hf : L.g.defs.contains f = true) :
    DefIs (L.cn K mg base) L.g L.prg f := by
  obtain ⟨d, hfd⟩ := find_some hf
  obtain ⟨hd, rfl⟩ := find_of hfd
  obtain ⟨fd, F, hb⟩ := fun_of c hd
  obtain ⟨h1, ha⟩ := ba3 (List.all_eq_true.mp hD d hd)
  obtain ⟨h2, hbb⟩ := ba3 ha
  obtain ⟨h3, h4⟩ := ba3 hbb
  obtain ⟨b1, b2⟩ := hb h3
  have hm : mg d.name = some (.ref (He.ga K d.name)) := He.glo_ok KX G (c.t.d.facts (mem_fa1 (List.mem_map.mpr ⟨d, hd, rfl⟩)))
  refine ⟨_, fd, d.st, d.name, d.N, d.fn, d.lm, hm, F, C8.fnScope_by h1, b1, by show (L.find d.name).map (·.fn) = _; rw [hfd]; rfl, of_decide_eq_true h2, h4, fun hl => ?_, fun n ks pm hk s us ws _ hu hw => b2 n ks pm ?_ s us ws hu hw⟩
  · have hp : ((d.name, none) : He.Defn) ∈ L.tf := List.mem_map.mpr ⟨d, List.mem_filter.mpr ⟨hd, hl⟩, rfl⟩
    obtain ⟨oc, od, kV, doc, pm, an, cdv, ct, osl, e, lk, hcd⟩ := F.ex
    obtain ⟨c0, e0⟩ := He.codeIn_ref hcd
    have ec : fd.code = .ref c0 := by rw [e]; exact e0
    have ecT : He.codeOf K (d.name, none) = c0 := He.codeOf_eq (p := (d.name, none)) lk ec
    refine ⟨c0, (He.cT K (d.name, none)).2, ec, ?_, ?_, fun p hp2 e2 => ?_⟩
    · have := hT _ (List.mem_map.mpr ⟨_, hp, rfl⟩)
      have e3 : (He.cT K (d.name, none)).1 = c0 := ecT
      rw [e3] at this
      exact this
    · exact List.mem_map.mpr ⟨_, hp, rfl⟩
    · obtain ⟨p', hp', rfl⟩ := List.mem_map.mp hp2
      have nd := of_decide_eq_true (ba3 c.more).1
      have e4 : p' = (d.name, none) := by
        have e2 : (He.cT K p').2 = (He.cT K (d.name, none)).2 := e2
        exact inj_of_nodup nd hp' hp e2
      rw [e4]
  · have hk : (d.name, n, ks, pm) ∈ L.kws := by simpa [LawC.g] using hk
    have := List.all_eq_true.mp hK _ hk
    simp only [hfd] at this
    exact this
theorem iniIs_of (c : He.SaysX L.fa L.fnD [] L.tf L.ex w h K) (KX : K.In h) (G : h.Ns mainGlobals mg) (hI : L.inis.all L.chkI = true) {cn : Str} (hf : L.g.clss.contains cn = true) : InitIs (L.cn K mg base) L.g L.prg cn := by
  obtain ⟨d, hfd, hd, rfl⟩ := findI_some hf
  obtain ⟨fd, F, hb⟩ := funD_of c (d := LawC.di d) (st := d.st) (List.mem_append_right _ (List.mem_map.mpr ⟨d, hd, rfl⟩)) rfl rfl rfl rfl rfl
  obtain ⟨h1, ha⟩ := ba3 (List.all_eq_true.mp hI d hd)
  obtain ⟨h2, hbb⟩ := ba3 ha
  obtain ⟨h3, h4⟩ := ba3 hbb
  obtain ⟨b1, b2⟩ := hb h3
  have hC : d.cls ∈ L.allC := by
    unfold LawC.allC LawC.clsI
    simp only [List.mem_append]
    exact .inl (.inl (.inl (List.mem_map.mpr ⟨d, hd, rfl⟩)))
  exact ⟨_, _, fd, d.st, _, _, d.self, d.N, d.I, He.glo_ok KX G (c.t.d.facts (mem_fa3 hC)), He.mkr_ok (c.t.d.facts (mem_fa5 hd)), He.cls_ok (c.t.d.facts (mem_fa4 hC)), He.noat_ok (c.t.d.facts (mem_fa6 hd)), F, C8.fnScope_by h1, b1,
    by show (L.findI d.cls).map (·.I) = _; rw [hfd]; rfl, of_decide_eq_true h2, h4⟩
theorem getIs_of (c : SaysY L w h K) (KX : K.In h) (G : h.Ns mainGlobals mg) (hG : L.gts.all L.chkG = true) {cn x : Str} (hf : L.g.props.contains (cn, x) = true) : PropIs (L.cn K mg base) L.g L.prg cn x := by
  obtain ⟨d, hfd, hd, rfl, rfl⟩ := findG_some hf
  obtain ⟨c, c2⟩ := c
  have hg := (ba3 (ba3 (ba3 c.more).2).2).1
  have e : fnA K (gA K d.cls d.x) = d.val := by
    have := List.map_inj_left.mp c2 d hd
    exact this
  obtain ⟨P1, fd, F, kV, doc, pm, an, cdv, ct, efd⟩ := getB_ok (List.all_eq_true.mp hg d hd) e
  obtain ⟨h1, ha⟩ := ba3 (List.all_eq_true.mp hG d hd)
  obtain ⟨h2, hbb⟩ := ba3 ha
  obtain ⟨h3, h3b⟩ := ba3 hbb
  obtain ⟨h4, h5⟩ := ba3 h3b
  have hC : d.cls ∈ L.allC := by
    unfold LawC.allC
    simp only [List.mem_append]
    exact .inl (.inl (.inr (List.mem_map.mpr ⟨d, hd, rfl⟩)))
  have b1 : L2.Binds K fd d.fn.ps [] := by
    rw [efd]; exact .all fun us hl => bind_pos h3 hl
  exact ⟨_, _, _, fd, d.st, _, _, d.N, d.fn, He.glo_ok KX G (c.t.d.facts (mem_fa3 hC)), He.cls_ok (c.t.d.facts (mem_fa4 hC)), P1, F, C8.fnScope_by h1, b1, by show (L.findG d.cls d.x).map (·.fn) = _; rw [hfd]; rfl, of_decide_eq_true h4, of_decide_eq_true h2, h5⟩
/-- the world at the law's entry -/
theorem wf0 {c : Cn} {H : Hp} {F : Hp} (hc : c.cl = []) (ts : LamX.Tabs c.T H) (hF : ∀ b o, F b = some o → H b = some o ∧ ∀ ps, o ≠ .tbl ps) : Wf c ⟨F, fun _ => False, fun _ _ _ _ _ => False, fun _ => False⟩ H :=
  ⟨fun b o e => (hF b o e).1, fun _ h => h.elim, fun b ps e => (hF b _ e).2 ps rfl, ts, ⟨fun _ _ _ _ _ h => h.elim, fun q hq => absurd (hc ▸ hq : q ∈ ([] : List Cl)) (by simp), fun q hq => absurd (hc ▸ hq : q ∈ ([] : List Cl)) (by simp), fun q hq => absurd (hc ▸ hq : q ∈ ([] : List Cl)) (by simp)⟩⟩
theorem ints_rep {z : Fz} : ∀ ns : List Int, RepL K mg z (ns.map V.int) (ns.map D.int)
  | [] => .nil
  | n :: ns => .cons (.int n) (ints_rep ns)
theorem wf_script {c : Cn} {H : Hp} {a : Addr} {ns : List Int} (hc : c.cl = []) (ts : LamX.Tabs c.T H) (hS : SqL c.K H a (ns.map V.int)) : ∃ z, Wf c z H ∧ Rep c.K c.mg z (.ref a) (.lst (ns.map D.int)) := by
  have one : ∀ u : HO, H a = some u → (∀ ps, u ≠ .tbl ps) → ∀ b o, (fun b => if b = a then some u else none : Hp) b = some o → H b = some o ∧ ∀ ps, o ≠ .tbl ps := fun u e hu b o h => by
    by_cases hb : b = a
    · have h : (if b = a then some u else none) = some o := h
      rw [if_pos hb] at h
      cases h
      rw [hb]; exact ⟨e, hu⟩
    · have h : (if b = a then some u else none) = some o := h
      rw [if_neg hb] at h; cases h
  have at_ : ∀ u : HO, (fun b => if b = a then some u else none : Hp) a = some u := fun u => if_pos rfl
  rcases hS with (h | ⟨u, h⟩) | h
  · exact ⟨_, wf0 hc ts (one _ h fun _ e => by cases e), .lst (.inl (.inl (at_ _))) (ints_rep ns)⟩
  · exact ⟨_, wf0 hc ts (one _ h fun _ e => by cases e), .lst (.inl (.inr ⟨u, at_ _⟩)) (ints_rep ns)⟩
  · exact ⟨⟨fun _ => none, fun _ => False, fun _ _ _ _ _ => False, fun _ => False⟩, wf0 hc ts (fun b o e => by cases e), .lst (.inr h) (ints_rep ns)⟩
/-- the law of the meaning is the law of the model -/
theorem law_at {l : PySem.W.OpenLaw} {k : Nat} {fa : Addr} (cY : SaysY L w h K) (KX : K.In h) (G : h.Ns mainGlobals mg) (hfa : mg "law" = some (.ref fa)) (hD : L.dfs.all L.chkD = true) (hI : L.inis.all L.chkI = true) (hG : L.gts.all L.chkG = true) (hK : L.chkK = true)
    (hl : (L.find "law").map (fun d => d.fn.ps) = some [("script" : Str)]) (hm : ∀ ns : List Int, ns.length ≤ 63 → (∀ z ∈ ns, Builtin.Int.intBits z ≤ 1048576) → ((L.prg.ora k).call "law" [.lst (ns.map D.int)]).w (fun d => d = .bl true) (fun _ => False)) :
    LamX.LawAtS l w K (L2.CX l.prog w) k 63 "script" mg fa h := by
  have c := cY.1
  obtain ⟨d, hfd, hps⟩ := Option.map_eq_some_iff.mp hl
  obtain ⟨hd, hdn⟩ := find_of hfd
  obtain ⟨fd, F, hb⟩ := fun_of c hd
  have hp : plainA (defArgs d.st) d.fn.ps = true := (ba3 (ba3 (ba3 (List.all_eq_true.mp hD d hd)).2).2).1
  obtain ⟨b1, b2⟩ := hb hp
  have hk0 : kwB (defArgs d.st) d.fn.ps 1 [] [0] = true := by
    unfold kwB
    rw [hp, hps]; decide
  have hgd : L.g.defs.contains "law" = true := by
    have : ("law" : Str) ∈ L.dfs.map (·.name) := List.mem_map.mpr ⟨d, hd, hdn⟩
    simpa [LawC.g, LawC.names] using this
  have hfre : ∀ x, L.g.free.contains x = true → mg x = none := fun x hx => He.free_ok KX G (c.t.d.facts (mem_fa2 (by simpa [LawC.g] using hx)))
  have hglo : ∀ x ∈ L.names, mg x = some (.ref (He.ga K x)) := fun x hx => He.glo_ok KX G (c.t.d.facts (mem_fa1 hx))
  have hglobs : ∀ x d, L.prg.globs x = some d → ∃ u v, mg x = some u ∧ RelV v u ∧ ∀ z, Rep K mg z v d := fun x d e => by
    have e : (match L.gl.lookup x with | some d => some d | none => if L.names.contains x then some (D.fn x) else none) = some d := e
    cases q : L.gl.lookup x with
    | some d' =>
      rw [q] at e
      cases e
      have := List.all_eq_true.mp (ba3 (ba3 c.more).2).1 _ (PySem.mem_of_lookup q)
      have this : (match PySem.W.nsIn K mainGlobals x with | some (some u) => repB K d u | _ => false) = true := this
      split at this
      · rename_i u eu
        obtain ⟨v, r1, r2⟩ := repB_ok (mg := mg) d u this
        exact ⟨u, v, PySem.W.mg_of KX G eu, r1, r2⟩
      · cases this
    | none =>
      rw [q] at e
      by_cases hn : L.names.contains x = true
      · have e : (if L.names.contains x then some (D.fn x) else none) = some d := e
        rw [if_pos hn] at e
        cases e
        have hx := hglo x (by simpa using hn)
        exact ⟨_, .ref _, hx, rfl, fun z => .fn hx⟩
      · have e : (if L.names.contains x then some (D.fn x) else none) = some d := e
        rw [if_neg hn] at e; cases e
  have hpf : ∀ f, (L.prg.fns f).isSome = true → L.g.defs.contains f = true := fun f hf => by
    have hf : ((L.find f).map (·.fn)).isSome = true := hf
    rw [Option.isSome_map] at hf
    obtain ⟨d', e⟩ := Option.isSome_iff_exists.mp hf
    obtain ⟨h1, h2⟩ := find_of e
    have : f ∈ L.dfs.map (·.name) := List.mem_map.mpr ⟨d', h1, h2⟩
    simpa [LawC.g, LawC.names] using this
  have hflds : ∀ cn x, L.g.flds.contains (cn, x) = true → ∃ C, mg cn = some (.ref C) ∧ L2.Cls K C ∧ L2.NoAttr K C x := fun cn x hx => by
    have hx : (cn, x) ∈ L.flds := List.contains_iff_mem.mp hx
    have hC : cn ∈ L.allC := by
      unfold LawC.allC
      simp only [List.mem_append]
      exact .inl (.inr (List.mem_map.mpr ⟨_, hx, rfl⟩))
    exact ⟨_, He.glo_ok KX G (c.t.d.facts (mem_fa3 hC)), He.cls_ok (c.t.d.facts (mem_fa4 hC)), He.noat_ok (c.t.d.facts (mem_fa7 hx))⟩
  have hiscs : ∀ cn, L.g.iscs.contains cn = true → ∃ C, mg cn = some (.ref C) ∧ TyC K C ∧ PySem.W.kitOne K (.ref C) (.ref C) = some true ∧ ∀ n : String, ["NoneType", "bool", "int", "str", "tuple", "list"].contains n = true → PySem.W.kitOne K (.type n) (.ref C) = some false := fun cn hx => by
    have hx : cn ∈ L.iscs := List.contains_iff_mem.mp hx
    have hC : cn ∈ L.allC := by
      unfold LawC.allC
      simp only [List.mem_append]
      exact .inr hx
    have hB := List.all_eq_true.mp (ba3 (ba3 (ba3 c.more).2).2).2 _ hx
    unfold iscB at hB
    obtain ⟨k1, hB⟩ := ba3 hB
    obtain ⟨k2, hB⟩ := ba3 hB
    obtain ⟨k3, hB⟩ := ba3 hB
    obtain ⟨k4, hB⟩ := ba3 hB
    obtain ⟨k5, k6⟩ := ba3 hB
    exact ⟨_, He.glo_ok KX G (c.t.d.facts (mem_fa3 hC)), ⟨He.cls_ok (c.t.d.facts (mem_fa4 hC)), He.eqO_ok k1, He.eqO_ok k2, of_decide_eq_true k3, of_decide_eq_true k4⟩, of_decide_eq_true k5, fun n hn => of_decide_eq_true (List.all_eq_true.mp k6 n (List.contains_iff_mem.mp hn))⟩
  refine ⟨fd, L.tf.map (He.cT K), fun vs H Q E => ∀ b, spM (L.cn K mg b) 1 ((L.prg.ora k).call "law") vs H Q E, fun p hp => ?_, fun p hp => ?_, fun p hp => ?_, fun s u => ?_, fun H a ns hlen hbits hH hS b => ?_, fun base KB NB hT => ?_⟩
  · obtain ⟨p', h1, rfl⟩ := List.mem_map.mp hp; exact c.empty p' h1
  · obtain ⟨p', h1, rfl⟩ := List.mem_map.mp hp; exact c.out p' h1
  · obtain ⟨p', h1, rfl⟩ := List.mem_map.mp hp; exact PySem.W.codeHd_of_K KX (c.hd p' h1)
  · have := b2 1 [] [0] hk0 s [u] [] rfl rfl
    rw [hps] at this
    exact this
  · have ts : LamX.Tabs (L.cn K mg b).T H := fun p hp => by
      obtain ⟨p', h1, rfl⟩ := List.mem_map.mp hp
      exact LamX.TabS.nil (hH _ (List.mem_map.mpr ⟨p', h1, rfl⟩))
    obtain ⟨z, wz, r⟩ := wf_script (c := L.cn K mg b) rfl ts hS
    refine ⟨rfl, z, _, wz, .cons r .nil, (hm ns hlen hbits |> M.mono _ (fun dd e x H' z' w' x' r' => ?_) fun _ hx => hx.elim)⟩
    subst e
    exact r'.bl_inv
  · have O := ora_ok (pr := l.prog) (w := w) (c := L.cn K mg base) (g := L.g) (P := L.prg) ⟨fun f hf => defIs_of c KX G hD hK hT hf, hfre, hglobs, hpf, fun cn hf => iniIs_of c KX G hI hf, fun cn x hf => getIs_of cY KX G hG hf, hflds, hiscs⟩ k [] base (fun _ _ e => e) (fun q hq => by cases hq)
    obtain ⟨a, fd', ps', m1, m2, m3, m4, m5, m6, ⟨oc1, od1, osl1, lk1⟩, _⟩ := O.defs "law" hgd
    have ea : a = fa := by
      have m1 : mg "law" = some (.ref a) := m1
      rw [hfa] at m1; cases m1; rfl
    subst ea
    have epar : (L.prg.ora k).pars "law" = some [("script" : Str)] := by
      cases k with
      | zero => show ((L.find "law").map (·.fn)).map (·.ps) = _; rw [hfd]; show some d.fn.ps = _; rw [hps]
      | succ k => show ((L.find "law").map (·.fn)).map (·.ps) = _; rw [hfd]; show some d.fn.ps = _; rw [hps]
    rw [epar] at m4
    have e5 : ps' = [("script" : Str)] := (Option.some.inj m4).symm
    subst e5
    have hK2 : fd' = fd := by
      obtain ⟨oc2, od2, osl2, lk2⟩ := F.look
      have lk1 : K.lookup a = some ⟨oc1, od1, .func fd', osl1⟩ := lk1
      have hn : mg "law" = some (.ref (He.ga K d.name)) := by rw [← hdn]; exact hglo _ (List.mem_map.mpr ⟨d, hd, rfl⟩)
      rw [hfa] at hn
      cases hn
      rw [lk1] at lk2
      cases lk2; rfl
    subst hK2
    exact m6.imp fun vs H Q E q => q base
theorem cx_none {P : Program} {w : World} {H : Hp} {s s' : Shared} {e : Value} (z : L2.CX P w [] H s (fun _ _ _ => False) e s') : False := by
  obtain ⟨_, _, _, _, _, _, _, _, _, _, _, _, z⟩ := z
  exact z.elim
end
end Ev
set_option Elab.async false
set_option linter.all false
set_option maxRecDepth 100000
set_option maxHeartbeats 4000000
/-! Ev, part Z: the meaning, worked with: no model in sight. -/
namespace Ev
open PySem

theorem call_of {P : Prg} {f : Str} {fn : Fn} (h : P.fns f = some fn) (n : Nat) (ds : List D) : (P.ora (n + 1)).call f ds = runFn (P.ora n) fn ds := by
  show (match P.fns f with | some fn => runFn (P.ora n) fn ds | none => stuck) = _
  rw [h]
theorem glob_of {P : Prg} {x : Str} {d : D} (h : P.globs x = some d) : ∀ n, (P.ora n).glob x = some d
  | 0 => h
  | _ + 1 => h
theorem make_of {P : Prg} {cn : Str} {I : Init} (h : P.inits cn = some I) (n : Nat) (ds : List D) : (P.ora (n + 2)).make cn ds = M.noc (runInit (P.ora n) cn I ds) := by
  show (match P.inits cn with | some I => M.noc (runInit (P.ora n) cn I ds) | none => stuck) = _
  rw [h]
theorem prop_of {P : Prg} {c x : Str} {fn : Fn} (h : P.gets c x = some fn) (n : Nat) (d : D) : (P.ora (n + 2)).prop c x d = runFn (P.ora n) fn [d] := by
  show (match P.gets c x with | some fn => runFn (P.ora n) fn [d] | none => stuck) = _
  rw [h]
theorem wf_of {P : Prg} : ∀ n, (P.ora n).wf = P.wf
  | 0 => rfl
  | _ + 1 => rfl
theorem clo_of {P : Prg} (n m m2 : Nat) (b : E) (env ds : List D) : (P.ora (n + 1)).clo m m2 b env ds = runLam (P.ora n) m m2 b env ds := rfl
namespace M
variable {α β : Type}
theorem w_imp {m : M α} {Q Q' : α → Prop} {R R' : Xn → Prop} (h : m.w Q R) (hq : ∀ a, Q a → Q' a) (hr : ∀ x, R x → R' x) : m.w Q' R' := m.mono hq hr h
/-- two lists, place by place -/
inductive All2 (P : α → β → Prop) : List α → List β → Prop
  | nil : All2 P [] []
  | cons {a b l m} : P a b → All2 P l m → All2 P (a :: l) (b :: m)
theorem mapM_w {f : α → M β} {P : α → β → Prop} {R : Xn → Prop} : ∀ {l : List α} {Q : List β → Prop}, (∀ a ∈ l, (f a).w (P a) R) → (∀ bs, All2 P l bs → Q bs) → (mapM f l).w Q R
  | [], Q, _, hq => hq [] .nil
  | a :: l, Q, h, hq => by
    show (f a).w (fun b => (mapM f l).w (fun bs => Q (b :: bs)) R) R
    refine w_imp (h a List.mem_cons_self) (fun b pb => ?_) fun _ r => r
    exact mapM_w (fun c hc => h c (List.mem_cons_of_mem _ hc)) fun bs hb => hq (b :: bs) (.cons pb hb)
theorem All2.length {P : α → β → Prop} : ∀ {l : List α} {m : List β}, All2 P l m → l.length = m.length
  | _, _, .nil => rfl
  | _, _, .cons _ t => by rw [List.length_cons, List.length_cons, t.length]
/-- .. each told by a function -/
theorem All2.map {P : α → β → Prop} {γ : Type} {g : γ → β} {Q : γ → Prop} (h : ∀ a b, P a b → ∃ c, b = g c ∧ Q c) : ∀ {l : List α} {m : List β}, All2 P l m → ∃ cs : List γ, m = cs.map g ∧ cs.length = l.length ∧ ∀ c ∈ cs, Q c
  | _, _, .nil => ⟨[], rfl, rfl, fun _ h => by cases h⟩
  | _, _, .cons p t => by
    obtain ⟨c, rfl, q⟩ := h _ _ p
    obtain ⟨cs, rfl, e, qs⟩ := All2.map h t
    refine ⟨c :: cs, rfl, by rw [List.length_cons, List.length_cons, e], fun d hd => ?_⟩
    rcases List.mem_cons.mp hd with rfl | hd
    · exact q
    · exact qs d hd
end M
/-! ### comprehensions -/
theorem lcM_eq {t : Tg} {v : Vw} {mc : Vw → M Bool} {me : Vw → M D} {ds : List D} (G : D → Option D) (hl : ds.length ≤ sizeLine) (h : ∀ d ∈ ds, lcStep t v mc me d = ret (G d)) : lcM t v (ret ds) mc me = ret (ds.filterMap G) := by
  unfold lcM
  rw [M.ret_bind, M.must_true hl, M.mapM_ret _ G h, M.ret_bind, M.nox_ret, List.filterMap_map]; rfl
theorem lcM_w {t : Tg} {v : Vw} {mc : Vw → M Bool} {me : Vw → M D} {ds : List D} {P : D → Option D → Prop} {Q : List D → Prop} {R : Xn → Prop} (hl : ds.length ≤ sizeLine) (h : ∀ d ∈ ds, (lcStep t v mc me d).w (P d) fun _ => False)
    (hq : ∀ os, M.All2 P ds os → Q (os.filterMap id)) : (lcM t v (ret ds) mc me).w Q R := by
  unfold lcM
  rw [M.ret_bind, M.must_true hl]
  show (M.mapM _ ds).w (fun os => Q (os.filterMap id)) fun _ => False
  exact M.mapM_w h hq
theorem rng1 {j : Int} (h : -(2 ^ 62) ≤ j ∧ j < 2 ^ 62) : rngD [.int j] = ret ((List.range j.toNat).map fun (k : Nat) => D.int (k : Int)) := by
  show M.must _ _ = _
  rw [M.must_true h]; simp
theorem rng2 {i j : Int} (h : -(2 ^ 62) ≤ i ∧ i < 2 ^ 62 ∧ -(2 ^ 62) ≤ j ∧ j < 2 ^ 62) : rngD [.int i, .int j] = ret ((List.range (j - i).toNat).map fun (k : Nat) => D.int (i + (k : Int))) := by
  show M.must _ _ = _
  rw [M.must_true h]
/-! ### walks -/
/-- a for loop that keeps I (by the items ahead, the slots) and never ends early -/
theorem forL_inv {t : Tg} {body : En → M Fl} {R : Xn → Prop} (I : List D → En → Prop) : ∀ (ds pre : List D) (ρ : En) (Q : Fl → Prop), I pre ρ →
    (∀ d pre ρ, d ∈ ds → I pre ρ → ∃ ρ1, bindS t d ρ = some ρ1 ∧ (body ρ1).w (fun f => match f with | .nx ρ2 => I (pre ++ [d]) ρ2 | .ct ρ2 => I (pre ++ [d]) ρ2 | .bk ρ2 => Q (.nx ρ2) | .rt d => Q (.rt d)) R) →
    (∀ ρ, I (pre ++ ds) ρ → Q (.nx ρ)) → (forL t body ds ρ).w Q R
  | [], pre, ρ, Q, h0, _, hq => hq ρ (by rw [List.append_nil]; exact h0)
  | d :: ds, pre, ρ, Q, h0, hs, hq => by
    obtain ⟨ρ1, e, h⟩ := hs d pre ρ List.mem_cons_self h0
    show (M.bind (M.ofO (bindS t d ρ)) _).w Q R
    rw [e, M.ofO_some, M.ret_bind]
    show (body ρ1).w (fun f => (match f with
      | .nx ρ => forL t body ds ρ
      | .ct ρ => forL t body ds ρ
      | .bk ρ => ret (.nx ρ)
      | .rt d => ret (.rt d) : M Fl).w Q R) R
    refine M.w_imp h (fun f hf => ?_) fun _ r => r
    have hq' : ∀ ρ, I ((pre ++ [d]) ++ ds) ρ → Q (.nx ρ) := fun ρ h => hq ρ (by rw [List.append_assoc] at h; exact h)
    cases f with
    | nx ρ2 => exact forL_inv I ds (pre ++ [d]) ρ2 Q hf (fun d' p ρ hd => hs d' p ρ (List.mem_cons_of_mem _ hd)) hq'
    | ct ρ2 => exact forL_inv I ds (pre ++ [d]) ρ2 Q hf (fun d' p ρ hd => hs d' p ρ (List.mem_cons_of_mem _ hd)) hq'
    | bk ρ2 => exact hf
    | rt x => exact hf
/-- a for loop whose turns are told by a function -/
theorem forL_fold {t : Tg} {body : En → M Fl} {α : Type} (st : α → En) (f : α → D → α) : ∀ (ds : List D) (a : α), (∀ d ∈ ds, ∀ a, ∃ ρ1, bindS t d (st a) = some ρ1 ∧ body ρ1 = ret (.nx (st (f a d)))) → forL t body ds (st a) = ret (.nx (st (ds.foldl f a)))
  | [], a, _ => rfl
  | d :: ds, a, h => by
    obtain ⟨ρ1, e, hb⟩ := h d List.mem_cons_self a
    show M.bind (M.ofO (bindS t d (st a))) _ = _
    rw [e, M.ofO_some, M.ret_bind, hb, M.ret_bind]
    exact forL_fold st f ds (f a d) fun d' hd => h d' (List.mem_cons_of_mem _ hd)
end Ev
set_option Elab.async false
set_option linter.all false
set_option maxRecDepth 100000
set_option maxHeartbeats 4000000
namespace Ev
open PySem
def nums (xs : List Int) : List D := xs.map D.int
@[simp] theorem nums_nil : nums [] = [] := rfl
@[simp] theorem nums_cons (x : Int) (xs : List Int) : nums (x :: xs) = D.int x :: nums xs := rfl
@[simp] theorem nums_length (xs : List Int) : (nums xs).length = xs.length := by simp [nums]
theorem nums_app (xs ys : List Int) : nums (xs ++ ys) = nums xs ++ nums ys := by simp [nums]
theorem asInts_nums : ∀ xs : List Int, D.asInts (nums xs) = some xs
  | [] => rfl
  | x :: xs => by
    show (D.asInts (nums xs)).map (x :: ·) = _
    rw [asInts_nums xs]; rfl
theorem asBls_map : ∀ xs : List Bool, D.asBls (xs.map D.bl) = some xs
  | [] => rfl
  | x :: xs => by
    show (D.asBls (xs.map D.bl)).map (x :: ·) = _
    rw [asBls_map xs]; rfl
theorem depL_nums : ∀ xs : List Int, D.depL (nums xs) = some 0
  | [] => rfl
  | x :: xs => by
    show (match D.dep (.int x), D.depL (nums xs) with | some a, some b => some (max a b) | _, _ => none) = _
    rw [depL_nums xs]; rfl
theorem dep_tints (xs : List Int) : D.dep (.tup (nums xs)) = some 1 := by
  show (D.depL (nums xs)).map (· + 1) = _
  rw [depL_nums]; rfl
theorem dep_lints (xs : List Int) : D.dep (.lst (nums xs)) = some 1 := by
  show (D.depL (nums xs)).map (· + 1) = _
  rw [depL_nums]; rfl
theorem eqL_nums : ∀ xs ys : List Int, D.eqL (nums xs) (nums ys) = decide (xs = ys)
  | [], [] => rfl
  | [], _ :: _ => rfl
  | _ :: _, [] => rfl
  | x :: xs, y :: ys => by
    show ((x == y) && D.eqL (nums xs) (nums ys)) = _
    rw [eqL_nums xs ys]
    by_cases h : x = y <;> by_cases h2 : xs = ys <;> simp [h, h2]
theorem isIn_nums (x : Int) (xs : List Int) : D.isIn (.int x) (nums xs) = decide (x ∈ xs) := by
  induction xs with
  | nil => rfl
  | cons y ys ih =>
    show ((y == x) || D.isIn (.int x) (nums ys)) = _
    rw [ih]
    by_cases h : y = x
    · subst h; simp
    · have h' : ¬ x = y := fun e => h e.symm
      simp [h, h', beq_eq_false_iff_ne.mpr h]
theorem eqOk_int (a b : Int) : D.eqOk (.int a) (.int b) := ⟨0, 0, rfl, rfl, by decide⟩
theorem eqOk_non (a : Int) : D.eqOk (.int a) .non := ⟨0, 0, rfl, rfl, by decide⟩
theorem eqOk_bl (a b : Bool) : D.eqOk (.bl a) (.bl b) := ⟨0, 0, rfl, rfl, by decide⟩
theorem eqOk_0 {a b : D} {j : Nat} (h : a.dep = some 0) (h2 : b.dep = some j) : D.eqOk a b := ⟨0, j, h, h2, by omega⟩
theorem eqOk_tints (x : Int) (xs : List Int) : D.eqOk (.int x) (.tup (nums xs)) := eqOk_0 rfl (dep_tints xs)
theorem eqOk_lints (x : Int) (xs : List Int) : D.eqOk (.int x) (.lst (nums xs)) := eqOk_0 rfl (dep_lints xs)
theorem eqOk_ll (xs ys : List Int) : D.eqOk (.lst (nums xs)) (.lst (nums ys)) := ⟨1, 1, dep_lints xs, dep_lints ys, by decide⟩
theorem eqOk_tt (xs ys : List Int) : D.eqOk (.tup (nums xs)) (.tup (nums ys)) := ⟨1, 1, dep_tints xs, dep_tints ys, by decide⟩
theorem cut_take (xs : List D) (i : Nat) (h : i ≤ xs.length) : D.cut xs none (some (i : Int)) = xs.take i := by
  unfold D.cut
  rw [HT.sIx_none, HT.sIx_nat]
  simp [Nat.min_eq_left h]
theorem atI_nat {α : Type} (xs : List α) (i : Nat) : L2.atI xs (i : Int) = xs[i]? := by
  unfold L2.atI L2.ixN
  rw [if_pos (by omega)]
  by_cases h : i < xs.length
  · rw [if_pos (by omega)]; simp
  · rw [if_neg (by omega), List.getElem?_eq_none (by omega)]; rfl
theorem atI_last {α : Type} (xs : List α) : L2.atI xs (-1) = xs.getLast? := by
  unfold L2.atI L2.ixN
  rw [if_neg (by omega), List.getLast?_eq_getElem?]
  by_cases h : xs = []
  · subst h; rfl
  · have : 0 < xs.length := List.length_pos_iff.mpr h
    rw [if_pos (by omega)]
    show xs[((-1 : Int) + xs.length).toNat]? = _
    congr 1
    omega
theorem cmp_eq_int (a b : Int) : cmpD .eq (.int a) (.int b) = ret (.bl (a == b)) := by
  show M.must _ _ = _
  rw [M.must_true (eqOk_int a b)]; rfl
theorem cmp_ne_int (a b : Int) : cmpD .ne (.int a) (.int b) = ret (.bl (a != b)) := by
  show M.must _ _ = _
  rw [M.must_true (eqOk_int a b)]; rfl
theorem cmp_lt_int (a b : Int) : cmpD .lt (.int a) (.int b) = ret (.bl (decide (a < b))) := rfl
theorem cmp_gt_int (a b : Int) : cmpD .gt (.int a) (.int b) = ret (.bl (decide (b < a))) := rfl
theorem cmp_le_int (a b : Int) : cmpD .le (.int a) (.int b) = ret (.bl (decide (a ≤ b))) := by
  show ret (D.bl (!decide (b < a))) = _
  congr 2
  by_cases h : a ≤ b
  · rw [decide_eq_true h, decide_eq_false (by omega)]; rfl
  · rw [decide_eq_false h, decide_eq_true (by omega)]; rfl
theorem cmp_ge_int (a b : Int) : cmpD .ge (.int a) (.int b) = ret (.bl (decide (b ≤ a))) := by
  show ret (D.bl (!decide (a < b))) = _
  congr 2
  by_cases h : b ≤ a
  · rw [decide_eq_true h, decide_eq_false (by omega)]; rfl
  · rw [decide_eq_false h, decide_eq_true (by omega)]; rfl
theorem bop_add_int (a b : Int) : bopD .add (.int a) (.int b) = ret (.int (a + b)) := rfl
theorem bop_sub_int (a b : Int) : bopD .sub (.int a) (.int b) = ret (.int (a - b)) := rfl
theorem bop_mul_int {a b : Int} (h : a.natAbs < 2 ^ 64 ∨ b.natAbs < 2 ^ 64) : bopD .mul (.int a) (.int b) = ret (.int (a * b)) := by
  show M.must _ _ = _
  rw [M.must_true (by rcases h with h | h; exact .inl h; exact .inr (.inl h))]
theorem bop_mod_int {a b : Int} (h : 0 < b) : bopD .mod (.int a) (.int b) = ret (.int (a % b)) := by
  show M.must _ _ = _
  rw [M.must_true h]
theorem bop_fdiv_int {a b : Int} (h : 0 < b ∧ b.natAbs.log2 < 8000) : bopD .fdiv (.int a) (.int b) = ret (.int (a / b)) := by
  show M.must _ _ = _
  rw [M.must_true h]
/-- a while loop that keeps I and counts down -/
theorem whileL_inv {c : En → M Bool} {body : En → M Fl} {R : Xn → Prop} (I : Nat → En → Prop) {Q : Fl → Prop} : ∀ (n fuel : Nat) (ρ : En), n < fuel → I n ρ →
    (∀ n ρ, I (n + 1) ρ → c ρ = ret true ∧ (body ρ).w (fun f => match f with | .nx ρ2 => I n ρ2 | .ct ρ2 => I n ρ2 | .bk ρ2 => Q (.nx ρ2) | .rt d => Q (.rt d)) R) →
    (∀ ρ, I 0 ρ → c ρ = ret false ∧ Q (.nx ρ)) → (whileL c body fuel ρ).w Q R
  | n, 0, _, h, _, _, _ => absurd h (Nat.not_lt_zero n)
  | 0, fuel + 1, ρ, _, h0, hs, hq => by
    obtain ⟨e, q⟩ := hq ρ h0
    show (M.bind (c ρ) _).w Q R
    rw [e, M.ret_bind]; exact q
  | n + 1, fuel + 1, ρ, hl, h0, hs, hq => by
    obtain ⟨e, h⟩ := hs n ρ h0
    show (M.bind (c ρ) _).w Q R
    rw [e, M.ret_bind]
    show (body ρ).w (fun f => (match f with
      | .nx ρ => whileL c body fuel ρ
      | .ct ρ => whileL c body fuel ρ
      | .bk ρ => ret (.nx ρ)
      | .rt d => ret (.rt d) : M Fl).w Q R) R
    refine M.w_imp h (fun f hf => ?_) fun _ r => r
    cases f with
    | nx ρ2 => exact whileL_inv I n fuel ρ2 (by omega) hf hs hq
    | ct ρ2 => exact whileL_inv I n fuel ρ2 (by omega) hf hs hq
    | bk ρ2 => exact hf
    | rt x => exact hf
def itr {α : Type} (f : α → α) : Nat → α → α
  | 0, a => a
  | n + 1, a => itr f n (f a)
theorem whileL_fold {c : En → M Bool} {body : En → M Fl} {α : Type} (st : α → En) (f : α → α) : ∀ (n fuel : Nat) (a : α), n < fuel → (∀ i, i < n → c (st (itr f i a)) = ret true ∧ body (st (itr f i a)) = ret (.nx (st (itr f (i + 1) a)))) → c (st (itr f n a)) = ret false →
    whileL c body fuel (st a) = ret (.nx (st (itr f n a)))
  | n, 0, _, h, _, _ => absurd h (Nat.not_lt_zero n)
  | 0, fuel + 1, a, _, _, hq => by
    show M.bind (c (st a)) _ = _
    rw [show c (st a) = ret false from hq, M.ret_bind]; rfl
  | n + 1, fuel + 1, a, hl, hs, hq => by
    obtain ⟨h1, h2⟩ := hs 0 (by omega)
    show M.bind (c (st a)) _ = _
    rw [show c (st a) = ret true from h1, M.ret_bind]
    show M.bind (body (st a)) _ = _
    rw [show body (st a) = ret (.nx (st (f a))) from h2, M.ret_bind]
    exact whileL_fold st f n fuel (f a) (by omega) (fun i hi => hs (i + 1) (by omega)) hq
end Ev
namespace Ev
open PySem
theorem forL_st {t : Tg} {body : En → M Fl} {α : Type} (st : α → En) (f : α → D → α) {ds : List D} {ρ : En} (a : α) (h0 : ρ = st a) (h : ∀ d ∈ ds, ∀ a, ∃ ρ1, bindS t d (st a) = some ρ1 ∧ body ρ1 = ret (.nx (st (f a d)))) : forL t body ds ρ = ret (.nx (st (ds.foldl f a))) := by
  subst h0
  exact forL_fold st f ds a h
theorem enumD_tup (xs : List D) : enumD [.tup xs] = ret (xs.zipIdx.map fun p => D.tup [.int p.2, p.1]) := rfl
theorem mem_enum {xs : List D} {d : D} (h : d ∈ xs.zipIdx.map fun p => D.tup [.int p.2, p.1]) : ∃ (i : Nat) (x : D), xs[i]? = some x ∧ i < xs.length ∧ d = .tup [.int i, x] := by
  obtain ⟨⟨x, i⟩, h1, rfl⟩ := List.mem_map.mp h
  have h2 := List.mem_zipIdx_iff_getElem?.mp h1
  exact ⟨i, x, h2, (List.getElem?_eq_some_iff.mp h2).1, rfl⟩
theorem cmp_eq_non (i : Int) : cmpD .eq (.int i) .non = ret (.bl false) := by
  show M.must _ _ = _
  rw [M.must_true (eqOk_non i)]; rfl
theorem must_le (n : Nat) (h : n ≤ 16777216) {α : Type} (m : M α) : M.must (n ≤ sizeLine) m = m := M.must_true (by show n ≤ 2 ^ 24; omega) m
end Ev
namespace Ev
open PySem
@[simp] theorem must_T {α : Type} (m : M α) : M.must True m = m := M.must_true trivial m
def lastSl (s : Sl) (xs : List Int) : Sl := xs.foldl (fun _ x => .val (.int x)) s
theorem forL_nums {t : Tg} {body : En → M Fl} {α : Type} (st : α → Sl → En) (f : α → Int → α) (P : α → Prop) : ∀ {xs : List Int} {ρ : En} (a : α) (s : Sl), ρ = st a s → P a → (∀ x ∈ xs, ∀ a s, P a → P (f a x) ∧ ∃ ρ1, bindS t (.int x) (st a s) = some ρ1 ∧ body ρ1 = ret (.nx (st (f a x) (.val (.int x))))) →
    forL t body (nums xs) ρ = ret (.nx (st (xs.foldl f a) (lastSl s xs)))
  | [], _, a, s, h0, _, _ => by rw [h0]; rfl
  | x :: xs, _, a, s, h0, hP, h => by
    subst h0
    obtain ⟨hP', ρ1, e, hb⟩ := h x List.mem_cons_self a s hP
    show M.bind (M.ofO (bindS t (.int x) (st a s))) _ = _
    rw [e, M.ofO_some, M.ret_bind, hb, M.ret_bind]
    exact forL_nums st f P (f a x) (.val (.int x)) rfl hP' fun y hy => h y (List.mem_cons_of_mem _ hy)
def iota (a : Int) (n : Nat) : List Int := (List.range n).map fun (k : Nat) => a + (k : Int)
@[simp] theorem iota_length (a : Int) (n : Nat) : (iota a n).length = n := by simp [iota]
theorem mem_iota {a x : Int} {n : Nat} : x ∈ iota a n ↔ a ≤ x ∧ x < a + n := by
  unfold iota
  constructor
  · intro h
    obtain ⟨k, hk, rfl⟩ := List.mem_map.mp h
    have := List.mem_range.mp hk
    omega
  · intro ⟨h1, h2⟩
    exact List.mem_map.mpr ⟨(x - a).toNat, List.mem_range.mpr (by omega), by omega⟩
theorem rngD1 {j : Int} (h : -(2 ^ 62) ≤ j ∧ j < 2 ^ 62) : rngD [.int j] = ret (nums (iota 0 j.toNat)) := by
  show M.must _ _ = _
  rw [M.must_true h]; simp [nums, iota, Function.comp_def]
theorem rngD2 {i j : Int} (h : -(2 ^ 62) ≤ i ∧ i < 2 ^ 62 ∧ -(2 ^ 62) ≤ j ∧ j < 2 ^ 62) : rngD [.int i, .int j] = ret (nums (iota i (j - i).toNat)) := by
  show M.must _ _ = _
  rw [M.must_true h]; simp [nums, iota, Function.comp_def]
theorem lcM_nums {t : Tg} {v : Vw} {mc : Vw → M Bool} {me : Vw → M D} {xs : List Int} (g : Int → D) (hl : xs.length ≤ 2 ^ 24) (h : ∀ x ∈ xs, lcStep t v mc me (.int x) = ret (some (g x))) : lcM t v (ret (nums xs)) mc me = ret (xs.map g) := by
  rw [lcM_eq (fun d => match d with | .int x => some (g x) | _ => none) (by rw [nums_length]; exact hl) fun d hd => by
    obtain ⟨x, hx, rfl⟩ := List.mem_map.mp hd
    exact h x hx]
  congr 1
  unfold nums
  rw [List.filterMap_map]
  exact List.filterMap_eq_map (f := g) ▸ rfl
theorem lcM_fil {t : Tg} {v : Vw} {mc : Vw → M Bool} {me : Vw → M D} {xs : List Int} (q : Int → Bool) (hl : xs.length ≤ 2 ^ 24) (h : ∀ x ∈ xs, lcStep t v mc me (.int x) = ret (if q x then some (.int x) else none)) : lcM t v (ret (nums xs)) mc me = ret (nums (xs.filter q)) := by
  rw [lcM_eq (fun d => match d with | .int x => if q x then some (.int x) else none | _ => none) (by rw [nums_length]; exact hl) fun d hd => by
    obtain ⟨x, hx, rfl⟩ := List.mem_map.mp hd
    exact h x hx]
  congr 1
  unfold nums
  rw [List.filterMap_map]
  induction xs with
  | nil => rfl
  | cons x xs ih =>
    have ih := ih (by simp at hl; omega) fun y hy => h y (List.mem_cons_of_mem _ hy)
    rw [List.filterMap_cons, List.filter_cons]
    simp only [Function.comp]
    cases q x with
    | true => simp only [if_true, List.map_cons]; exact congrArg (D.int x :: ·) ih
    | false => simp only [Bool.false_eq_true, if_false]; exact ih
theorem asInts_map {α : Type} (q : α → Int) : ∀ xs : List α, D.asInts (xs.map fun x => D.int (q x)) = some (xs.map q)
  | [] => rfl
  | x :: xs => by
    show (D.asInts (xs.map fun x => D.int (q x))).map (q x :: ·) = _
    rw [asInts_map q xs]; rfl
theorem asBls_map' {α : Type} (q : α → Bool) : ∀ xs : List α, D.asBls (xs.map fun x => D.bl (q x)) = some (xs.map q)
  | [] => rfl
  | x :: xs => by
    show (D.asBls (xs.map fun x => D.bl (q x))).map (q x :: ·) = _
    rw [asBls_map' q xs]; rfl
end Ev
namespace Ev
open PySem
theorem whileL_st {c : En → M Bool} {body : En → M Fl} {α : Type} (st : α → En) (f : α → α) (n fuel : Nat) (a : α) {ρ : En} (h0 : ρ = st a) (hl : n < fuel) (h : ∀ i, i < n → c (st (itr f i a)) = ret true ∧ body (st (itr f i a)) = ret (.nx (st (itr f (i + 1) a)))) (h2 : c (st (itr f n a)) = ret false) :
    whileL c body fuel ρ = ret (.nx (st (itr f n a))) := by
  subst h0
  exact whileL_fold st f n fuel a hl h h2
end Ev
namespace Ev
open PySem
theorem lcM_map {α : Type} {t : Tg} {v : Vw} {mc : Vw → M Bool} {me : Vw → M D} {l : List α} (h : α → D) (g : α → D) (hl : l.length ≤ 2 ^ 24) (hs : ∀ x ∈ l, lcStep t v mc me (h x) = ret (some (g x))) : lcM t v (ret (l.map h)) mc me = ret (l.map g) := by
  unfold lcM
  rw [M.ret_bind, M.must_true (by rw [List.length_map]; exact hl)]
  have : ∀ l : List α, (∀ x ∈ l, lcStep t v mc me (h x) = ret (some (g x))) → M.mapM (lcStep t v mc me) (l.map h) = ret (l.map fun x => some (g x)) := by
    intro l
    induction l with
    | nil => intro _; rfl
    | cons x l ih =>
      intro hs
      rw [List.map_cons, M.mapM_cons, hs x List.mem_cons_self, M.ret_bind, ih fun y hy => hs y (List.mem_cons_of_mem _ hy)]; rfl
  rw [this l hs, M.ret_bind, M.nox_ret, List.filterMap_map]
  congr 1
  exact List.filterMap_eq_map (f := g) ▸ rfl
theorem zip_nums (xs ys : List Int) : zipD [.tup (nums xs), .tup (nums ys)] = ret ((xs.zip ys).map fun q => D.tup [.int q.1, .int q.2]) := by
  show ret (List.zipWith _ (nums xs) (nums ys)) = _
  congr 1
  unfold nums
  rw [List.zipWith_map, List.zip, List.map_zipWith]
end Ev
/-! ### equations, by what stands there -/
namespace Ev
open PySem
section
variable (i j : Int) (b : Bool) (x y : Str) (xs ys : List D) (d : D) (k m : Nat) (v : Vw) (ρ : En) (s : Sl)
theorem q_len1 : bltD .len [.tup xs] = ret (.int xs.length) := rfl
theorem q_len2 : bltD .len [.lst xs] = ret (.int xs.length) := rfl
theorem q_abs : bltD .abs [.int i] = ret (.int i.natAbs) := rfl
theorem q_max : bltD .max2 [.int i, .int j] = ret (.int (max i j)) := rfl
theorem q_min : bltD .min2 [.int i, .int j] = ret (.int (min i j)) := rfl
theorem q_int : bltD .int [.int i] = ret (.int i) := rfl
theorem q_bool : bltD .bool [.bl b] = ret (.bl b) := rfl
theorem q_tuple1 : bltD .tuple [.tup xs] = ret (.tup xs) := rfl
theorem q_tuple2 : bltD .tuple [.lst xs] = ret (.tup xs) := rfl
theorem q_list1 : bltD .list [.tup xs] = ret (.lst xs) := rfl
theorem q_list2 : bltD .list [.lst xs] = ret (.lst xs) := rfl
theorem q_all : bltD .all [.lst xs] = M.bind (M.ofO (D.asBls xs)) fun bs => ret (.bl (bs.all id)) := rfl
theorem q_any : bltD .any [.lst xs] = M.bind (M.ofO (D.asBls xs)) fun bs => ret (.bl (bs.any id)) := rfl
theorem q_sum : bltD .sum [.lst xs] = M.bind (M.ofO (D.asInts xs)) fun ns => ret (.int ns.sum) := rfl
theorem q_divmod {i j : Int} (h : 0 < j ∧ j < 1073741824) : bltD .divmod [.int i, .int j] = ret (.tup [.int (i / j), .int (i % j)]) := by
  show M.must _ _ = _
  rw [M.must_true h]
theorem q_isi (n : String) : bltD .isinst [.int i, .ty n] = M.bind (M.ofO (D.tyIn "int" n)) fun b => ret (.bl b) := rfl
theorem q_isb (n : String) : bltD .isinst [.bl b, .ty n] = M.bind (M.ofO (D.tyIn "bool" n)) fun b => ret (.bl b) := rfl
theorem q_iss (n : String) : bltD .isinst [.str x, .ty n] = M.bind (M.ofO (D.tyIn "str" n)) fun b => ret (.bl b) := rfl
theorem q_ist (n : String) : bltD .isinst [.tup xs, .ty n] = M.bind (M.ofO (D.tyIn "tuple" n)) fun b => ret (.bl b) := rfl
theorem q_isl (n : String) : bltD .isinst [.lst xs, .ty n] = M.bind (M.ofO (D.tyIn "list" n)) fun b => ret (.bl b) := rfl
theorem q_isn (n : String) : bltD .isinst [.non, .ty n] = M.bind (M.ofO (D.tyIn "NoneType" n)) fun b => ret (.bl b) := rfl
theorem q_tyIn (t : String) : D.tyIn t "int" = some (t == "int" || t == "bool") ∧ D.tyIn t "bool" = some (t == "bool") ∧ D.tyIn t "str" = some (t == "str") ∧ D.tyIn t "tuple" = some (t == "tuple") ∧ D.tyIn t "list" = some (t == "list") ∧ D.tyIn t "dict" = some (t == "dict") := by
  refine ⟨rfl, ?_, ?_, ?_, ?_, ?_⟩ <;> simp [D.tyIn]
theorem q_ti (t : String) : D.tyIn t "int" = some (t == "int" || t == "bool") := (q_tyIn t).1
theorem q_tb (t : String) : D.tyIn t "bool" = some (t == "bool") := (q_tyIn t).2.1
theorem q_ts (t : String) : D.tyIn t "str" = some (t == "str") := (q_tyIn t).2.2.1
theorem q_tt (t : String) : D.tyIn t "tuple" = some (t == "tuple") := (q_tyIn t).2.2.2.1
theorem q_tl (t : String) : D.tyIn t "list" = some (t == "list") := (q_tyIn t).2.2.2.2.1
theorem q_td (t : String) : D.tyIn t "dict" = some (t == "dict") := (q_tyIn t).2.2.2.2.2
theorem t_non : D.truth .non = ret false := rfl
theorem t_bl : D.truth (.bl b) = ret b := rfl
theorem t_int : D.truth (.int i) = ret (i != 0) := rfl
theorem t_tup : D.truth (.tup xs) = ret (!xs.isEmpty) := rfl
theorem t_lst : D.truth (.lst xs) = ret (!xs.isEmpty) := rfl
theorem f_non : D.flat .non = true := rfl
theorem f_bl : D.flat (.bl b) = true := rfl
theorem f_int : D.flat (.int i) = true := rfl
theorem f_str : D.flat (.str x) = true := rfl
theorem f_tup : D.flat (.tup xs) = false := rfl
theorem f_lst : D.flat (.lst xs) = false := rfl
theorem f_hnd : D.flat .hnd = true := rfl
theorem f_clo (e : E) : D.flat (.clo k k2 e xs) = false := rfl
theorem f_obj (fs : List (Str × D)) : D.flat (.obj x fs) = false := rfl
theorem i_tup : D.iter (.tup xs) = ret xs := rfl
theorem i_lst : D.iter (.lst xs) = ret xs := rfl
theorem x_tup : idxD (.tup xs) (.int i) = M.ofO (L2.atI xs i) := rfl
theorem x_lst : idxD (.lst xs) (.int i) = M.ofO (L2.atI xs i) := rfl
theorem x_hnd {i : Int} (h : 0 ≤ i ∧ i < 3) : idxD .hnd (.int i) = M.any fun d => ∃ n, d = D.int n := by
  show M.must _ _ = _
  rw [M.must_true h]
theorem s_tup (lo hi : Option Int) : slD (.tup xs) lo hi = ret (.tup (D.cut xs lo hi)) := rfl
theorem s_lst (lo hi : Option Int) : slD (.lst xs) lo hi = ret (.lst (D.cut xs lo hi)) := rfl
theorem n_int : negD (.int i) = ret (.int (-i)) := rfl
theorem c_non : Ct.d .non = .non := rfl
theorem c_bl : Ct.d (.bl b) = .bl b := rfl
theorem c_int : Ct.d (.int i) = .int i := rfl
theorem c_str : Ct.d (.str x) = .str x := rfl
theorem v_clo (o : Ora) (ml : M (List D)) (n m : Nat) (e : E) : callvM o ml (.clo n m e xs) = M.bind ml fun ys => o.clo n m e xs ys := rfl
theorem is_non : isD d .non = ret d.isNon := by cases d <;> rfl
theorem is_bl (c : Bool) : isD (.bl b) (.bl c) = ret (decide (b = c)) := rfl
theorem nn_non : D.isNon .non = true := rfl
theorem nn_int : D.isNon (.int i) = false := rfl
theorem nn_bl : D.isNon (.bl b) = false := rfl
theorem nn_tup : D.isNon (.tup xs) = false := rfl
theorem nn_lst : D.isNon (.lst xs) = false := rfl
theorem nn_str : D.isNon (.str x) = false := rfl
theorem cmp_is (a b : D) : cmpD .is a b = M.bind (isD a b) fun k => ret (.bl k) := rfl
theorem cmp_isn (a b : D) : cmpD .isn a b = M.bind (isD a b) fun k => ret (.bl (!k)) := rfl
theorem cmp_inn (a b : D) : cmpD .inn a b = M.bind (inD a b) fun k => ret (.bl k) := rfl
theorem cmp_nin (a b : D) : cmpD .nin a b = M.bind (inD a b) fun k => ret (.bl (!k)) := rfl
theorem cmp_eq_of {a b : D} (h : D.eqOk a b) : cmpD .eq a b = ret (.bl (D.eq a b)) := M.must_true h _
theorem cmp_ne_of {a b : D} (h : D.eqOk a b) : cmpD .ne a b = ret (.bl (!D.eq a b)) := M.must_true h _
theorem b_nm : bindS (.nm k) d ρ = some (setE ρ k (.val d)) := rfl
theorem b_tp (l : List Tg) : bindS (.tp l) (.tup xs) ρ = bindSL l xs ρ := rfl
theorem b_hs : bindS (.hs k m) (.int i) ρ = if (isHnd ρ k && decide (m < 3)) = true then some ρ else none := by
  show (if (isHnd ρ k && (decide (m < 3) && true)) = true then some ρ else none) = _
  rw [Bool.and_true]
theorem b_nil : bindSL [] [] ρ = some ρ := rfl
theorem b_cons (t : Tg) (r : List Tg) : bindSL (t :: r) (d :: xs) ρ = (bindS t d ρ).bind fun ρ => bindSL r xs ρ := rfl
theorem bt_nm : bindT (.nm k) d v = some (setV v k d) := rfl
theorem bt_tp (l : List Tg) : bindT (.tp l) (.tup xs) v = bindTL l xs v := rfl
theorem bt_nil : bindTL [] [] v = some v := rfl
theorem bt_cons (t : Tg) (r : List Tg) : bindTL (t :: r) (d :: xs) v = (bindT t d v).bind fun v => bindTL r xs v := rfl
theorem h_val0 : isHnd (.val .hnd :: ρ) 0 = true := rfl
theorem h_succ : isHnd (s :: ρ) (k + 1) = isHnd ρ k := by
  cases s with
  | val d => cases d <;> rfl
  | _ => rfl
end
end Ev
namespace Ev
open PySem
theorem x_hnd0 : idxD .hnd (.int 0) = M.any fun d => ∃ n, d = D.int n := x_hnd (by omega)
theorem x_hnd1 : idxD .hnd (.int 1) = M.any fun d => ∃ n, d = D.int n := x_hnd (by omega)
theorem x_hnd2 : idxD .hnd (.int 2) = M.any fun d => ∃ n, d = D.int n := x_hnd (by omega)
end Ev
namespace Ev
open PySem
/-- one factor small -/
theorem bop_mul_r (a : Int) {b : Int} (h : b.natAbs < 2 ^ 64) : bopD .mul (.int a) (.int b) = ret (.int (a * b)) := bop_mul_int (.inr h)
theorem bop_mul_l {a : Int} (b : Int) (h : a.natAbs < 2 ^ 64) : bopD .mul (.int a) (.int b) = ret (.int (a * b)) := bop_mul_int (.inl h)
theorem mod_abs (a : Int) {m : Int} (h : 0 < m ∧ m < 2 ^ 64) : (a % m).natAbs < 2 ^ 64 := by
  have := Int.emod_nonneg a (show m ≠ 0 by omega)
  have := Int.emod_lt_of_pos a h.1
  omega
end Ev
namespace Ev
open PySem
theorem take_nums (xs : List Int) (i : Nat) : (nums xs).take i = nums (xs.take i) := by simp [nums]
theorem cut_tk (xs : List D) (i : Int) (h : 0 ≤ i) : D.cut xs none (some i) = xs.take i.toNat := by
  obtain ⟨k, rfl⟩ := Int.eq_ofNat_of_zero_le h
  unfold D.cut
  rw [HT.sIx_none, show (some ((k : Int))) = some (k : Int) from rfl, HT.sIx_nat]
  simp
theorem cut_nums (xs : List Int) (i : Int) (h : 0 ≤ i) : D.cut (nums xs) none (some i) = nums (xs.take i.toNat) := by rw [cut_tk _ _ h, take_nums]
theorem bop_pow_int {a b : Int} (h : 0 ≤ b ∧ b ≤ 1000000 ∧ a.natAbs < 2 ^ 64) : bopD .pow (.int a) (.int b) = ret (.int (a ^ b.toNat)) := M.must_true h _
end Ev
namespace Ev
open PySem
def vw1 (is : List Nat) (k : Nat) : Sl → Option D
  | .no => none
  | .val d => some d
  | .own xs => if is.contains k then some (.lst xs) else none
def frz1 (is : List Nat) (k : Nat) : Sl → Sl
  | .own xs => if is.contains k then .val (.lst xs) else .own xs
  | s => s
theorem vw_nil (is : List Nat) (k : Nat) : vw is k [] = [] := rfl
theorem vw_gen (is : List Nat) (k : Nat) (s : Sl) (r : En) : vw is k (s :: r) = vw1 is k s :: vw is (k + 1) r := by cases s <;> rfl
theorem frz_nil (is : List Nat) (k : Nat) : frz is k [] = [] := rfl
theorem frz_gen (is : List Nat) (k : Nat) (s : Sl) (r : En) : frz is k (s :: r) = frz1 is k s :: frz is (k + 1) r := by cases s <;> rfl
theorem vw1_no (is : List Nat) (k : Nat) : vw1 is k .no = none := rfl
theorem vw1_val (is : List Nat) (k : Nat) (d : D) : vw1 is k (.val d) = some d := rfl
theorem vw1_own (is : List Nat) (k : Nat) (xs : List D) : vw1 is k (.own xs) = if is.contains k then some (.lst xs) else none := rfl
theorem frz1_no (is : List Nat) (k : Nat) : frz1 is k .no = .no := rfl
theorem frz1_val (is : List Nat) (k : Nat) (d : D) : frz1 is k (.val d) = .val d := rfl
theorem frz1_own (is : List Nat) (k : Nat) (xs : List D) : frz1 is k (.own xs) = if is.contains k then .val (.lst xs) else .own xs := rfl
end Ev
namespace Ev
open PySem
theorem forL_all {t : Tg} {body : En → M Fl} {R : Xn → Prop} (I : List D → En → Prop) (ds : List D) {ρ : En} {Q : Fl → Prop} (h0 : I [] ρ)
    (hs : ∀ pre d post ρ, ds = pre ++ d :: post → I pre ρ → ∃ ρ1, bindS t d ρ = some ρ1 ∧ (body ρ1).w (fun f => match f with | .nx ρ2 => I (pre ++ [d]) ρ2 | .ct ρ2 => I (pre ++ [d]) ρ2 | .bk ρ2 => Q (.nx ρ2) | .rt d => Q (.rt d)) R)
    (hq : ∀ ρ, I ds ρ → Q (.nx ρ)) : (forL t body ds ρ).w Q R := by
  suffices ∀ (rest pre : List D) (ρ : En), ds = pre ++ rest → I pre ρ → (forL t body rest ρ).w Q R from this ds [] ρ rfl h0
  intro rest
  induction rest with
  | nil => intro pre ρ e hi; exact hq ρ (by rw [e, List.append_nil]; exact hi)
  | cons d rest ih =>
    intro pre ρ e hi
    obtain ⟨ρ1, e1, h⟩ := hs pre d rest ρ e hi
    show (M.bind (M.ofO (bindS t d ρ)) _).w Q R
    rw [e1, M.ofO_some, M.ret_bind]
    show (body ρ1).w (fun f => (match f with
      | .nx ρ => forL t body rest ρ
      | .ct ρ => forL t body rest ρ
      | .bk ρ => ret (.nx ρ)
      | .rt d => ret (.rt d) : M Fl).w Q R) R
    refine M.w_imp h (fun f hf => ?_) fun _ r => r
    cases f with
    | nx ρ2 => exact ih (pre ++ [d]) ρ2 (by rw [e]; simp) hf
    | ct ρ2 => exact ih (pre ++ [d]) ρ2 (by rw [e]; simp) hf
    | bk ρ2 => exact hf
    | rt x => exact hf
theorem popD_nat (l : List D) (k : Nat) (h : k < l.length) (hl : l.length < 1000000) : popD l (k : Int) = ret (l[k], l.eraseIdx k) := by
  unfold popD
  rw [M.must_true (by omega)]
  unfold L2.ixN
  rw [if_pos (by omega), if_pos (by omega)]
  simp [h]
end Ev
namespace Ev
open PySem
theorem erase_perm {α : Type} : ∀ (l : List α) (k : Nat) (h : k < l.length), (l[k] :: l.eraseIdx k).Perm l
  | a :: l, 0, _ => List.Perm.refl _
  | a :: l, k + 1, h => by
    have h' : k < l.length := by simpa using h
    have := erase_perm l k h'
    show (l[k] :: a :: l.eraseIdx k).Perm (a :: l)
    exact (List.Perm.swap a l[k] _).trans (this.cons a)
theorem ite_ret {α : Type} (c : Prop) [Decidable c] (a b : α) : (if c then ret a else ret b : M α) = ret (if c then a else b) := by split <;> rfl
end Ev
namespace Ev
theorem atI_0 {α : Type} (x : α) (l : List α) : L2.atI (x :: l) 0 = some x := by
  have := atI_nat (x :: l) 0
  simpa using this
end Ev
namespace Ev
open PySem
theorem forL_numsP {t : Tg} {body : En → M Fl} {α : Type} (st : α → Sl → En) (f : α → Int → α) (P : List Int → α → Prop) (xs : List Int) {ρ : En} (a : α) (s : Sl) (h0 : ρ = st a s) (hP : P [] a)
    (h : ∀ pre x post a s, xs = pre ++ x :: post → P pre a → P (pre ++ [x]) (f a x) ∧ ∃ ρ1, bindS t (.int x) (st a s) = some ρ1 ∧ body ρ1 = ret (.nx (st (f a x) (.val (.int x))))) :
    forL t body (nums xs) ρ = ret (.nx (st (xs.foldl f a) (lastSl s xs))) := by
  subst h0
  suffices ∀ (rest pre : List Int) (a : α) (s : Sl), xs = pre ++ rest → P pre a → forL t body (nums rest) (st a s) = ret (.nx (st (rest.foldl f a) (lastSl s rest))) from this xs [] a s rfl hP
  intro rest
  induction rest with
  | nil => intro pre a s _ _; rfl
  | cons x rest ih =>
    intro pre a s e hp
    obtain ⟨hP', ρ1, e1, hb⟩ := h pre x rest a s e hp
    show M.bind (M.ofO (bindS t (.int x) (st a s))) _ = _
    rw [e1, M.ofO_some, M.ret_bind, hb, M.ret_bind]
    exact ih (pre ++ [x]) (f a x) (.val (.int x)) (by rw [e]; simp) hP'
end Ev
namespace Ev
open PySem
theorem lcM_bind {α : Type} (t : Tg) (v : Vw) (m : M α) (f : α → M (List D)) (mc : Vw → M Bool) (me : Vw → M D) : lcM t v (M.bind m f) mc me = M.bind m fun a => lcM t v (f a) mc me := rfl
def D.toI : D → Int
  | .int i => i
  | _ => 0
theorem perm_nums {ys : List D} {xs : List Int} (h : ys.Perm (nums xs)) : ∃ zs, ys = nums zs ∧ zs.Perm xs := by
  refine ⟨ys.map D.toI, ?_, ?_⟩
  · have : ∀ y ∈ ys, D.int (D.toI y) = y := fun y hy => by
      obtain ⟨x, _, rfl⟩ := List.mem_map.mp (h.mem_iff.mp hy)
      rfl
    unfold nums
    rw [List.map_map]
    conv => lhs; rw [← List.map_id ys]
    exact List.map_congr_left fun y hy => (this y hy).symm
  · have := h.map D.toI
    unfold nums at this
    rw [List.map_map] at this
    have e : (D.toI ∘ D.int) = id := rfl
    rw [e, List.map_id] at this
    exact this
/-- a list of drawn numbers -/
theorem lcM_draw {t : Tg} {v : Vw} {mc : Vw → M Bool} {me : Vw → M D} {xs : List Int} {P : Int → Prop} {Q : List D → Prop} {R : Xn → Prop} (hl : xs.length ≤ 2 ^ 24) (h : ∀ x ∈ xs, (lcStep t v mc me (.int x)).w (fun o => ∃ i, o = some (.int i) ∧ P i) fun _ => False)
    (hq : ∀ ys : List Int, ys.length = xs.length → (∀ y ∈ ys, P y) → Q (nums ys)) : (lcM t v (ret (nums xs)) mc me).w Q R := by
  refine lcM_w (P := fun _ o => ∃ i, o = some (.int i) ∧ P i) (by rw [nums_length]; exact hl) (fun d hd => ?_) fun os ho => ?_
  · obtain ⟨x, hx, rfl⟩ := List.mem_map.mp hd
    exact h x hx
  · obtain ⟨cs, rfl, e, hc⟩ := M.All2.map (g := fun i => some (D.int i)) (Q := P) (fun _ _ h => h) ho
    have : (cs.map fun i => some (D.int i)).filterMap id = nums cs := by
      rw [List.filterMap_map]
      exact List.filterMap_eq_map (f := D.int) ▸ rfl
    rw [this]
    exact hq cs (by rw [e, nums_length]) hc
end Ev
namespace Ev
theorem flat_nums (xs : List Int) : (∀ x, x ∈ nums xs → D.flat x = true) = True := eq_true fun x hx => by
  obtain ⟨i, _, rfl⟩ := List.mem_map.mp hx; rfl
theorem all_nums (xs : List Int) : (nums xs).all D.flat = true := List.all_eq_true.mpr fun x hx => by
  obtain ⟨i, _, rfl⟩ := List.mem_map.mp hx; rfl
end Ev
set_option Elab.async false
set_option linter.all false
set_option maxRecDepth 100000
/-! primes below 100: inverses -/
namespace Ev
def PR : List Int := [2, 3, 5, 7, 11, 13, 17, 19, 23, 29, 31, 37, 41, 43, 47, 53, 59, 61, 67, 71, 73, 79, 83, 89, 97]
def PRn : List Nat := [2, 3, 5, 7, 11, 13, 17, 19, 23, 29, 31, 37, 41, 43, 47, 53, 59, 61, 67, 71, 73, 79, 83, 89, 97]
theorem PR_b {p : Int} (h : p ∈ PR) : 2 ≤ p ∧ p ≤ 97 := by
  have : ∀ p ∈ PR, 2 ≤ p ∧ p ≤ 97 := by decide
  exact this p h
theorem PR_n {p : Int} (h : p ∈ PR) : ∃ q : Nat, q ∈ PRn ∧ p = q := by
  have e : PR = PRn.map fun (n : Nat) => (n : Int) := by decide
  rw [e] at h
  obtain ⟨q, hq, rfl⟩ := List.mem_map.mp h
  exact ⟨q, hq, rfl⟩
def chkF : Bool := PRn.all fun p => (List.range' 1 (p - 1)).all fun a => Nat.beq (a ^ (p - 1) % p) 1
theorem chkF_ok : chkF = true := by decide +kernel
theorem fermat {p : Nat} (hp : p ∈ PRn) {a : Nat} (h1 : 1 ≤ a) (h2 : a < p) : a ^ (p - 1) % p = 1 := by
  have := List.all_eq_true.mp (List.all_eq_true.mp chkF_ok p hp) a (List.mem_range'_1.mpr ⟨h1, by omega⟩)
  exact Nat.eq_of_beq_eq_true this
def invp (p a : Int) : Int := (iota 0 (p - 2).toNat).foldl (fun f _ => f * a % p) 1
theorem fold_pow (p a : Int) : ∀ (l : List Int) (f : Int), (l.foldl (fun f _ => f * a % p) f) % p = (f * a ^ l.length) % p
  | [], f => by simp
  | x :: l, f => by
    rw [List.foldl_cons, fold_pow p a l, List.length_cons, Int.pow_succ, Int.mul_emod, Int.emod_emod, ← Int.mul_emod]
    congr 1
    rw [Int.mul_assoc, Int.mul_comm (a ^ l.length) a]
theorem invp_b (p a : Int) (hp : 2 ≤ p) : 0 ≤ invp p a ∧ invp p a < p := by
  unfold invp
  generalize (iota 0 (p - 2).toNat) = l
  suffices ∀ f : Int, 0 ≤ f ∧ f < p → 0 ≤ l.foldl (fun f _ => f * a % p) f ∧ l.foldl (fun f _ => f * a % p) f < p from this 1 (by omega)
  induction l with
  | nil => intro f h; exact h
  | cons x l ih => intro f h; exact ih _ ⟨Int.emod_nonneg _ (by omega), Int.emod_lt_of_pos _ (by omega)⟩
theorem invp_mul {p a : Int} (hp : p ∈ PR) (ha : 1 ≤ a ∧ a < p) : (a * invp p a) % p = 1 := by
  have hb := PR_b hp
  obtain ⟨q, hq, rfl⟩ := PR_n hp
  obtain ⟨b, rfl⟩ := Int.eq_ofNat_of_zero_le (show 0 ≤ a by omega)
  have f := fermat hq (a := b) (by omega) (by omega)
  have e := fold_pow (q : Int) (b : Int) (iota 0 ((q : Int) - 2).toNat) 1
  rw [iota_length, Int.one_mul] at e
  rw [Int.mul_emod]
  show ((b : Int) % q * ((iota 0 ((q : Int) - 2).toNat).foldl (fun f _ => f * (b : Int) % q) 1 % q)) % q = 1
  rw [e, ← Int.mul_emod, Int.mul_comm, ← Int.pow_succ]
  have : ((q : Int) - 2).toNat.succ = q - 1 := by omega
  rw [this]
  have : ((b ^ (q - 1) % q : Nat) : Int) = 1 := by rw [f]; rfl
  rw [Int.natCast_emod, Int.natCast_pow] at this
  exact this
theorem inv_one {p a k : Int} (hp : p ∈ PR) (ha : 1 ≤ a ∧ a < p) (hk : 0 ≤ k ∧ k < p) (h : (a * k) % p = 1) : k = invp p a := by
  have hb := PR_b hp
  have hi := invp_b p a hb.1
  have h2 := invp_mul hp ha
  have e1 : (a * k * invp p a) % p = invp p a % p := by
    rw [Int.mul_emod, h, Int.one_mul, Int.emod_emod]
  have e2 : (a * k * invp p a) % p = k % p := by
    rw [Int.mul_right_comm, Int.mul_emod, h2, Int.one_mul, Int.emod_emod]
  rw [e1, Int.emod_eq_of_lt hi.1 hi.2, Int.emod_eq_of_lt hk.1 hk.2] at e2
  exact e2.symm
theorem filter_one {l : List Int} {i : Int} {q : Int → Bool} (nd : l.Nodup) (hi : i ∈ l) (h1 : q i = true) (h2 : ∀ k ∈ l, q k = true → k = i) : l.filter q = [i] := by
  induction l with
  | nil => cases hi
  | cons x l ih =>
    obtain ⟨n1, n2⟩ := List.nodup_cons.mp nd
    rw [List.filter_cons]
    by_cases e : x = i
    · subst e
      rw [if_pos h1]
      congr 1
      rw [List.filter_eq_nil_iff]
      intro y hy hq
      exact n1 (h2 y (List.mem_cons_of_mem _ hy) hq ▸ hy)
    · rw [if_neg (fun hq => e (h2 x List.mem_cons_self hq))]
      rcases List.mem_cons.mp hi with rfl | hi
      · exact absurd rfl e
      · exact ih n2 hi fun k hk => h2 k (List.mem_cons_of_mem _ hk)
theorem iota_nodup (a : Int) (n : Nat) : (iota a n).Nodup := by
  unfold iota
  rw [List.nodup_iff_pairwise_ne, List.pairwise_map]
  exact (List.nodup_range (n := n)).imp fun h e => h (by omega)
theorem turned_all {p a : Int} (hp : p ∈ PR) (ha : 1 ≤ a ∧ a < p) : (iota 1 (p - 1).toNat).filter (fun k => (a * k) % p == 1) = [invp p a] := by
  have hb := PR_b hp
  have hi := invp_b p a hb.1
  have h2 := invp_mul hp ha
  have h0 : invp p a ≠ 0 := fun e => by rw [e, Int.mul_zero, Int.zero_emod] at h2; omega
  refine filter_one (iota_nodup _ _) (mem_iota.mpr (by omega)) (by simpa using h2) fun k hk hq => ?_
  have := mem_iota.mp hk
  exact inv_one hp ha (by omega) (by simpa using hq)
end Ev
set_option Elab.async false
set_option linter.all false
set_option maxRecDepth 100000
/-! interpolation at 0 -/
namespace Ev
open Lean.Grind
section
variable {R : Type} [CommRing R] [DecidableEq R] (iv : R → R)
def wR : List R → R → R
  | [], _ => 1
  | o :: l, x => if o = x then wR l x else o * iv (o - x) * wR l x
def sR (g : R → R) : List R → R
  | [] => 0
  | x :: l => g x + sR g l
/-- differences have inverses -/
def Gd (l : List R) : Prop := l.Nodup ∧ ∀ x ∈ l, ∀ y ∈ l, x ≠ y → (x - y) * iv (x - y) = 1
variable {iv}
theorem Gd.tail {a : R} {l : List R} (h : Gd iv (a :: l)) : Gd iv l := ⟨(List.nodup_cons.mp h.1).2, fun x hx y hy => h.2 x (List.mem_cons_of_mem _ hx) y (List.mem_cons_of_mem _ hy)⟩
theorem Gd.swap {a b : R} {l : List R} (h : Gd iv (a :: b :: l)) : Gd iv (b :: a :: l) := by
  refine ⟨?_, fun x hx y hy => h.2 x ?_ y ?_⟩
  · have := h.1
    simp only [List.nodup_cons, List.mem_cons, _root_.not_or] at this ⊢
    exact ⟨⟨fun e => this.1.1 e.symm, this.2.1⟩, this.1.2, this.2.2⟩
  · simp only [List.mem_cons] at hx ⊢; exact hx.elim (fun e => .inr (.inl e)) fun h => h.elim .inl fun h => .inr (.inr h)
  · simp only [List.mem_cons] at hy ⊢; exact hy.elim (fun e => .inr (.inl e)) fun h => h.elim .inl fun h => .inr (.inr h)
theorem Gd.drop2 {a b : R} {l : List R} (h : Gd iv (a :: b :: l)) : Gd iv (a :: l) := h.swap.tail
theorem sR_congr {g h : R → R} : ∀ {l : List R}, (∀ x ∈ l, g x = h x) → sR g l = sR h l
  | [], _ => rfl
  | x :: l, e => by
    show g x + _ = h x + _
    rw [e x List.mem_cons_self, sR_congr fun y hy => e y (List.mem_cons_of_mem _ hy)]
theorem sR_add (g h : R → R) : ∀ l : List R, sR (fun x => g x + h x) l = sR g l + sR h l
  | [] => by show (0 : R) = 0 + 0; grind
  | x :: l => by
    show g x + h x + sR _ l = (g x + sR g l) + (h x + sR h l)
    rw [sR_add g h l]; grind
theorem sR_mul (c : R) (g : R → R) : ∀ l : List R, sR (fun x => c * g x) l = c * sR g l
  | [] => by show (0 : R) = c * 0; grind
  | x :: l => by
    show c * g x + sR _ l = c * (g x + sR g l)
    rw [sR_mul c g l]; grind
theorem wR_ne {o x : R} {l : List R} (h : o ≠ x) : wR iv (o :: l) x = o * iv (o - x) * wR iv l x := if_neg h
theorem wR_eq (x : R) (l : List R) : wR iv (x :: l) x = wR iv l x := if_pos rfl
/-- the mixed sum -/
theorem mixed (a b : R) (w : R → R) (hab : (b - a) * iv (b - a) = 1) : ∀ l : List R, (∀ x ∈ l, (a - x) * iv (a - x) = 1 ∧ (b - x) * iv (b - x) = 1) →
    (b - a) * sR (fun x => a * iv (a - x) * (b * iv (b - x) * w x)) l = b * sR (fun x => a * iv (a - x) * w x) l - a * sR (fun x => b * iv (b - x) * w x) l
  | [], _ => by show (b - a) * 0 = b * 0 - a * 0; grind
  | x :: l, h => by
    have ih := mixed a b w hab l fun y hy => h y (List.mem_cons_of_mem _ hy)
    obtain ⟨h1, h2⟩ := h x List.mem_cons_self
    show (b - a) * (a * iv (a - x) * (b * iv (b - x) * w x) + sR _ l) = b * (a * iv (a - x) * w x + sR _ l) - a * (b * iv (b - x) * w x + sR _ l)
    generalize sR (fun x => a * iv (a - x) * (b * iv (b - x) * w x)) l = C at *
    generalize sR (fun x => a * iv (a - x) * w x) l = A at *
    generalize sR (fun x => b * iv (b - x) * w x) l = B at *
    generalize iv (a - x) = u at *
    generalize iv (b - x) = v at *
    grind
/-- the weights' sum -/
theorem sum_one : ∀ (l : List R) (a : R), Gd iv (a :: l) → wR iv l a + sR (fun x => a * iv (a - x) * wR iv l x) l = 1
  | [], a, _ => by show (1 : R) + 0 = 1; grind
  | b :: l, a, h => by
    have nd := h.1
    simp only [List.nodup_cons, List.mem_cons, _root_.not_or] at nd
    obtain ⟨⟨n1, n2⟩, n3, n4⟩ := nd
    have ia := sum_one l a h.drop2
    have ib := sum_one l b h.tail
    have hab : (b - a) * iv (b - a) = 1 := h.2 b (by simp) a (by simp) (fun e => n1 e.symm)
    have hba : (a - b) * iv (a - b) = 1 := h.2 a (by simp) b (by simp) n1
    have hm := mixed (iv := iv) a b (wR iv l) hab l fun x hx => ⟨h.2 a (by simp) x (by simp [hx]) fun e => n2 (e ▸ hx), h.2 b (by simp) x (by simp [hx]) fun e => n3 (e ▸ hx)⟩
    have e1 : wR iv (b :: l) a = b * iv (b - a) * wR iv l a := wR_ne fun e => n1 e.symm
    have e2 : wR iv (b :: l) b = wR iv l b := wR_eq b l
    have e3 : sR (fun x => a * iv (a - x) * wR iv (b :: l) x) l = sR (fun x => a * iv (a - x) * (b * iv (b - x) * wR iv l x)) l := sR_congr fun x hx => by rw [wR_ne (o := b) (x := x) fun e => n3 (by rw [e]; exact hx)]
    show wR iv (b :: l) a + (a * iv (a - b) * wR iv (b :: l) b + sR (fun x => a * iv (a - x) * wR iv (b :: l) x) l) = 1
    rw [e1, e2, e3]
    generalize sR (fun x => a * iv (a - x) * (b * iv (b - x) * wR iv l x)) l = C at *
    generalize sR (fun x => a * iv (a - x) * wR iv l x) l = A at *
    generalize sR (fun x => b * iv (b - x) * wR iv l x) l = B at *
    generalize wR iv l a = wa at *
    generalize wR iv l b = wb at *
    generalize iv (b - a) = u at *
    generalize iv (a - b) = v at *
    grind
/-- the sum of the weighed values -/
def eR (iv : R → R) (l : List R) (g : R → R) : R := sR (fun x => wR iv l x * g x) l
theorem eR_cons {a : R} {l : List R} (h : a ∉ l) (g : R → R) : eR iv (a :: l) g = wR iv l a * g a + sR (fun x => a * iv (a - x) * wR iv l x * g x) l := by
  unfold eR
  show wR iv (a :: l) a * g a + _ = _
  rw [wR_eq, sR_congr (h := fun x => a * iv (a - x) * wR iv l x * g x) fun x hx => by
    show wR iv (a :: l) x * g x = _
    rw [wR_ne (o := a) (x := x) fun e => h (by rw [e]; exact hx)]]
theorem eR_one {l : List R} (h : Gd iv l) (h0 : l ≠ []) : eR iv l (fun _ => 1) = 1 := by
  cases l with
  | nil => exact absurd rfl h0
  | cons a l =>
    rw [eR_cons (List.nodup_cons.mp h.1).1]
    have := sum_one l a h
    rw [sR_congr (h := fun x => a * iv (a - x) * wR iv l x) fun x _ => by grind]
    grind
theorem eR_step {a : R} {l : List R} (h : Gd iv (a :: l)) (g : R → R) : eR iv (a :: l) (fun x => x * g x) = a * (eR iv (a :: l) g - eR iv l g) := by
  have n := (List.nodup_cons.mp h.1).1
  rw [eR_cons n, eR_cons n]
  have key : sR (fun x => a * iv (a - x) * wR iv l x * (x * g x)) l = a * sR (fun x => a * iv (a - x) * wR iv l x * g x) l - a * eR iv l g := by
    unfold eR
    have : sR (fun x => a * iv (a - x) * wR iv l x * (x * g x)) l = sR (fun x => a * (a * iv (a - x) * wR iv l x * g x) + (-a) * (wR iv l x * g x)) l := sR_congr fun x hx => by
      have := h.2 a (by simp) x (by simp [hx]) fun e => n (e ▸ hx)
      generalize iv (a - x) = u at *
      generalize wR iv l x = w at *
      grind
    rw [this, sR_add, sR_mul, sR_mul]
    grind
  rw [key]
  generalize sR (fun x => a * iv (a - x) * wR iv l x * g x) l = A
  grind
/-- powers -/
theorem eR_pow : ∀ (k : Nat) {l : List R}, Gd iv l → k < l.length → eR iv l (fun x => x ^ k) = if k = 0 then 1 else 0
  | 0, l, h, hk => by
    have := eR_one h (by rintro rfl; simp at hk)
    rw [if_pos rfl, ← this]
    unfold eR
    exact sR_congr fun x _ => by
      show wR iv l x * x ^ 0 = wR iv l x * 1
      rw [Semiring.pow_zero]
  | k + 1, [], _, hk => by simp at hk
  | k + 1, a :: l, h, hk => by
    have e : eR iv (a :: l) (fun x => x ^ (k + 1)) = eR iv (a :: l) (fun x => x * x ^ k) := by
      unfold eR
      exact sR_congr fun x _ => by
        show wR iv (a :: l) x * x ^ (k + 1) = wR iv (a :: l) x * (x * x ^ k)
        rw [Semiring.pow_succ]; grind
    have hk' : k < l.length := by simpa using hk
    rw [e, eR_step h, eR_pow k h (by simp; omega), eR_pow k h.tail hk']
    simp
    grind
end
end Ev
set_option Elab.async false
set_option linter.all false
set_option maxRecDepth 100000
set_option maxHeartbeats 1000000
/-! curves, weights of points, modulo a prime -/
namespace Ev
open Lean.Grind
def wt (p : Int) (xs : List Int) (x : Int) : Int := xs.foldl (fun f o => if o = x then f else f * o * invp p ((o - x) % p) % p) 1
def pw (p x : Int) : Nat → Int
  | 0 => 1
  | k + 1 => pw p x k * x % p
def pws (p x : Int) (m : Nat) : List Int := (List.range m).map (pw p x)
def cv (p : Int) (ds : List Int) (x : Int) : Int := ((ds.zip (pws p x ds.length)).map fun q => q.1 * q.2).sum % p
local instance castI {R : Type} [CommRing R] : IntCast R := Ring.intCast
section
variable {R : Type} [CommRing R] [DecidableEq R] {q : Nat} [IsCharP R q]
theorem eR_add (iv : R → R) (l : List R) (g h : R → R) : eR iv l (fun y => g y + h y) = eR iv l g + eR iv l h := by
  unfold eR
  rw [← sR_add]
  exact sR_congr fun x _ => by
    show wR iv l x * (g x + h x) = wR iv l x * g x + wR iv l x * h x
    grind
theorem eR_mul (iv : R → R) (l : List R) (c : R) (g : R → R) : eR iv l (fun y => c * g y) = c * eR iv l g := by
  unfold eR
  rw [← sR_mul]
  exact sR_congr fun x _ => by
    show wR iv l x * (c * g x) = c * (wR iv l x * g x)
    grind
def pl : List R → Nat → R → R
  | [], _, _ => 0
  | d :: ds, k, y => d * y ^ k + pl ds (k + 1) y
theorem eR_pl {iv : R → R} {l : List R} (h : Gd iv l) : ∀ (ds : List R) (k : Nat), k + ds.length ≤ l.length → eR iv l (pl ds k) = if k = 0 then ds.headD 0 else 0
  | [], k, _ => by
    have : eR iv l (pl [] k) = eR iv l (fun y => (0 : R) * (fun _ => 1) y) := by
      unfold eR
      exact sR_congr fun x _ => by
        show wR iv l x * 0 = wR iv l x * (0 * 1)
        grind
    rw [this, eR_mul]
    split
    · show (0 : R) * _ = 0; grind
    · grind
  | d :: ds, k, hk => by
    have e : eR iv l (pl (d :: ds) k) = eR iv l (fun y => (fun y => d * y ^ k) y + pl ds (k + 1) y) := rfl
    have hk' : k + (ds.length + 1) ≤ l.length := hk
    rw [e, eR_add, eR_pl h ds (k + 1) (by omega), if_neg (by omega), eR_mul iv l d (fun y => y ^ k), eR_pow k h (by omega)]
    split
    · show d * 1 + 0 = d; grind
    · grind
/-- the inverse, by the least representative -/
noncomputable def ivc (R : Type) [CommRing R] (p : Int) (y : R) : R := by
  classical
  exact if h : ∃ z : Int, 0 ≤ z ∧ z < p ∧ (z : R) = y then ((invp p (Classical.choose h) : Int) : R) else 0
theorem cast_mod (a : Int) : ((a % (q : Int) : Int) : R) = (a : R) := (IsCharP.intCast_ext_iff q).mpr (Int.emod_emod _ _)
theorem cast_inj {a b : Int} (ha : 0 ≤ a ∧ a < q) (hb : 0 ≤ b ∧ b < q) (h : (a : R) = (b : R)) : a = b := by
  have := (IsCharP.intCast_ext_iff q).mp h
  rwa [Int.emod_eq_of_lt ha.1 ha.2, Int.emod_eq_of_lt hb.1 hb.2] at this
theorem ivc_of {d : Int} (hd : 0 ≤ d ∧ d < q) : ivc R (q : Int) (d : R) = ((invp q d : Int) : R) := by
  unfold ivc
  have h : ∃ z : Int, 0 ≤ z ∧ z < (q : Int) ∧ (z : R) = (d : R) := ⟨d, hd.1, hd.2, rfl⟩
  rw [dif_pos h]
  obtain ⟨c1, c2, c3⟩ := Classical.choose_spec h
  rw [cast_inj ⟨c1, c2⟩ hd c3]
theorem sub_mod_ne {p o x : Int} (ho : 1 ≤ o ∧ o ≤ p - 1) (hx : 1 ≤ x ∧ x ≤ p - 1) (h : o ≠ x) : 1 ≤ (o - x) % p ∧ (o - x) % p < p := by
  have h1 := Int.emod_nonneg (o - x) (show p ≠ 0 by omega)
  have h2 := Int.emod_lt_of_pos (o - x) (show 0 < p by omega)
  refine ⟨?_, h2⟩
  have : (o - x) % p ≠ 0 := fun e => by
    obtain ⟨k, hk⟩ := Int.dvd_of_emod_eq_zero e
    rcases Int.lt_trichotomy k 0 with h1 | h1 | h1
    · have : p * k ≤ p * (-1) := Int.mul_le_mul_of_nonneg_left (by omega) (by omega)
      omega
    · rw [h1] at hk; omega
    · have : p * 1 ≤ p * k := Int.mul_le_mul_of_nonneg_left (by omega) (by omega)
      omega
  omega
theorem cast_wt {x : Int} (hx : 1 ≤ x ∧ x ≤ (q : Int) - 1) : ∀ (l : List Int) (f : Int), (∀ o ∈ l, 1 ≤ o ∧ o ≤ (q : Int) - 1) →
    ((l.foldl (fun f o => if o = x then f else f * o * invp q ((o - x) % q) % q) f : Int) : R) = (f : R) * wR (ivc R (q : Int)) (l.map fun (n : Int) => (n : R)) (x : R)
  | [], f, _ => by show (f : R) = f * 1; grind
  | o :: l, f, h => by
    have ho := h o List.mem_cons_self
    rw [List.foldl_cons, cast_wt hx l _ fun y hy => h y (List.mem_cons_of_mem _ hy), List.map_cons]
    by_cases e : o = x
    · subst e
      rw [if_pos rfl, wR_eq]
    · have e2 : ((o : Int) : R) ≠ (x : R) := fun h => e (cast_inj ⟨by omega, by omega⟩ ⟨by omega, by omega⟩ h)
      have hm := sub_mod_ne ho hx e
      rw [if_neg e, wR_ne e2, cast_mod, Ring.intCast_mul, Ring.intCast_mul, ← Ring.intCast_sub, ← cast_mod (q := q) (o - x), ivc_of ⟨by omega, hm.2⟩]
      grind
theorem cast_sum {α : Type} (g : α → Int) : ∀ l : List α, (((l.map g).sum : Int) : R) = (l.map fun x => ((g x : Int) : R)).foldr (· + ·) 0
  | [] => Ring.intCast_zero
  | x :: l => by
    rw [List.map_cons, List.sum_cons, Ring.intCast_add, cast_sum g l]; rfl
theorem cast_pw (x : Int) : ∀ k, ((pw q x k : Int) : R) = (x : R) ^ k
  | 0 => by rw [Semiring.pow_zero]; exact Ring.intCast_one
  | k + 1 => by
    show ((pw q x k * x % q : Int) : R) = _
    rw [cast_mod, Ring.intCast_mul, cast_pw x k, Semiring.pow_succ]
theorem cast_zip (x : Int) : ∀ (ds : List Int) (k : Nat), ((((ds.zip ((List.range' k ds.length).map (pw q x))).map fun u => u.1 * u.2).sum : Int) : R) = pl (ds.map fun (n : Int) => (n : R)) k (x : R)
  | [], k => Ring.intCast_zero
  | d :: ds, k => by
    rw [List.length_cons, List.range'_succ, List.map_cons, List.zip_cons_cons, List.map_cons, List.sum_cons, Ring.intCast_add, Ring.intCast_mul, cast_pw, cast_zip x ds (k + 1)]; rfl
theorem cast_cv (x : Int) (ds : List Int) : ((cv q ds x : Int) : R) = pl (ds.map fun (n : Int) => (n : R)) 0 (x : R) := by
  unfold cv pws
  rw [cast_mod, List.range_eq_range', cast_zip x ds 0]
theorem foldr_sR (g : R → R) : ∀ l : List R, (l.map g).foldr (· + ·) 0 = sR g l
  | [] => rfl
  | x :: l => by rw [List.map_cons, List.foldr_cons, foldr_sR g l]; rfl
end
/-- with as many points as the dealing has numbers, or more, the weighed points make the number dealt -/
theorem lagrangeR (R : Type) [CommRing R] [DecidableEq R] {q : Nat} [IsCharP R q] {p : Int} (hq : p = (q : Int)) (hp : p ∈ PR) {xs ds : List Int} (nd : xs.Nodup) (hx : ∀ x ∈ xs, 1 ≤ x ∧ x ≤ p - 1) (h0 : ds ≠ []) (hd : ∀ d ∈ ds, 0 ≤ d ∧ d ≤ p - 1) (hl : ds.length ≤ xs.length) :
    ((xs.map fun x => wt p xs x * cv p ds x).sum) % p = ds.headD 0 := by
  have hb := PR_b hp
  subst hq
  have gd : Gd (ivc R (q : Int)) (xs.map fun (n : Int) => (n : R)) := by
    refine ⟨?_, fun a ha b hb' hne => ?_⟩
    · rw [List.nodup_iff_pairwise_ne, List.pairwise_map]
      refine List.Pairwise.imp_of_mem (fun {a b} ha hb' hne e => ?_) (List.nodup_iff_pairwise_ne.mp nd)
      have h1 := hx a ha
      have h2 := hx b hb'
      exact hne (cast_inj (R := R) ⟨by omega, by omega⟩ ⟨by omega, by omega⟩ e)
    · obtain ⟨a, ha2, rfl⟩ := List.mem_map.mp ha
      obtain ⟨b, hb2, rfl⟩ := List.mem_map.mp hb'
      have hm := sub_mod_ne (hx a ha2) (hx b hb2) fun e => hne (by rw [e])
      rw [← Ring.intCast_sub, ← cast_mod (q := q) (a - b), ivc_of ⟨by omega, hm.2⟩, ← Ring.intCast_mul, ← Ring.intCast_one]
      exact (IsCharP.intCast_ext_iff q).mpr (by rw [invp_mul hp hm]; exact (Int.emod_eq_of_lt (by omega) (by omega)).symm)
  have key : (((xs.map fun x => wt q xs x * cv q ds x).sum : Int) : R) = ((ds.headD 0 : Int) : R) := by
    rw [cast_sum]
    have e : (xs.map fun x => ((wt q xs x * cv q ds x : Int) : R)) = (xs.map fun (n : Int) => (n : R)).map fun y => wR (ivc R (q : Int)) (xs.map fun (n : Int) => (n : R)) y * pl (ds.map fun (n : Int) => (n : R)) 0 y := by
      rw [List.map_map]
      refine List.map_congr_left fun x hxm => ?_
      have hw : ((wt q xs x : Int) : R) = ((1 : Int) : R) * wR (ivc R (q : Int)) (xs.map fun (n : Int) => (n : R)) (x : R) := cast_wt (hx x hxm) xs 1 hx
      rw [Ring.intCast_mul, hw, cast_cv, Ring.intCast_one]
      show (1 : R) * _ * _ = _ * _
      grind
    rw [e, foldr_sR]
    have := eR_pl gd (ds.map fun (n : Int) => (n : R)) 0 (by simpa using hl)
    rw [if_pos rfl] at this
    unfold eR at this
    rw [this]
    cases ds with
    | nil => exact absurd rfl h0
    | cons d ds => rfl
  have h1 := (IsCharP.intCast_ext_iff q).mp key
  rw [h1]
  cases ds with
  | nil => exact absurd rfl h0
  | cons d ds =>
    have := hd d List.mem_cons_self
    exact Int.emod_eq_of_lt this.1 (by show d < q; omega)
theorem lagrange {p : Int} (hp : p ∈ PR) {xs ds : List Int} (nd : xs.Nodup) (hx : ∀ x ∈ xs, 1 ≤ x ∧ x ≤ p - 1) (h0 : ds ≠ []) (hd : ∀ d ∈ ds, 0 ≤ d ∧ d ≤ p - 1) (hl : ds.length ≤ xs.length) :
    ((xs.map fun x => wt p xs x * cv p ds x).sum) % p = ds.headD 0 := by
  have hb := PR_b hp
  obtain ⟨q, hq, e⟩ := PR_n hp
  have : NeZero q := ⟨by omega⟩
  exact lagrangeR (_root_.Fin q) e hp nd hx h0 hd hl
end Ev
set_option linter.all false
/-! rows of numbers modulo a prime: sums of rows, elimination -/
namespace LA
abbrev V := Nat → Int
/-- sums of rows, multiples of p let -/
inductive Sp (p : Int) (rows : List V) : V → Prop
  | zero : Sp p rows fun _ => 0
  | step {v r : V} (c : Int) : Sp p rows v → r ∈ rows → Sp p rows fun i => v i + c * r i
  | modp {v : V} (u : V) : Sp p rows v → Sp p rows fun i => v i + p * u i
theorem Sp.cast {p : Int} {rows : List V} {v w : V} (h : Sp p rows v) (e : ∀ i, w i = v i) : Sp p rows w := by
  have : w = v := funext e
  rw [this]; exact h
theorem Sp.mem {p : Int} {rows : List V} {r : V} (h : r ∈ rows) : Sp p rows r := (Sp.step 1 Sp.zero h).cast fun i => by grind
theorem Sp.add {p : Int} {rows : List V} {u v : V} (c : Int) (hu : Sp p rows u) (hv : Sp p rows v) : Sp p rows fun i => u i + c * v i := by
  induction hv with
  | zero => exact hu.cast fun i => by grind
  | step d _ hr ih => exact (ih.step (c * d) hr).cast fun i => by grind
  | modp w _ ih => exact (ih.modp fun i => c * w i).cast fun i => by grind
theorem Sp.trans {p : Int} {rows rows' : List V} {v : V} (h : ∀ r ∈ rows, Sp p rows' r) (hv : Sp p rows v) : Sp p rows' v := by
  induction hv with
  | zero => exact .zero
  | step d _ hr ih => exact ih.add d (h _ hr)
  | modp w _ ih => exact ih.modp w
theorem Sp.mono {p : Int} {rows rows' : List V} {v : V} (h : ∀ r ∈ rows, r ∈ rows') (hv : Sp p rows v) : Sp p rows' v := hv.trans fun r hr => .mem (h r hr)
theorem Sp.smul {p : Int} {rows : List V} {v : V} (c : Int) (hv : Sp p rows v) : Sp p rows fun i => c * v i := (Sp.zero.add c hv).cast fun i => by grind
/-- the product of two rows of w numbers -/
def dN (u x : V) : Nat → Int
  | 0 => 0
  | w + 1 => dN u x w + u w * x w
theorem dN_add (u v x : V) (c : Int) : ∀ w, dN (fun i => u i + c * v i) x w = dN u x w + c * dN v x w
  | 0 => by simp [dN]
  | w + 1 => by
    have := dN_add u v x c w
    simp only [dN, this]; grind
theorem dN_zero (x : V) : ∀ w, dN (fun _ => 0) x w = 0
  | 0 => rfl
  | w + 1 => by simp [dN, dN_zero x w]
theorem dN_congr {u v x y : V} : ∀ {w : Nat}, (∀ i < w, u i = v i) → (∀ i < w, x i = y i) → dN u x w = dN v y w
  | 0, _, _ => rfl
  | w + 1, h, h' => by
    simp only [dN]
    rw [dN_congr (fun i hi => h i (by omega)) (fun i hi => h' i (by omega)), h w (by omega), h' w (by omega)]
theorem dN_comm (u x : V) : ∀ w, dN u x w = dN x u w
  | 0 => rfl
  | w + 1 => by simp only [dN, dN_comm u x w]; grind
theorem Sp.kill {p : Int} {rows : List V} {v x : V} {w : Nat} (h : ∀ r ∈ rows, p ∣ dN r x w) (hv : Sp p rows v) : p ∣ dN v x w := by
  induction hv with
  | zero => rw [dN_zero]; exact Int.dvd_zero p
  | step d _ hr ih => rw [dN_add]; exact Int.dvd_add ih (Int.dvd_mul_of_dvd_right (h _ hr))
  | modp u _ ih => rw [dN_add]; exact Int.dvd_add ih (Int.dvd_mul_right _ _)
def Z (p : Int) (v : V) : Prop := ∀ i, p ∣ v i
theorem Z.sp {p : Int} {rows : List V} {v : V} (h : Z p v) : Sp p rows v := by
  have : ∃ u : V, ∀ i, v i = p * u i := ⟨fun i => v i / p, fun i => (Int.mul_ediv_cancel' (h i)).symm⟩
  obtain ⟨u, e⟩ := this
  exact (Sp.zero.modp u).cast fun i => by rw [e i]; grind
/-- reduced by steps: a place, a row -/
def rd : List (Nat × V) → V → V
  | [], v => v
  | (k, b) :: l, v => rd l fun i => v i - v k * b i
theorem rd_add (u v : V) (c : Int) : ∀ (l : List (Nat × V)), rd l (fun i => u i + c * v i) = fun i => rd l u i + c * rd l v i
  | [] => rfl
  | (k, b) :: l => by
    have e : rd ((k, b) :: l) (fun i => u i + c * v i) = rd l fun i => (u i - u k * b i) + c * (v i - v k * b i) := by
      show rd l _ = rd l _
      congr 1; funext i; grind
    rw [e, rd_add _ _ _ l]; rfl
theorem rd_zero : ∀ l : List (Nat × V), rd l (fun _ => 0) = fun _ => 0
  | [] => rfl
  | (k, b) :: l => by
    show rd l _ = _
    rw [show (fun i => (0 : Int) - 0 * b i) = fun _ => 0 from funext fun i => by grind, rd_zero l]
theorem rd_smul (u : V) (c : Int) (l : List (Nat × V)) : rd l (fun i => c * u i) = fun i => c * rd l u i := by
  have := rd_add (fun _ => 0) u c l
  rw [rd_zero] at this
  have e : (fun i => (0 : Int) + c * u i) = fun i => c * u i := funext fun i => by grind
  rw [e] at this
  rw [this]; funext i; grind
theorem rd_app (v : V) : ∀ (l l' : List (Nat × V)), rd (l ++ l') v = rd l' (rd l v)
  | [], _ => rfl
  | (k, b) :: l, l' => rd_app _ l l'
/-- what is reduced away is a sum -/
theorem rd_sp (p : Int) : ∀ (l : List (Nat × V)) (v : V), Sp p (l.map (·.2)) fun i => v i - rd l v i
  | [], v => Sp.zero.cast fun i => by simp [rd]
  | (k, b) :: l, v => by
    have h := (rd_sp p l fun i => v i - v k * b i).mono (rows' := ((k, b) :: l).map (·.2)) fun r hr => List.mem_cons_of_mem _ hr
    exact (h.step (v k) (List.mem_cons_self)).cast fun i => by
      show v i - rd l _ i = _
      grind
theorem rd_Z {p : Int} {l : List (Nat × V)} {v : V} (h : Z p v) : Z p (rd l v) := by
  have : ∃ u : V, ∀ i, v i = p * u i := ⟨fun i => v i / p, fun i => (Int.mul_ediv_cancel' (h i)).symm⟩
  obtain ⟨u, e⟩ := this
  rw [funext e, rd_smul]
  exact fun i => Int.dvd_mul_right _ _
theorem rd_kill {p : Int} {l : List (Nat × V)} {rows : List V} {v : V} (h : ∀ r ∈ rows, Z p (rd l r)) (hv : Sp p rows v) : Z p (rd l v) := by
  induction hv with
  | zero => rw [rd_zero]; exact fun i => Int.dvd_zero p
  | step d _ hr ih => rw [rd_add]; exact fun i => Int.dvd_add (ih i) (Int.dvd_mul_of_dvd_right (h _ hr i))
  | modp u _ ih => rw [rd_add]; exact fun i => Int.dvd_add (ih i) (Int.dvd_mul_right _ _)
structure IsBase (p : Int) (rows : List V) (l : List (Nat × V)) : Prop where
  k : ∀ r ∈ rows, Z p (rd l r)
  s : ∀ b ∈ l, Sp p rows b.2
theorem IsBase.iff {p : Int} {rows : List V} {l : List (Nat × V)} (h : IsBase p rows l) {v : V} : Z p (rd l v) ↔ Sp p rows v := by
  refine ⟨fun z => ?_, fun s => rd_kill h.k s⟩
  have h1 : Sp p rows fun i => v i - rd l v i := (rd_sp p l v).trans fun r hr => by
    obtain ⟨b, hb, rfl⟩ := List.mem_map.mp hr
    exact h.s b hb
  exact (h1.add 1 (Z.sp z)).cast fun i => by grind
theorem IsBase.nil (p : Int) : IsBase p [] [] := ⟨fun _ h => (nomatch h), fun _ h => (nomatch h)⟩
theorem IsBase.skip {p : Int} {rows : List V} {l : List (Nat × V)} {r : V} (h : IsBase p rows l) (z : Z p (rd l r)) : IsBase p (rows ++ [r]) l :=
  ⟨fun x hx => (List.mem_append.mp hx).elim (fun hx => h.k x hx) fun hx => by rw [List.mem_singleton.mp hx]; exact z,
   fun b hb => (h.s b hb).mono fun r hr => List.mem_append_left _ hr⟩
theorem IsBase.more {p : Int} {rows : List V} {l : List (Nat × V)} {r b : V} {k : Nat} {c d : Int} {q q' : V} (h : IsBase p rows l)
    (hb : ∀ i, b i = c * (rd l r i + p * q i) + p * q' i) (hc : rd l r k * c = 1 + p * d) : IsBase p (rows ++ [r]) (l ++ [(k, b)]) := by
  have hz : ∀ x, Z p (rd l x) → Z p (rd (l ++ [(k, b)]) x) := fun x z i => by
    rw [rd_app]
    exact Int.dvd_sub (z i) (Int.dvd_mul_of_dvd_left (z k))
  refine ⟨fun x hx => ?_, fun y hy => ?_⟩
  · rcases List.mem_append.mp hx with hx | hx
    · exact hz x (h.k x hx)
    · rw [List.mem_singleton.mp hx]
      intro i
      rw [rd_app]
      show p ∣ rd l r i - rd l r k * b i
      rw [hb i]
      refine ⟨-(d * rd l r i) - rd l r k * c * q i - rd l r k * q' i, ?_⟩
      grind
  · rcases List.mem_append.mp hy with hy | hy
    · exact (h.s y hy).mono fun r hr => List.mem_append_left _ hr
    · rw [List.mem_singleton.mp hy]
      have h1 : Sp p (rows ++ [r]) fun i => r i - rd l r i := (rd_sp p l r).trans fun x hx => by
        obtain ⟨y, hy, rfl⟩ := List.mem_map.mp hx
        exact (h.s y hy).mono fun r hr => List.mem_append_left _ hr
      have h2 : Sp p (rows ++ [r]) (rd l r) := ((Sp.mem (List.mem_append_right rows (List.mem_singleton.mpr rfl))).add (-1) h1).cast fun i => by grind
      exact (((h2.modp q).smul c).modp q').cast fun i => hb i
end LA
set_option linter.all false
namespace LA
abbrev Row := List Int
def fn (r : Row) : V := fun i => r.getD i 0
structure Vec (p : Int) (w : Nat) (r : Row) : Prop where
  l : r.length = w
  b : ∀ x ∈ r, 0 ≤ x ∧ x < p
/-- a row less a multiple of another one -/
def lessr (p : Int) (u : Row) (c : Int) (v : Row) : Row := List.zipWith (fun a b => (a - c * b) % p) u v
def scal (p c : Int) (u : Row) : Row := u.map fun a => (c * a) % p
theorem fn_lt {r : Row} {i : Nat} (h : i < r.length) : fn r i = r[i] := by simp [fn, List.getD, h]
theorem fn_ge {r : Row} {i : Nat} (h : r.length ≤ i) : fn r i = 0 := by simp [fn, List.getD, h]
theorem mod_eq (a p : Int) : a % p = a + p * (-(a / p)) := by
  have := Int.mul_ediv_add_emod a p
  grind
theorem fn_lessr {p : Int} {u v : Row} (c : Int) (h : u.length = v.length) (i : Nat) : fn (lessr p u c v) i = (fn u i - c * fn v i) % p := by
  by_cases hi : i < u.length
  · have h1 : i < (lessr p u c v).length := by simp [lessr]; omega
    rw [fn_lt h1, fn_lt hi, fn_lt (show i < v.length by omega)]
    simp [lessr]
  · have h1 : (lessr p u c v).length ≤ i := by simp [lessr]; omega
    rw [fn_ge h1, fn_ge (show u.length ≤ i by omega), fn_ge (show v.length ≤ i by omega)]
    simp
theorem fn_scal {p : Int} {u : Row} (c : Int) (i : Nat) : fn (scal p c u) i = (c * fn u i) % p := by
  by_cases hi : i < u.length
  · have h1 : i < (scal p c u).length := by simp [scal]; omega
    rw [fn_lt h1, fn_lt hi]; simp [scal]
  · have h1 : (scal p c u).length ≤ i := by simp [scal]; omega
    rw [fn_ge h1, fn_ge (show u.length ≤ i by omega)]; simp
theorem Vec.lessr {p : Int} {w : Nat} {u v : Row} (hp : 0 < p) (hu : Vec p w u) (hv : v.length = w) (c : Int) : Vec p w (lessr p u c v) := by
  refine ⟨by simp [LA.lessr, hu.l, hv], fun x hx => ?_⟩
  obtain ⟨i, hi, rfl⟩ := List.mem_iff_getElem.mp hx
  simp [LA.lessr]
  exact ⟨Int.emod_nonneg _ (by omega), Int.emod_lt_of_pos _ hp⟩
theorem Vec.scal {p : Int} {w : Nat} {u : Row} (hp : 0 < p) (hu : Vec p w u) (c : Int) : Vec p w (scal p c u) := by
  refine ⟨by simp [LA.scal, hu.l], fun x hx => ?_⟩
  simp [LA.scal] at hx
  obtain ⟨a, _, rfl⟩ := hx
  exact ⟨Int.emod_nonneg _ (by omega), Int.emod_lt_of_pos _ hp⟩
theorem Vec.fn {p : Int} {w : Nat} {u : Row} (hp : 0 < p) (hu : Vec p w u) (i : Nat) : 0 ≤ fn u i ∧ fn u i < p := by
  by_cases hi : i < u.length
  · rw [fn_lt hi]; exact hu.b _ (List.getElem_mem hi)
  · rw [fn_ge (by omega)]; omega
theorem Vec.ext {p : Int} {w : Nat} {u v : Row} (hu : Vec p w u) (hv : Vec p w v) (h : ∀ i < w, LA.fn u i = LA.fn v i) : u = v := by
  refine List.ext_getElem (by rw [hu.l, hv.l]) fun i h1 h2 => ?_
  rw [← fn_lt h1, ← fn_lt h2]
  exact h i (by have := hu.l; omega)
theorem small_dvd {p x : Int} (h : 0 ≤ x ∧ x < p) (d : p ∣ x) : x = 0 := by
  obtain ⟨k, rfl⟩ := d
  rcases Int.lt_trichotomy k 0 with hk | hk | hk
  · have : p * k ≤ p * (-1) := Int.mul_le_mul_of_nonneg_left (by omega) (by omega)
    omega
  · rw [hk]; simp
  · have : p * 1 ≤ p * k := Int.mul_le_mul_of_nonneg_left (by omega) (by omega)
    omega
theorem Vec.zero {p : Int} {w : Nat} {u : Row} (hp : 0 < p) (hu : Vec p w u) (z : Z p (LA.fn u)) : ∀ x ∈ u, x = 0 := fun x hx => by
  obtain ⟨i, hi, rfl⟩ := List.mem_iff_getElem.mp hx
  have := z i
  rw [fn_lt hi] at this
  exact small_dvd (hu.b _ (List.getElem_mem hi)) this
theorem Z_of_zero {p : Int} {u : Row} (h : ∀ x ∈ u, x = 0) : Z p (fn u) := fun i => by
  by_cases hi : i < u.length
  · rw [fn_lt hi, h _ (List.getElem_mem hi)]; exact Int.dvd_zero p
  · rw [fn_ge (by omega)]; exact Int.dvd_zero p
/-- own base: reduced, step by step -/
def rest (p : Int) : List (Nat × Row) → Row → Row
  | [], v => v
  | (k, b) :: l, v => rest p l (lessr p v (fn v k) b)
theorem rest_vec {p : Int} {w : Nat} (hp : 0 < p) : ∀ {l : List (Nat × Row)} {v : Row}, (∀ b ∈ l, b.2.length = w) → Vec p w v → Vec p w (rest p l v)
  | [], _, _, h => h
  | (k, b) :: l, v, hl, h => rest_vec (l := l) hp (fun x hx => hl x (List.mem_cons_of_mem _ hx)) (h.lessr hp (hl _ List.mem_cons_self) _)
/-- the same, but for multiples of p -/
theorem rest_rd {p : Int} {w : Nat} (hp : 0 < p) : ∀ {l : List (Nat × Row)} {v : Row} {v' : V}, (∀ b ∈ l, b.2.length = w) → Vec p w v → (∀ i, p ∣ fn v i - v' i) → ∀ i, p ∣ fn (rest p l v) i - rd (l.map fun b => (b.1, fn b.2)) v' i
  | [], _, _, _, _, h => h
  | (k, b) :: l, v, v', hl, hv, h => by
    refine rest_rd (l := l) hp (fun x hx => hl x (List.mem_cons_of_mem _ hx)) (hv.lessr hp (hl (k, b) List.mem_cons_self) (fn v k)) fun i => ?_
    rw [fn_lessr _ (hv.l.trans (hl _ List.mem_cons_self).symm), mod_eq]
    obtain ⟨x, hx⟩ := h i
    obtain ⟨y, hy⟩ := h k
    refine ⟨x - y * fn b i - (fn v i - fn v k * fn b i) / p, ?_⟩
    grind
theorem rest_Z {p : Int} {w : Nat} (hp : 0 < p) {l : List (Nat × Row)} {v : Row} (hl : ∀ b ∈ l, b.2.length = w) (hv : Vec p w v) : (∀ x ∈ rest p l v, x = 0) ↔ Z p (rd (l.map fun b => (b.1, fn b.2)) (fn v)) := by
  have h := rest_rd hp hl hv (v' := fn v) fun i => by simp
  constructor
  · intro z i
    have := Z_of_zero (p := p) z i
    have h2 := Int.dvd_sub this (h i)
    have e : fn (rest p l v) i - (fn (rest p l v) i - rd (l.map fun b => (b.1, fn b.2)) (fn v) i) = rd (l.map fun b => (b.1, fn b.2)) (fn v) i := by omega
    rwa [e] at h2
  · intro z
    refine (rest_vec hp hl hv).zero hp fun i => ?_
    have h2 := Int.dvd_add (h i) (z i)
    have e : fn (rest p l v) i - rd (l.map fun b => (b.1, fn b.2)) (fn v) i + rd (l.map fun b => (b.1, fn b.2)) (fn v) i = fn (rest p l v) i := by omega
    rwa [e] at h2
/-- sums of rows, told of rows of numbers -/
def SpL (p : Int) (rows : List Row) (v : Row) : Prop := Sp p (rows.map fn) (fn v)
structure BaseL (p : Int) (w : Nat) (rows : List Row) (l : List (Nat × Row)) : Prop where
  v : ∀ b ∈ l, Vec p w b.2
  h : IsBase p (rows.map fn) (l.map fun b => (b.1, fn b.2))
theorem BaseL.iff {p : Int} {w : Nat} {rows : List Row} {l : List (Nat × Row)} (hp : 0 < p) (h : BaseL p w rows l) {v : Row} (hv : Vec p w v) : (∀ x ∈ rest p l v, x = 0) ↔ SpL p rows v :=
  (rest_Z hp (fun b hb => (h.v b hb).l) hv).trans h.h.iff
theorem BaseL.nil (p : Int) (w : Nat) : BaseL p w [] [] := ⟨fun _ h => (nomatch h), IsBase.nil p⟩
theorem BaseL.skip {p : Int} {w : Nat} {rows : List Row} {l : List (Nat × Row)} {r : Row} (hp : 0 < p) (h : BaseL p w rows l) (hr : Vec p w r) (z : ∀ x ∈ rest p l r, x = 0) : BaseL p w (rows ++ [r]) l := by
  refine ⟨h.v, ?_⟩
  rw [List.map_append]
  exact h.h.skip ((rest_Z hp (fun b hb => (h.v b hb).l) hr).mp z)
theorem BaseL.more {p : Int} {w : Nat} {rows : List Row} {l : List (Nat × Row)} {r : Row} {k : Nat} {c : Int} (hp : 0 < p) (h : BaseL p w rows l) (hr : Vec p w r) (hc : (fn (rest p l r) k * c) % p = 1) :
    BaseL p w (rows ++ [r]) (l ++ [(k, scal p c (rest p l r))]) := by
  have hl : ∀ b ∈ l, b.2.length = w := fun b hb => (h.v b hb).l
  have hv := rest_vec hp hl hr
  refine ⟨fun b hb => ?_, ?_⟩
  · rcases List.mem_append.mp hb with hb | hb
    · exact h.v b hb
    · rw [List.mem_singleton.mp hb]; exact hv.scal hp c
  · rw [List.map_append, List.map_append]
    have hd := rest_rd hp hl hr (v' := fn r) fun i => by simp
    obtain ⟨q, hq⟩ : ∃ q : V, ∀ i, fn (rest p l r) i - rd (l.map fun b => (b.1, fn b.2)) (fn r) i = p * q i := ⟨fun i => (fn (rest p l r) i - rd (l.map fun b => (b.1, fn b.2)) (fn r) i) / p, fun i => (Int.mul_ediv_cancel' (hd i)).symm⟩
    refine h.h.more (c := c) (d := (fn (rest p l r) k * c) / p - q k * c) (q := q) (q' := fun i => -((c * fn (rest p l r) i) / p)) (fun i => ?_) ?_
    · show fn (scal p c (rest p l r)) i = _
      rw [fn_scal, mod_eq]
      have := hq i
      grind
    · have := hq k
      have h2 := Int.mul_ediv_add_emod (fn (rest p l r) k * c) p
      grind
end LA
set_option linter.all false
namespace LA
/-- rows being brought: left, found, places -/
structure BS where
  left : List Row
  found : List Row
  places : List Nat
def bstep (p : Int) (iv : Int → Int) (s : BS) (k : Nat) : BS := match s.left.findIdx? fun r => fn r k != 0 with
  | none => s
  | some j => let r := s.left.getD j []
    let lead := scal p (iv (fn r k)) r
    ⟨(s.left.eraseIdx j).map fun u => lessr p u (fn u k) lead, (s.found.map fun u => lessr p u (fn u k) lead) ++ [lead], s.places ++ [k]⟩
def brS (p : Int) (iv : Int → Int) (rows : List Row) (w : Nat) : BS := (List.range w).foldl (bstep p iv) ⟨rows, [], []⟩
structure BOk (p : Int) (W : Nat) (orig : List Row) (k : Nat) (s : BS) : Prop where
  vec : ∀ r ∈ s.found ++ s.left, Vec p W r
  sub : ∀ r ∈ s.found ++ s.left, SpL p orig r
  sup : ∀ r ∈ orig, SpL p (s.found ++ s.left) r
  len : s.found.length = s.places.length
  lt : ∀ x ∈ s.places, x < k
  asc : s.places.Pairwise (· < ·)
  del : ∀ (i j : Nat) (hi : i < s.found.length) (hj : j < s.places.length), fn s.found[i] s.places[j] = if i = j then 1 else 0
  zero : ∀ r ∈ s.left, ∀ i < k, fn r i = 0
theorem SpL.lessr {p : Int} {W : Nat} {rows : List Row} {u v : Row} {c : Int} (hu : SpL p rows u) (hv : SpL p rows v) (h : u.length = v.length) : SpL p rows (lessr p u c v) :=
  ((Sp.add (-c) hu hv).modp fun i => -((fn u i - c * fn v i) / p)).cast fun i => by
    rw [fn_lessr c h, mod_eq]; grind
theorem SpL.scal {p : Int} {rows : List Row} {u : Row} {c : Int} (hu : SpL p rows u) : SpL p rows (scal p c u) :=
  ((Sp.smul c hu).modp fun i => -((c * fn u i) / p)).cast fun i => by
    rw [fn_scal c, mod_eq]
theorem SpL.mem {p : Int} {rows : List Row} {u : Row} (h : u ∈ rows) : SpL p rows u := Sp.mem (List.mem_map_of_mem h)
theorem SpL.trans {p : Int} {rows rows' : List Row} {v : Row} (h : ∀ r ∈ rows, SpL p rows' r) (hv : SpL p rows v) : SpL p rows' v := Sp.trans (fun r hr => by
  obtain ⟨x, hx, rfl⟩ := List.mem_map.mp hr
  exact h x hx) hv
/-- what was lessened, back again -/
theorem SpL.unless {p : Int} {rows : List Row} {u v : Row} {c : Int} (hu : SpL p rows (LA.lessr p u c v)) (hv : SpL p rows v) (h : u.length = v.length) : SpL p rows u :=
  ((Sp.add c hu hv).modp fun i => (fn u i - c * fn v i) / p).cast fun i => by
    rw [fn_lessr c h, mod_eq]; grind
theorem SpL.unscal {p : Int} {rows : List Row} {u : Row} {c d : Int} (hu : SpL p rows (LA.scal p c u)) (hd : (d * c) % p = 1) : SpL p rows u :=
  ((Sp.smul d hu).modp fun i => d * ((c * fn u i) / p) - (d * c / p) * fn u i).cast fun i => by
    rw [fn_scal c, mod_eq]
    have := Int.mul_ediv_add_emod (d * c) p
    grind
theorem mod_small {p a : Int} (h : 0 ≤ a ∧ a < p) : a % p = a := Int.emod_eq_of_lt h.1 h.2
theorem bstep_ok {p : Int} {iv : Int → Int} {W k : Nat} {orig : List Row} {s : BS} (hp : 2 ≤ p) (hiv : ∀ a, 1 ≤ a ∧ a < p → (a * iv a) % p = 1) (hk : k < W) (h : BOk p W orig k s) : BOk p W orig (k + 1) (bstep p iv s k) := by
  unfold bstep
  cases e : s.left.findIdx? fun r => fn r k != 0 with
  | none =>
    have hz := List.findIdx?_eq_none_iff.mp e
    exact { h with
      lt := fun x hx => Nat.lt_succ_of_lt (h.lt x hx)
      zero := fun r hr i hi => by
        rcases Nat.lt_succ_iff_lt_or_eq.mp hi with hi | rfl
        · exact h.zero r hr i hi
        · simpa using hz r hr }
  | some j =>
    obtain ⟨hj, hn, _⟩ := List.findIdx?_eq_some_iff_getElem.mp e
    have er : s.left.getD j [] = s.left[j] := by simp [List.getD, hj]
    show BOk p W orig (k + 1) ⟨_, _, _⟩
    rw [er]
    generalize hr : s.left[j] = r at hn
    have hrm : r ∈ s.left := hr ▸ List.getElem_mem hj
    have vr := h.vec r (List.mem_append_right _ hrm)
    have hb := vr.fn (show 0 < p by omega) k
    have hn' : fn r k ≠ 0 := by simpa using hn
    have hc := hiv (fn r k) ⟨by omega, hb.2⟩
    generalize hlead : scal p (iv (fn r k)) r = lead
    have vl : Vec p W lead := hlead ▸ vr.scal (by omega) _
    have lk : fn lead k = 1 := by
      rw [← hlead, fn_scal, Int.mul_comm]; exact hc
    have lz : ∀ i < k, fn lead i = 0 := fun i hi => by
      rw [← hlead, fn_scal, h.zero r hrm i hi]; simp
    have sl : SpL p orig lead := hlead ▸ (h.sub r (List.mem_append_right _ hrm)).scal
    have key : ∀ u, Vec p W u → ∀ i, fn (lessr p u (fn u k) lead) i = (fn u i - fn u k * fn lead i) % p := fun u hu i => fn_lessr _ (by rw [hu.l, vl.l]) i
    have key0 : ∀ u, Vec p W u → fn (lessr p u (fn u k) lead) k = 0 := fun u hu => by rw [key u hu, lk]; simp
    have hme : ∀ u ∈ s.left.eraseIdx j, u ∈ s.left := fun u hu => List.mem_of_mem_eraseIdx hu
    have vec : ∀ u ∈ (s.found.map fun u => lessr p u (fn u k) lead) ++ [lead] ++ ((s.left.eraseIdx j).map fun u => lessr p u (fn u k) lead), Vec p W u := fun u hu => by
      simp only [List.mem_append, List.mem_map, List.mem_singleton] at hu
      rcases hu with (⟨x, hx, rfl⟩ | rfl) | ⟨x, hx, rfl⟩
      · exact (h.vec x (List.mem_append_left _ hx)).lessr (by omega) vl.l _
      · exact vl
      · exact (h.vec x (List.mem_append_right _ (hme x hx))).lessr (by omega) vl.l _
    have ml : lead ∈ (s.found.map fun u => lessr p u (fn u k) lead) ++ [lead] ++ ((s.left.eraseIdx j).map fun u => lessr p u (fn u k) lead) := by simp
    refine ⟨vec, fun u hu => ?_, fun u hu => (h.sup u hu).trans fun x hx => ?_, by simp [h.len], fun x hx => ?_, ?_, fun a b ha hb' => ?_, fun u hu i hi => ?_⟩
    · simp only [List.mem_append, List.mem_map, List.mem_singleton] at hu
      rcases hu with (⟨x, hx, rfl⟩ | rfl) | ⟨x, hx, rfl⟩
      · exact SpL.lessr (W := W) (h.sub x (List.mem_append_left _ hx)) sl (by rw [(h.vec x (List.mem_append_left _ hx)).l, vl.l])
      · exact sl
      · have hx := hme x hx
        exact SpL.lessr (W := W) (h.sub x (List.mem_append_right _ hx)) sl (by rw [(h.vec x (List.mem_append_right _ hx)).l, vl.l])
    · have vx := h.vec x hx
      by_cases ex : x = r
      · rw [ex]
        refine SpL.unscal (c := iv (fn r k)) (d := fn r k) ?_ hc
        rw [hlead]
        exact SpL.mem ml
      · refine SpL.unless (c := fn x k) (v := lead) (SpL.mem ?_) (SpL.mem ml) (by rw [vx.l, vl.l])
        simp only [List.mem_append, List.mem_map, List.mem_singleton]
        rcases List.mem_append.mp hx with hx | hx
        · exact .inl (.inl ⟨x, hx, rfl⟩)
        · refine .inr ⟨x, ?_, rfl⟩
          obtain ⟨i, hi, rfl⟩ := List.mem_iff_getElem.mp hx
          refine List.mem_eraseIdx_iff_getElem.mpr ⟨i, hi, fun e => ex ?_, rfl⟩
          subst e; exact hr
    · rcases List.mem_append.mp hx with hx | hx
      · exact Nat.lt_succ_of_lt (h.lt x hx)
      · rw [List.mem_singleton.mp hx]; exact Nat.lt_succ_self k
    · exact List.pairwise_append.mpr ⟨h.asc, List.pairwise_singleton _ _, fun a ha b hb => by rw [List.mem_singleton.mp hb]; exact h.lt a ha⟩
    · have ha' : a < s.found.length + 1 := by simpa using ha
      have hb2 : b < s.places.length + 1 := by simpa using hb'
      simp only [List.getElem_append, List.length_map, List.getElem_map]
      by_cases h1 : a < s.found.length
      · have vx := h.vec _ (List.mem_append_left _ (List.getElem_mem h1))
        rw [dif_pos h1]
        by_cases h2 : b < s.places.length
        · rw [dif_pos h2, key _ vx, lz _ (h.lt _ (List.getElem_mem h2)), h.del a b h1 h2]
          simp only [Int.mul_zero, Int.sub_zero]
          split
          · exact mod_small (by omega)
          · exact mod_small (by omega)
        · rw [dif_neg h2, List.getElem_singleton, key0 _ vx, if_neg (by have := h.len; omega)]
      · rw [dif_neg h1, List.getElem_singleton]
        by_cases h2 : b < s.places.length
        · rw [dif_pos h2, lz _ (h.lt _ (List.getElem_mem h2)), if_neg (by have := h.len; omega)]
        · rw [dif_neg h2, List.getElem_singleton, lk, if_pos (by have := h.len; omega)]
    · obtain ⟨x, hx, rfl⟩ := List.mem_map.mp hu
      have hx := hme x hx
      have vx := h.vec x (List.mem_append_right _ hx)
      rcases Nat.lt_succ_iff_lt_or_eq.mp hi with hi | rfl
      · rw [key _ vx, lz i hi, h.zero x hx i hi]; simp
      · exact key0 _ vx
theorem brS_ok {p : Int} {iv : Int → Int} {W w : Nat} {orig : List Row} (hp : 2 ≤ p) (hiv : ∀ a, 1 ≤ a ∧ a < p → (a * iv a) % p = 1) (hw : w ≤ W) (h : ∀ r ∈ orig, Vec p W r) : BOk p W orig w (brS p iv orig w) := by
  unfold brS
  induction w with
  | zero => exact ⟨h, fun r hr => SpL.mem hr, fun r hr => SpL.mem hr, rfl, fun _ h => (nomatch h), .nil, fun i _ hi _ => absurd hi (by simp), fun _ _ i hi => absurd hi (by omega)⟩
  | succ w ih =>
    rw [List.range_succ, List.foldl_append]
    exact bstep_ok hp hiv (by omega) (ih (by omega))
end LA
set_option linter.all false
namespace LA
theorem fn_app_lt {u : Row} {c : Int} {i : Nat} (h : i < u.length) : fn (u ++ [c]) i = fn u i := by
  rw [fn_lt (by simp; omega), fn_lt h]; simp [List.getElem_append, h]
theorem fn_app_eq {u : Row} {c : Int} : fn (u ++ [c]) u.length = c := by
  rw [fn_lt (by simp)]; simp
theorem fn_app_eq' {u : Row} {c : Int} {w : Nat} (h : u.length = w) : fn (u ++ [c]) w = c := by subst h; exact fn_app_eq
/-- with -1 behind -/
def ext (x : V) (w : Nat) : V := fun i => if i = w then -1 else x i
theorem dN_ext {u : V} (x : V) (w : Nat) : dN u (ext x w) (w + 1) = dN u x w - u w := by
  show dN u (ext x w) w + u w * ext x w w = _
  rw [dN_congr (fun _ _ => rfl) (fun i hi => show ext x w i = x i by simp [ext]; omega)]
  simp [ext]; omega
theorem dN_app {r : Row} {c : Int} (x : V) {w : Nat} (h : r.length = w) : dN (fn (r ++ [c])) (ext x w) (w + 1) = dN (fn r) x w - c := by
  rw [dN_ext, fn_app_eq' h]
  rw [dN_congr (fun i hi => fn_app_lt (by omega)) (fun _ _ => rfl)]
theorem dN_single {u x : V} {c : Int} {a : Nat} : ∀ {w : Nat}, (∀ k < w, u k * x k = if k = a then c else 0) → dN u x w = if a < w then c else 0
  | 0, _ => by simp [dN]
  | w + 1, h => by
    simp only [dN]
    rw [dN_single (a := a) (c := c) fun k hk => h k (by omega), h w (by omega)]
    by_cases h1 : a < w
    · rw [if_pos h1, if_neg (by omega), if_pos (by omega)]; omega
    · by_cases h2 : w = a
      · rw [if_neg h1, if_pos h2, if_pos (by omega)]; omega
      · rw [if_neg h1, if_neg h2, if_neg (by omega)]; rfl
def ansOf (w : Nat) (q : List (Row × Nat)) (a : Row) : Row := q.foldl (fun a q => a.set q.2 (fn q.1 w)) a
theorem fn_set {a : Row} {k : Nat} {c : Int} (h : k < a.length) (i : Nat) : fn (a.set k c) i = if i = k then c else fn a i := by
  by_cases hi : i < a.length
  · rw [fn_lt (by simpa using hi), fn_lt hi, List.getElem_set]
    by_cases e : i = k
    · subst e; simp
    · rw [if_neg (fun e' => e e'.symm), if_neg e]
  · rw [fn_ge (by simp; omega), fn_ge (by omega), if_neg (by omega)]
theorem ansOf_len (w : Nat) : ∀ (q : List (Row × Nat)) (a : Row), (ansOf w q a).length = a.length
  | [], a => rfl
  | x :: q, a => (ansOf_len w q (a.set x.2 (fn x.1 w))).trans (by simp)
theorem ansOf_out (w : Nat) : ∀ (q : List (Row × Nat)) (a : Row) (k : Nat), (∀ x ∈ q, x.2 ≠ k ∧ x.2 < a.length) → fn (ansOf w q a) k = fn a k
  | [], a, k, _ => rfl
  | x :: q, a, k, h => by
    obtain ⟨h1, h2⟩ := h x List.mem_cons_self
    have := ansOf_out w q (a.set x.2 (fn x.1 w)) k fun y hy => by
      have := h y (List.mem_cons_of_mem _ hy)
      simpa using this
    rw [show ansOf w (x :: q) a = ansOf w q (a.set x.2 (fn x.1 w)) from rfl, this, fn_set h2, if_neg (fun e => h1 e.symm)]
theorem ansOf_in (w : Nat) : ∀ (q : List (Row × Nat)) (a : Row), (q.map (·.2)).Pairwise (· < ·) → (∀ x ∈ q, x.2 < a.length) → ∀ x ∈ q, fn (ansOf w q a) x.2 = fn x.1 w
  | [], a, _, _, x, hx => (nomatch hx)
  | y :: q, a, hp, hl, x, hx => by
    obtain ⟨h1, h2⟩ := List.pairwise_cons.mp hp
    have hl' : ∀ z ∈ q, z.2 < (a.set y.2 (fn y.1 w)).length := fun z hz => by simpa using hl z (List.mem_cons_of_mem _ hz)
    rw [show ansOf w (y :: q) a = ansOf w q (a.set y.2 (fn y.1 w)) from rfl]
    rcases List.mem_cons.mp hx with rfl | hx
    · rw [ansOf_out w q _ _ fun z hz => ⟨fun e => Nat.lt_irrefl _ (e ▸ h1 z.2 (List.mem_map_of_mem (f := fun x : Row × Nat => x.2) hz)), hl' z hz⟩, fn_set (hl x List.mem_cons_self), if_pos rfl]
    · exact ansOf_in w q _ h2 hl' x hx
theorem ansOf_vec {p : Int} {w W : Nat} (hp : 0 < p) : ∀ (q : List (Row × Nat)) (a : Row), (∀ x ∈ q, Vec p W x.1) → (∀ x ∈ a, 0 ≤ x ∧ x < p) → ∀ x ∈ ansOf w q a, 0 ≤ x ∧ x < p
  | [], a, _, h => h
  | y :: q, a, hq, h => ansOf_vec hp q _ (fun x hx => hq x (List.mem_cons_of_mem _ hx)) fun x hx => by
    rcases List.mem_or_eq_of_mem_set hx with hx | rfl
    · exact h x hx
    · exact (hq y List.mem_cons_self).fn hp w
def told (rows : List Row) (rights : List Int) : List Row := List.zipWith (fun r x => r ++ [x]) rows rights
def some_answer (p : Int) (iv : Int → Int) (rows : List Row) (rights : List Int) (w : Nat) : Option Row :=
  let s := brS p iv (told rows rights) w
  if (s.left.any fun r => fn r w != 0) = true then none else some (ansOf w (s.found.zip s.places) (List.replicate w 0))
structure Sys (p : Int) (w : Nat) (rows : List Row) (rights : List Int) : Prop where
  v : ∀ r ∈ rows, Vec p w r
  r : ∀ x ∈ rights, 0 ≤ x ∧ x < p
  l : rows.length = rights.length
/-- x answers -/
def Ans (p : Int) (rows : List Row) (rights : List Int) (w : Nat) (x : V) : Prop := ∀ q ∈ rows.zip rights, p ∣ dN (fn q.1) x w - q.2
theorem mem_told {rows : List Row} {rights : List Int} {r : Row} (h : r ∈ told rows rights) : ∃ q ∈ rows.zip rights, r = q.1 ++ [q.2] := by
  unfold told at h
  rw [← List.map_uncurry_zip_eq_zipWith] at h
  obtain ⟨q, hq, rfl⟩ := List.mem_map.mp h
  exact ⟨q, hq, rfl⟩
theorem told_mem {rows : List Row} {rights : List Int} {q : Row × Int} (h : q ∈ rows.zip rights) : q.1 ++ [q.2] ∈ told rows rights := by
  unfold told
  rw [← List.map_uncurry_zip_eq_zipWith]
  exact List.mem_map.mpr ⟨q, h, rfl⟩
theorem Sys.told {p : Int} {w : Nat} {rows : List Row} {rights : List Int} (h : Sys p w rows rights) : ∀ r ∈ told rows rights, Vec p (w + 1) r := fun r hr => by
  obtain ⟨q, hq, rfl⟩ := mem_told hr
  obtain ⟨h1, h2⟩ := List.of_mem_zip hq
  have hv := h.v _ h1
  refine ⟨by simp [hv.l], fun x hx => ?_⟩
  rcases List.mem_append.mp hx with hx | hx
  · exact hv.b x hx
  · rw [List.mem_singleton.mp hx]; exact h.r _ h2
section
variable {p : Int} {iv : Int → Int} {w : Nat} {rows : List Row} {rights : List Int}
theorem sa_some (hp : 2 ≤ p) (hiv : ∀ a, 1 ≤ a ∧ a < p → (a * iv a) % p = 1) (h : Sys p w rows rights) {a : Row} (e : some_answer p iv rows rights w = some a) : Vec p w a ∧ Ans p rows rights w (fn a) := by
  have hb := brS_ok (W := w + 1) (w := w) hp hiv (by omega) h.told
  unfold some_answer at e
  generalize brS p iv (told rows rights) w = s at hb e
  have e : (if (s.left.any fun r => fn r w != 0) = true then none else some (ansOf w (s.found.zip s.places) (List.replicate w 0))) = some a := e
  split at e
  · cases e
  · rename_i hz
    have e := Option.some.inj e
    have hz : ∀ r ∈ s.left, fn r w = 0 := fun r hr => by
      by_cases e : fn r w = 0
      · exact e
      · exact absurd (List.any_eq_true.mpr ⟨r, hr, by simpa using e⟩) hz
    have hzm : ((s.found.zip s.places).map (·.2)).Pairwise (· < ·) := by
      rw [List.map_snd_zip (by rw [hb.len]; omega)]; exact hb.asc
    have hzl : ∀ x ∈ s.found.zip s.places, x.2 < (List.replicate w (0 : Int)).length := fun x hx => by
      rw [List.length_replicate]; exact hb.lt _ (List.of_mem_zip hx).2
    have va : Vec p w a := by
      subst e
      refine ⟨by rw [ansOf_len]; simp, ansOf_vec (W := w + 1) (by omega) _ _ (fun x hx => hb.vec _ (List.mem_append_left _ (List.of_mem_zip hx).1)) fun x hx => ?_⟩
      rw [(List.mem_replicate.mp hx).2]; omega
    refine ⟨va, fun q hq => ?_⟩
    rw [← dN_app (fn a) (h.v _ (List.of_mem_zip hq).1).l]
    refine Sp.kill (fun r hr => ?_) (hb.sup _ (told_mem hq))
    obtain ⟨u, hu, rfl⟩ := List.mem_map.mp hr
    have hd : dN (fn u) (ext (fn a) w) (w + 1) = 0 := by
      rw [dN_ext]
      rcases List.mem_append.mp hu with hu | hu
      · obtain ⟨i, hi, rfl⟩ := List.mem_iff_getElem.mp hu
        have hi2 : i < s.places.length := by have := hb.len; omega
        rw [dN_single (a := s.places[i]) (c := fn s.found[i] w) fun k hk => ?_, if_pos (hb.lt _ (List.getElem_mem hi2))]
        · omega
        · subst e
          by_cases hk2 : k ∈ s.places
          · obtain ⟨j, hj, rfl⟩ := List.mem_iff_getElem.mp hk2
            have hj2 : j < s.found.length := by have := hb.len; omega
            have hm : (s.found[j], s.places[j]) ∈ s.found.zip s.places := by
              refine List.mem_iff_getElem.mpr ⟨j, by simp; omega, by simp⟩
            rw [hb.del i j hi hj, ansOf_in w _ _ hzm hzl _ hm]
            by_cases eij : i = j
            · subst eij; simp
            · rw [if_neg eij, if_neg]
              · simp
              · intro e
                have := List.pairwise_iff_getElem.mp hb.asc
                rcases Nat.lt_or_gt_of_ne eij with h1 | h1
                · have := this i j hi2 hj h1; omega
                · have := this j i hj hi2 h1; omega
          · have hn : fn (ansOf w (s.found.zip s.places) (List.replicate w 0)) k = 0 := by
              rw [ansOf_out]
              · by_cases hk3 : k < w
                · rw [fn_lt (by simpa using hk3)]; simp
                · rw [fn_ge (by simp; omega)]
              · intro x hx
                exact ⟨fun e => hk2 (e ▸ (List.of_mem_zip hx).2), hzl x hx⟩
            have hk3 : ¬ k = s.places[i] := fun e => hk2 (e ▸ List.getElem_mem hi2)
            rw [hn, if_neg hk3]; simp
      · rw [hz u hu, dN_congr (v := fun _ => 0) (y := fn a) (fun i hi => hb.zero u hu i hi) (fun _ _ => rfl), dN_zero]; rfl
    rw [hd]; exact Int.dvd_zero p
theorem sa_none (hp : 2 ≤ p) (hiv : ∀ a, 1 ≤ a ∧ a < p → (a * iv a) % p = 1) (h : Sys p w rows rights) (e : some_answer p iv rows rights w = none) : ∃ v, Vec p (w + 1) v ∧ SpL p (told rows rights) v ∧ (∀ i < w, fn v i = 0) ∧ fn v w ≠ 0 := by
  have hb := brS_ok (W := w + 1) (w := w) hp hiv (by omega) h.told
  unfold some_answer at e
  generalize brS p iv (told rows rights) w = s at hb e
  have e : (if (s.left.any fun r => fn r w != 0) = true then none else some (ansOf w (s.found.zip s.places) (List.replicate w 0))) = none := e
  split at e
  · rename_i hz
    obtain ⟨r, hr, hn⟩ := List.any_eq_true.mp hz
    exact ⟨r, hb.vec r (List.mem_append_right _ hr), hb.sub r (List.mem_append_right _ hr), fun i hi => hb.zero r hr i hi, by simpa using hn⟩
  · cases e
theorem sa_none_no (hp : 2 ≤ p) (hiv : ∀ a, 1 ≤ a ∧ a < p → (a * iv a) % p = 1) (h : Sys p w rows rights) (e : some_answer p iv rows rights w = none) (x : V) : ¬ Ans p rows rights w x := fun hx => by
  obtain ⟨v, vv, hs, hz, hn⟩ := sa_none hp hiv h e
  have hk : p ∣ dN (fn v) (ext x w) (w + 1) := Sp.kill (fun r hr => by
    obtain ⟨u, hu, rfl⟩ := List.mem_map.mp hr
    obtain ⟨q, hq, rfl⟩ := mem_told hu
    rw [dN_app x (h.v _ (List.of_mem_zip hq).1).l]
    exact hx q hq) hs
  rw [dN_ext, dN_congr (v := fun _ => 0) (y := x) (fun i hi => hz i hi) (fun _ _ => rfl), dN_zero] at hk
  have hb := vv.fn (by omega) w
  have : p ∣ fn v w := by
    have := Int.dvd_neg.mpr hk
    have e2 : -(0 - fn v w) = fn v w := by omega
    rwa [e2] at this
  exact hn (small_dvd hb this)
end
/-! ### sums by weights -/
/-- the sum of rows by weights, at a place -/
def cmb (rows : List Row) (c : V) (i : Nat) : Int := dN (fun k => fn (rows.getD k []) i) c rows.length
theorem dN_add_r (u x y : V) (c : Int) (w : Nat) : dN u (fun i => x i + c * y i) w = dN u x w + c * dN u y w := by
  rw [dN_comm, dN_add, dN_comm x, dN_comm y]
theorem dN_delta (u : V) (a w : Nat) : dN u (fun k => if k = a then 1 else 0) w = if a < w then u a else 0 := by
  refine dN_single fun k _ => ?_
  by_cases e : k = a
  · subst e; simp
  · simp [e]
theorem sp_weights {p : Int} {rows : List Row} {v : V} (h : Sp p (rows.map fn) v) : ∃ c : V, ∀ i, p ∣ cmb rows c i - v i := by
  induction h with
  | zero => exact ⟨fun _ => 0, fun i => by unfold cmb; rw [dN_comm, dN_zero]; exact ⟨0, by simp⟩⟩
  | @step v r d _ hr ih =>
    obtain ⟨c, hc⟩ := ih
    obtain ⟨u, hu, rfl⟩ := List.mem_map.mp hr
    obtain ⟨j, hj, rfl⟩ := List.mem_iff_getElem.mp hu
    refine ⟨fun k => c k + d * (if k = j then 1 else 0), fun i => ?_⟩
    unfold cmb
    rw [dN_add_r, dN_delta, if_pos hj]
    have e : fn (rows.getD j []) i = fn rows[j] i := by simp [List.getD, hj]
    rw [e]
    have := hc i
    unfold cmb at this
    have e2 : dN (fun k => fn (rows.getD k []) i) c rows.length + d * fn rows[j] i - (v i + d * fn rows[j] i) = dN (fun k => fn (rows.getD k []) i) c rows.length - v i := by omega
    rw [e2]; exact this
  | @modp v u _ ih =>
    obtain ⟨c, hc⟩ := ih
    refine ⟨c, fun i => ?_⟩
    have e : cmb rows c i - (v i + p * u i) = cmb rows c i - v i - p * u i := by omega
    rw [e]; exact Int.dvd_sub (hc i) (Int.dvd_mul_right _ _)
theorem weights_sp {p : Int} (rows : List Row) (c : V) : ∀ n ≤ rows.length, Sp p (rows.map fn) fun i => dN (fun k => fn (rows.getD k []) i) c n
  | 0, _ => Sp.zero
  | n + 1, h => ((weights_sp rows c n (by omega)).step (c n) (List.mem_map_of_mem (f := fn) (List.getElem_mem (l := rows) (n := n) (by omega)))).cast fun i => by
    show dN (fun k => fn (rows.getD k []) i) c n + fn (rows.getD n []) i * c n = _
    have e : rows.getD n [] = rows[n] := by simp [List.getD, show n < rows.length by omega]
    rw [e, Int.mul_comm]
/-- columns -/
def cols (rows : List Row) (w : Nat) : List Row := (List.range w).map fun i => rows.map fun r => fn r i
theorem fn_col (rows : List Row) (i k : Nat) : fn (rows.map fun r => fn r i) k = fn (rows.getD k []) i := by
  by_cases h : k < rows.length
  · rw [fn_lt (by simpa using h)]; simp [List.getD, h]
  · rw [fn_ge (by simp; omega)]; simp [List.getD, show rows.length ≤ k by omega, fn]
section
variable {p : Int} {iv : Int → Int} {w : Nat} {rows : List Row} {goal : Row}
theorem sys_cols (hp : 2 ≤ p) (hr : ∀ r ∈ rows, Vec p w r) (hg : Vec p w goal) : Sys p rows.length (cols rows w) goal :=
  ⟨fun r h => by
    obtain ⟨i, hi, rfl⟩ := List.mem_map.mp h
    refine ⟨by simp, fun x hx => ?_⟩
    obtain ⟨r, hrm, rfl⟩ := List.mem_map.mp hx
    exact (hr r hrm).fn (by omega) i, hg.b, by simp [cols, hg.l]⟩
theorem ans_cols {p : Int} {w : Nat} {rows : List Row} {goal : Row} (hg : goal.length = w) (x : V) : Ans p (cols rows w) goal rows.length x ↔ ∀ i < w, p ∣ cmb rows x i - fn goal i := by
  have key : ∀ i, dN (fn (rows.map fun r => fn r i)) x rows.length = cmb rows x i := fun i => dN_congr (fun k _ => fn_col rows i k) fun _ _ => rfl
  constructor
  · intro h i hi
    have := h (rows.map (fun r => fn r i), goal[i]'(by omega)) (List.mem_iff_getElem.mpr ⟨i, by simp [cols]; omega, by simp [cols]⟩)
    rw [fn_lt (by omega), ← key]; exact this
  · intro h q hq
    obtain ⟨i, hi, rfl⟩ := List.mem_iff_getElem.mp hq
    have hi : i < w := by simp [cols] at hi; omega
    have := h i hi
    rw [fn_lt (by omega), ← key] at this
    simpa [cols] using this
def weights_for (p : Int) (iv : Int → Int) (rows : List Row) (goal : Row) (w : Nat) : Option Row := some_answer p iv (cols rows w) goal rows.length
theorem wf_some (hp : 2 ≤ p) (hiv : ∀ a, 1 ≤ a ∧ a < p → (a * iv a) % p = 1) (hr : ∀ r ∈ rows, Vec p w r) (hg : Vec p w goal) {a : Row} (e : weights_for p iv rows goal w = some a) : Vec p rows.length a ∧ ∀ i < w, p ∣ cmb rows (fn a) i - fn goal i := by
  have h := sa_some hp hiv (sys_cols hp hr hg) e
  exact ⟨h.1, (ans_cols hg.l _).mp h.2⟩
theorem cmb_ge {rows : List Row} (hr : ∀ r ∈ rows, r.length = w) {i : Nat} (hi : w ≤ i) (c : V) : cmb rows c i = 0 := by
  unfold cmb
  rw [dN_congr (v := fun _ => 0) (y := c) (fun k hk => ?_) (fun _ _ => rfl), dN_zero]
  have e : rows.getD k [] = rows[k] := by simp [List.getD, hk]
  show fn (rows.getD k []) i = 0
  rw [e, fn_ge]
  rw [hr _ (List.getElem_mem hk)]; exact hi
theorem sp_of_weights (hr : ∀ r ∈ rows, r.length = w) (hg : goal.length = w) {c : V} (h : ∀ i < w, p ∣ cmb rows c i - fn goal i) : SpL p rows goal := by
  have h1 := weights_sp (p := p) rows c rows.length (Nat.le_refl _)
  refine (h1.modp fun i => -((cmb rows c i - fn goal i) / p)).cast fun i => ?_
  show fn goal i = cmb rows c i + p * -((cmb rows c i - fn goal i) / p)
  by_cases hi : i < w
  · have := Int.mul_ediv_cancel' (h i hi); grind
  · rw [cmb_ge hr (by omega), fn_ge (by omega)]; simp
theorem wf_iff (hp : 2 ≤ p) (hiv : ∀ a, 1 ≤ a ∧ a < p → (a * iv a) % p = 1) (hr : ∀ r ∈ rows, Vec p w r) (hg : Vec p w goal) : (weights_for p iv rows goal w).isSome = true ↔ SpL p rows goal := by
  constructor
  · intro h
    obtain ⟨a, ha⟩ := Option.isSome_iff_exists.mp h
    exact sp_of_weights (fun r h => (hr r h).l) hg.l (wf_some hp hiv hr hg ha).2
  · intro h
    obtain ⟨c, hc⟩ := sp_weights h
    cases e : weights_for p iv rows goal w with
    | some a => rfl
    | none => exact absurd ((ans_cols hg.l c).mpr fun i _ => hc i) (sa_none_no hp hiv (sys_cols hp hr hg) e c)
/-! ### parting rows -/
def parting_for (p : Int) (iv : Int → Int) (rows : List Row) (goal : Row) (w : Nat) : Option Row := some_answer p iv (rows ++ [goal]) (List.replicate rows.length 0 ++ [1]) w
theorem sys_part (hp : 2 ≤ p) (hr : ∀ r ∈ rows, Vec p w r) (hg : Vec p w goal) : Sys p w (rows ++ [goal]) (List.replicate rows.length 0 ++ [1]) :=
  ⟨fun r h => (List.mem_append.mp h).elim (hr r) fun h => by rw [List.mem_singleton.mp h]; exact hg,
   fun x hx => (List.mem_append.mp hx).elim (fun h => by rw [(List.mem_replicate.mp h).2]; omega) fun h => by rw [List.mem_singleton.mp h]; omega, by simp⟩
theorem ans_part {x : V} : Ans p (rows ++ [goal]) (List.replicate rows.length 0 ++ [1]) w x ↔ (∀ r ∈ rows, p ∣ dN (fn r) x w) ∧ p ∣ dN (fn goal) x w - 1 := by
  unfold Ans
  rw [List.zip_append (by simp)]
  have e : rows.zip (List.replicate rows.length (0 : Int)) = rows.map fun r => (r, 0) := by
    refine List.ext_getElem (by simp) fun i h1 h2 => by simp
  rw [e]
  constructor
  · intro h
    refine ⟨fun r hr => ?_, h (goal, 1) (List.mem_append_right _ (by simp))⟩
    have := h (r, 0) (List.mem_append_left _ (List.mem_map.mpr ⟨r, hr, rfl⟩))
    simpa using this
  · rintro ⟨h1, h2⟩ q hq
    rcases List.mem_append.mp hq with hq | hq
    · obtain ⟨r, hr, rfl⟩ := List.mem_map.mp hq
      simpa using h1 r hr
    · have : q = (goal, 1) := by simpa using hq
      rw [this]; exact h2
theorem pf_some (hp : 2 ≤ p) (hiv : ∀ a, 1 ≤ a ∧ a < p → (a * iv a) % p = 1) (hr : ∀ r ∈ rows, Vec p w r) (hg : Vec p w goal) {a : Row} (e : parting_for p iv rows goal w = some a) : Vec p w a ∧ (∀ r ∈ rows, p ∣ dN (fn r) (fn a) w) ∧ p ∣ dN (fn goal) (fn a) w - 1 := by
  have h := sa_some hp hiv (sys_part hp hr hg) e
  exact ⟨h.1, ans_part.mp h.2⟩
/-- a sum of rows and their right sides -/
theorem told_sp {rights : List Int} (h : Sys p w rows rights) {v : V} (hs : Sp p ((told rows rights).map fn) v) : ∃ c : V, (∀ i < w, p ∣ cmb rows c i - v i) ∧ p ∣ dN (fn rights) c rows.length - v w := by
  obtain ⟨c, hc⟩ := sp_weights hs
  have hl : (told rows rights).length = rows.length := by simp [told, h.l]
  have hg : ∀ k < rows.length, (told rows rights).getD k [] = rows.getD k [] ++ [fn rights k] := fun k hk => by
    have h2 : k < rights.length := by have := h.l; omega
    simp [told, List.getD, hk, h2, fn, List.getElem?_zipWith]
  have hw : ∀ k < rows.length, (rows.getD k []).length = w := fun k hk => by
    have e : rows.getD k [] = rows[k] := by simp [List.getD, hk]
    rw [e]; exact (h.v _ (List.getElem_mem hk)).l
  refine ⟨c, fun i hi => ?_, ?_⟩
  · have := hc i
    unfold cmb at this ⊢
    rw [hl, dN_congr (fun k hk => show fn ((told rows rights).getD k []) i = fn (rows.getD k []) i by rw [hg k hk, fn_app_lt (by rw [hw k hk]; exact hi)]) (fun _ _ => rfl)] at this
    exact this
  · have := hc w
    unfold cmb at this
    rw [hl, dN_congr (fun k hk => show fn ((told rows rights).getD k []) w = fn rights k by rw [hg k hk, fn_app_eq' (hw k hk)]) (fun _ _ => rfl)] at this
    exact this
theorem dN_last (u x : V) (w : Nat) : dN u x (w + 1) = dN u x w + u w * x w := rfl
theorem pf_iff (hp : 2 ≤ p) (hiv : ∀ a, 1 ≤ a ∧ a < p → (a * iv a) % p = 1) (hr : ∀ r ∈ rows, Vec p w r) (hg : Vec p w goal) : (parting_for p iv rows goal w).isSome = true ↔ ¬ SpL p rows goal := by
  constructor
  · intro h hs
    obtain ⟨a, ha⟩ := Option.isSome_iff_exists.mp h
    obtain ⟨h1, h2, h3⟩ := pf_some hp hiv hr hg ha
    have := Sp.kill (fun r hr => by obtain ⟨u, hu, rfl⟩ := List.mem_map.mp hr; exact h2 u hu) hs
    have h4 := Int.dvd_sub this h3
    have e : dN (fn goal) (fn a) w - (dN (fn goal) (fn a) w - 1) = 1 := by omega
    rw [e] at h4
    have := small_dvd (p := p) (x := 1) (by omega) h4
    omega
  · intro hs
    cases e : parting_for p iv rows goal w with
    | some a => rfl
    | none =>
      obtain ⟨v, vv, hv, hz, hn⟩ := sa_none hp hiv (sys_part hp hr hg) e
      obtain ⟨c, h1, h2⟩ := told_sp (sys_part hp hr hg) hv
      exfalso
      apply hs
      have hl : (rows ++ [goal]).length = rows.length + 1 := by simp
      -- the goal's weight is v's last number
      have hd : p ∣ c rows.length - fn v w := by
        rw [hl, dN_last, fn_app_eq' (by simp)] at h2
        rw [dN_congr (v := fun _ => 0) (y := c) (fun i hi => ?_) (fun _ _ => rfl), dN_zero] at h2
        · simpa using h2
        · rw [fn_app_lt (by simpa using hi), fn_lt (by simpa using hi)]; simp
      have hb := vv.fn (by omega) w
      have hi := hiv (fn v w) ⟨by omega, hb.2⟩
      -- goal = - (1/d) * others
      have e2 : ∀ i, cmb (rows ++ [goal]) c i = cmb rows c i + fn goal i * c rows.length := fun i => by
        unfold cmb
        rw [hl, dN_last]
        have e3 : (rows ++ [goal]).getD rows.length [] = goal := by simp [List.getD]
        rw [e3]
        congr 1
        refine dN_congr (fun k hk => ?_) fun _ _ => rfl
        have e4 : (rows ++ [goal]).getD k [] = rows.getD k [] := by simp [List.getD, hk, List.getElem?_append]
        show fn ((rows ++ [goal]).getD k []) i = _
        rw [e4]
      refine sp_of_weights (c := fun k => 0 + -(iv (fn v w)) * c k) (fun r h => (hr r h).l) hg.l fun i hi2 => ?_
      have h3 := h1 i hi2
      rw [e2, hz i hi2] at h3
      have e5 : cmb rows (fun k => 0 + -(iv (fn v w)) * c k) i = -(iv (fn v w)) * cmb rows c i := by
        unfold cmb
        rw [dN_add_r _ (fun _ => 0) c, dN_comm _ (fun _ => 0), dN_zero]; simp
      rw [e5]
      obtain ⟨x, hx⟩ := h3
      obtain ⟨y, hy⟩ := hd
      have hm := Int.mul_ediv_add_emod (fn v w * iv (fn v w)) p
      rw [hi] at hm
      refine ⟨-(iv (fn v w)) * x + fn goal i * iv (fn v w) * y + fn goal i * (fn v w * iv (fn v w) / p), ?_⟩
      grind
end
end LA
set_option Elab.async false
set_option linter.all false
set_option maxRecDepth 100000
set_option maxHeartbeats 1000000
/-! texts, names, plain data, sorting: worked with -/
namespace Ev
open PySem
def nms (xs : List Str) : List D := xs.map D.str
@[simp] theorem nms_nil : nms [] = [] := rfl
@[simp] theorem nms_cons (x : Str) (xs : List Str) : nms (x :: xs) = D.str x :: nms xs := rfl
@[simp] theorem nms_length (xs : List Str) : (nms xs).length = xs.length := by simp [nms]
theorem nms_app (xs ys : List Str) : nms (xs ++ ys) = nms xs ++ nms ys := by simp [nms]
theorem take_strs (xs : List Str) (i : Nat) : (nms xs).take i = nms (xs.take i) := by simp [nms]
theorem get_strs {xs : List Str} {i : Nat} {d : D} (h : (nms xs)[i]? = some d) : ∃ x, xs[i]? = some x ∧ d = .str x := by
  unfold nms at h
  rw [List.getElem?_map] at h
  obtain ⟨x, h1, rfl⟩ := Option.map_eq_some_iff.mp h
  exact ⟨x, h1, rfl⟩
def cs (x : Str) : List Nat := x.cps.toList
theorem cs_inj {x y : Str} (h : cs x = cs y) : x = y := by
  unfold cs at h
  cases x; cases y
  simp only [Str.mk.injEq]
  exact Array.toList_inj.mp h
theorem cs_len (x : Str) : x.length = (cs x).length := by show x.cps.size = _; simp [cs]
theorem cs_app (x y : Str) : cs (x ++ y) = cs x ++ cs y := by
  show (x.cps ++ y.cps).toList = _
  simp [cs]
theorem len_app (x y : Str) : (x ++ y).length = x.length + y.length := by rw [cs_len, cs_len, cs_len, cs_app]; simp
theorem isIn_strs (x : Str) (xs : List Str) : D.isIn (.str x) (nms xs) = decide (x ∈ xs) := by
  induction xs with
  | nil => rfl
  | cons y ys ih =>
    show ((y == x) || D.isIn (.str x) (nms ys)) = _
    rw [ih]
    by_cases h : y = x
    · subst h; simp
    · have h' : ¬ x = y := fun e => h e.symm
      simp [h, h', beq_eq_false_iff_ne.mpr h]
theorem depL_strs : ∀ xs : List Str, D.depL (nms xs) = some 0
  | [] => rfl
  | x :: xs => by
    show (match D.dep (.str x), D.depL (nms xs) with | some a, some b => some (max a b) | _, _ => none) = _
    rw [depL_strs xs]; rfl
theorem dep_tstrs (xs : List Str) : D.dep (.tup (nms xs)) = some 1 := by
  show (D.depL (nms xs)).map (· + 1) = _
  rw [depL_strs]; rfl
theorem dep_lstrs (xs : List Str) : D.dep (.lst (nms xs)) = some 1 := by
  show (D.depL (nms xs)).map (· + 1) = _
  rw [depL_strs]; rfl
/-! plain data of at most so many levels -/
namespace D
def scal : D → Bool
  | .non => true
  | .bl _ => true
  | .int _ => true
  | .str _ => true
  | _ => false
def ok : Nat → D → Bool
  | _, .non => true
  | _, .bl _ => true
  | _, .int _ => true
  | _, .str _ => true
  | k + 1, .tup xs => xs.all (ok k)
  | k + 1, .lst xs => xs.all (ok k)
  | _, _ => false
theorem ok_int (k : Nat) (i : Int) : ok k (.int i) = true := by cases k <;> rfl
theorem ok_str (k : Nat) (i : Str) : ok k (.str i) = true := by cases k <;> rfl
theorem ok_bl (k : Nat) (i : Bool) : ok k (.bl i) = true := by cases k <;> rfl
theorem ok_non (k : Nat) : ok k .non = true := by cases k <;> rfl
theorem ok_tup (k : Nat) (xs : List D) : ok (k + 1) (.tup xs) = xs.all (ok k) := rfl
theorem ok_lst (k : Nat) (xs : List D) : ok (k + 1) (.lst xs) = xs.all (ok k) := rfl
theorem depL_ok {k : Nat} : ∀ {xs : List D}, (∀ x ∈ xs, ∃ j, x.dep = some j ∧ j ≤ k) → ∃ j, depL xs = some j ∧ j ≤ k
  | [], _ => ⟨0, rfl, Nat.zero_le _⟩
  | x :: xs, h => by
    obtain ⟨a, h1, h2⟩ := h x List.mem_cons_self
    obtain ⟨b, h3, h4⟩ := depL_ok fun y hy => h y (List.mem_cons_of_mem _ hy)
    refine ⟨max a b, ?_, by omega⟩
    show (match dep x, depL xs with | some a, some b => some (max a b) | _, _ => none) = _
    rw [h1, h3]
theorem ok_no {k : Nat} {d : D} (h : ok k d = true) : d.scal = true ∨ ∃ m xs, k = m + 1 ∧ (d = .tup xs ∨ d = .lst xs) ∧ xs.all (ok m) = true := by
  cases d with
  | non => exact .inl rfl
  | bl _ => exact .inl rfl
  | int _ => exact .inl rfl
  | str _ => exact .inl rfl
  | tup xs => cases k with
    | zero => cases h
    | succ m => exact .inr ⟨m, xs, rfl, .inl rfl, h⟩
  | lst xs => cases k with
    | zero => cases h
    | succ m => exact .inr ⟨m, xs, rfl, .inr rfl, h⟩
  | _ => cases k <;> cases h
theorem dep_ok : ∀ {k : Nat} {d : D}, ok k d = true → ∃ j, d.dep = some j ∧ j ≤ k
  | _, .non, _ => ⟨0, rfl, Nat.zero_le _⟩
  | _, .bl _, _ => ⟨0, rfl, Nat.zero_le _⟩
  | _, .int _, _ => ⟨0, rfl, Nat.zero_le _⟩
  | _, .str _, _ => ⟨0, rfl, Nat.zero_le _⟩
  | k + 1, .tup xs, h => by
    obtain ⟨j, h1, h2⟩ := depL_ok (k := k) fun x hx => dep_ok (List.all_eq_true.mp h x hx)
    exact ⟨j + 1, by show (depL xs).map (· + 1) = _; rw [h1]; rfl, by omega⟩
  | k + 1, .lst xs, h => by
    obtain ⟨j, h1, h2⟩ := depL_ok (k := k) fun x hx => dep_ok (List.all_eq_true.mp h x hx)
    exact ⟨j + 1, by show (depL xs).map (· + 1) = _; rw [h1]; rfl, by omega⟩
  | 0, .tup _, h => nomatch h
  | 0, .lst _, h => nomatch h
  | 0, .obj _ _, h => nomatch h
  | _ + 1, .obj _ _, h => nomatch h
  | 0, .set _, h => nomatch h
  | _ + 1, .set _, h => nomatch h
  | 0, .dic _ _, h => nomatch h
  | _ + 1, .dic _ _, h => nomatch h
  | 0, .hnd, h => nomatch h
  | _ + 1, .hnd, h => nomatch h
  | 0, .fn _, h => nomatch h
  | _ + 1, .fn _, h => nomatch h
  | 0, .ty _, h => nomatch h
  | _ + 1, .ty _, h => nomatch h
  | 0, .slf, h => nomatch h
  | _ + 1, .slf, h => nomatch h
  | 0, .clo _ _ _ _, h => nomatch h
  | _ + 1, .clo _ _ _ _, h => nomatch h
theorem eqOk_ok {k m : Nat} {a b : D} (ha : ok k a = true) (hb : ok m b = true) (h : k ≤ 64 ∨ m ≤ 64) : eqOk a b := by
  obtain ⟨i, h1, h2⟩ := dep_ok ha
  obtain ⟨j, h3, h4⟩ := dep_ok hb
  exact ⟨i, j, h1, h3, by omega⟩
/-- no truth within: == is equality -/
def pn : Nat → D → Bool
  | _, .non => true
  | _, .int _ => true
  | _, .str _ => true
  | k + 1, .tup xs => xs.all (pn k)
  | k + 1, .lst xs => xs.all (pn k)
  | _, _ => false
theorem pn_int (k : Nat) (i : Int) : pn k (.int i) = true := by cases k <;> rfl
theorem pn_str (k : Nat) (i : Str) : pn k (.str i) = true := by cases k <;> rfl
theorem pn_non (k : Nat) : pn k .non = true := by cases k <;> rfl
theorem pn_tup (k : Nat) (xs : List D) : pn (k + 1) (.tup xs) = xs.all (pn k) := rfl
theorem pn_lst (k : Nat) (xs : List D) : pn (k + 1) (.lst xs) = xs.all (pn k) := rfl
theorem pn_ok : ∀ {k : Nat} {d : D}, pn k d = true → ok k d = true
  | _, .non, _ => ok_non _
  | _, .int _, _ => ok_int _ _
  | _, .str _, _ => ok_str _ _
  | k + 1, .tup xs, h => List.all_eq_true.mpr fun x hx => pn_ok (List.all_eq_true.mp h x hx)
  | k + 1, .lst xs, h => List.all_eq_true.mpr fun x hx => pn_ok (List.all_eq_true.mp h x hx)
  | 0, .tup _, h => nomatch h
  | 0, .lst _, h => nomatch h
  | 0, .bl _, h => nomatch h
  | _ + 1, .bl _, h => nomatch h
  | 0, .obj _ _, h => nomatch h
  | _ + 1, .obj _ _, h => nomatch h
  | 0, .set _, h => nomatch h
  | _ + 1, .set _, h => nomatch h
  | 0, .dic _ _, h => nomatch h
  | _ + 1, .dic _ _, h => nomatch h
  | 0, .hnd, h => nomatch h
  | _ + 1, .hnd, h => nomatch h
  | 0, .fn _, h => nomatch h
  | _ + 1, .fn _, h => nomatch h
  | 0, .ty _, h => nomatch h
  | _ + 1, .ty _, h => nomatch h
  | 0, .slf, h => nomatch h
  | _ + 1, .slf, h => nomatch h
  | 0, .clo _ _ _ _, h => nomatch h
  | _ + 1, .clo _ _ _ _, h => nomatch h
theorem eqL_pn {k m : Nat} (ih : ∀ (a b : D), pn k a = true → pn m b = true → (eq a b = true ↔ a = b)) : ∀ {xs ys : List D}, xs.all (pn k) = true → ys.all (pn m) = true → (eqL xs ys = true ↔ xs = ys)
  | [], [], _, _ => by simp [eqL]
  | [], _ :: _, _, _ => by simp [eqL]
  | _ :: _, [], _, _ => by simp [eqL]
  | x :: xs, y :: ys, hx, hy => by
    rw [List.all_cons, Bool.and_eq_true] at hx hy
    show (eq x y && eqL xs ys) = true ↔ _
    rw [Bool.and_eq_true, ih x y hx.1 hy.1, eqL_pn ih hx.2 hy.2]
    simp
theorem eq_pn (k : Nat) : ∀ (m : Nat) (a b : D), pn k a = true → pn m b = true → (eq a b = true ↔ a = b) := by
  induction k with
  | zero =>
    intro m a b ha hb
    cases a with
    | non => cases b <;> simp [eq]
    | int i => cases b with
      | bl b => cases m <;> cases hb
      | _ => simp [eq]
    | str i => cases b <;> simp [eq]
    | _ => cases ha
  | succ k ih =>
    intro m a b ha hb
    cases a with
    | non => cases b <;> simp [eq]
    | int i => cases b with
      | bl b => cases m <;> cases hb
      | _ => simp [eq]
    | str i => cases b <;> simp [eq]
    | tup xs => cases b with
      | tup ys => cases m with
        | zero => cases hb
        | succ m =>
          show eqL xs ys = true ↔ _
          rw [eqL_pn (ih m) ha hb]; simp
      | _ => simp [eq]
    | lst xs => cases b with
      | lst ys => cases m with
        | zero => cases hb
        | succ m =>
          show eqL xs ys = true ↔ _
          rw [eqL_pn (ih m) ha hb]; simp
      | _ => simp [eq]
    | _ => cases ha
theorem pn_nums (k : Nat) (xs : List Int) : (nums xs).all (pn k) = true := List.all_eq_true.mpr fun x hx => by
  obtain ⟨i, _, rfl⟩ := List.mem_map.mp hx; exact pn_int k i
theorem pn_strs (k : Nat) (xs : List Str) : (nms xs).all (pn k) = true := List.all_eq_true.mpr fun x hx => by
  obtain ⟨i, _, rfl⟩ := List.mem_map.mp hx; exact pn_str k i
theorem pn_tnums (k : Nat) (xs : List Int) : pn (k + 1) (.tup (nums xs)) = true := pn_nums k xs
theorem pn_tstrs (k : Nat) (xs : List Str) : pn (k + 1) (.tup (nms xs)) = true := pn_strs k xs
end D
theorem cmp_eq_pn {k m : Nat} {a b : D} (ha : D.pn k a = true) (hb : D.pn m b = true) (h : k ≤ 64 ∨ m ≤ 64) : ∃ c : Bool, cmpD .eq a b = ret (.bl c) ∧ cmpD .ne a b = ret (.bl (!c)) ∧ (c = true ↔ a = b) := by
  have h1 := D.eqOk_ok (D.pn_ok ha) (D.pn_ok hb) h
  exact ⟨D.eq a b, cmp_eq_of h1, cmp_ne_of h1, D.eq_pn k m a b ha hb⟩
theorem isIn_iff {k m : Nat} {a : D} {ys : List D} (ha : D.pn k a = true) (hb : ys.all (D.pn m) = true) : D.isIn a ys = true ↔ a ∈ ys := by
  unfold D.isIn
  rw [List.any_eq_true]
  constructor
  · rintro ⟨y, hy, e⟩
    have := (D.eq_pn m k y a (List.all_eq_true.mp hb y hy) ha).mp e
    rwa [← this]
  · intro h
    exact ⟨a, h, (D.eq_pn m k a a (List.all_eq_true.mp hb a h) ha).mpr rfl⟩
theorem inD_tup {k m : Nat} {a : D} {ys : List D} (ha : D.pn k a = true) (hb : ys.all (D.pn m) = true) (h : k ≤ 64 ∨ m < 64) : ∃ c : Bool, inD a (.tup ys) = ret c ∧ (c = true ↔ a ∈ ys) :=
  ⟨D.isIn a ys, M.must_true (D.eqOk_ok (m := m + 1) (D.pn_ok ha) (D.pn_ok (d := .tup ys) hb) (by omega)) _, isIn_iff ha hb⟩
theorem inD_lst {k m : Nat} {a : D} {ys : List D} (ha : D.pn k a = true) (hb : ys.all (D.pn m) = true) (h : k ≤ 64 ∨ m < 64) : ∃ c : Bool, inD a (.lst ys) = ret c ∧ (c = true ↔ a ∈ ys) :=
  ⟨D.isIn a ys, M.must_true (D.eqOk_ok (m := m + 1) (D.pn_ok ha) (D.pn_ok (d := .lst ys) hb) (by omega)) _, isIn_iff ha hb⟩
theorem in_strs (x : Str) (xs : List Str) : inD (.str x) (.tup (nms xs)) = ret (decide (x ∈ xs)) := by
  show M.must _ _ = _
  rw [M.must_true (eqOk_0 rfl (dep_tstrs xs)), isIn_strs]
theorem in_lstrs (x : Str) (xs : List Str) : inD (.str x) (.lst (nms xs)) = ret (decide (x ∈ xs)) := by
  show M.must _ _ = _
  rw [M.must_true (eqOk_0 rfl (dep_lstrs xs)), isIn_strs]
theorem in_nums (x : Int) (xs : List Int) : inD (.int x) (.tup (nums xs)) = ret (decide (x ∈ xs)) := by
  show M.must _ _ = _
  rw [M.must_true (eqOk_tints x xs), isIn_nums]
theorem in_lnums (x : Int) (xs : List Int) : inD (.int x) (.lst (nums xs)) = ret (decide (x ∈ xs)) := by
  show M.must _ _ = _
  rw [M.must_true (eqOk_lints x xs), isIn_nums]
theorem cmp_eq_str (x y : Str) : cmpD .eq (.str x) (.str y) = ret (.bl (x == y)) := M.must_true ⟨0, 0, rfl, rfl, by decide⟩ _
theorem cmp_ne_str (x y : Str) : cmpD .ne (.str x) (.str y) = ret (.bl (x != y)) := M.must_true ⟨0, 0, rfl, rfl, by decide⟩ _
theorem cmp_lt_str (x y : Str) : cmpD .lt (.str x) (.str y) = ret (.bl (decide (cs x < cs y))) := id rfl
theorem cmp_le_str (x y : Str) : cmpD .le (.str x) (.str y) = ret (.bl (decide (cs x ≤ cs y))) := by
  show ret (D.bl (!decide (cs y < cs x))) = _
  congr 2
  by_cases h : cs y < cs x
  · rw [decide_eq_true h, decide_eq_false (by simpa using h)]; rfl
  · rw [decide_eq_false h, decide_eq_true (by simpa using h)]; rfl
theorem eq_tt (xs ys : List D) : D.eq (.tup xs) (.tup ys) = D.eqL xs ys := id rfl
/-! names -/
def WORDSl : List Str := ["add", "all", "book", "coin", "deal", "end", "epoch", "holder", "in", "key", "look", "lost", "no", "none", "of", "open", "or", "plan", "prime", "quit", "row", "rows", "scheme", "see", "share", "strike", "sum", "undo", "yes"]
def azs : Str := "abcdefghijklmnopqrstuvwxyz"
structure Nm (x : Str) : Prop where
  ne : cs x ≠ []
  le : (cs x).length ≤ 8
  az : ∀ c ∈ cs x, c ∈ cs azs
  wd : x ∉ WORDSl
theorem azs_cs : cs azs = List.range' 97 26 := by decide +kernel
theorem signs_str (x : Str) : D.iter (.str x) = ret ((cs x).map fun c => D.str ⟨#[c]⟩) := id rfl
theorem in_azs (c : Nat) : inD (.str ⟨#[c]⟩) (.str azs) = ret (decide (c ∈ cs azs)) := by
  show M.must _ (ret (D.signIn ⟨#[c]⟩ azs)) = _
  rw [M.must_true (by rfl)]
  show ret ((cs azs).contains c) = _
  congr 1
  by_cases h : c ∈ cs azs
  · rw [decide_eq_true h]; simpa using h
  · rw [decide_eq_false h]
    cases e : (cs azs).contains c with
    | false => rfl
    | true => exact absurd (by simpa using e) h
theorem Nm.len {x : Str} (h : Nm x) : 1 ≤ (cs x).length ∧ (cs x).length ≤ 8 := ⟨List.length_pos_iff.mpr h.ne, h.le⟩
/-- ascending -/
abbrev Asc (xs : List Str) : Prop := xs.Pairwise fun x y => cs x < cs y
theorem Asc.nodup {xs : List Str} (h : Asc xs) : xs.Nodup := h.imp fun h e => by subst e; exact List.lt_irrefl _ h
theorem asc_last {xs : List Str} {i : Nat} {x y : Str} (h : Asc xs) (hx : xs[i]? = some x) (hy : (xs.take i).getLast? = some y) : cs y < cs x := by
  rw [List.getLast?_eq_getElem?] at hy
  obtain ⟨h1, e1⟩ := List.getElem?_eq_some_iff.mp hx
  obtain ⟨h2, e2⟩ := List.getElem?_eq_some_iff.mp hy
  rw [List.getElem_take] at e2
  have h3 : (xs.take i).length = i := by rw [List.length_take]; omega
  have := List.pairwise_iff_getElem.mp h ((xs.take i).length - 1) i (by omega) h1 (by omega)
  rw [e2, e1] at this
  exact this
/-! sorting -/
theorem nosL_nil : D.nosL [] = true := id rfl
theorem nosL_cons (d : D) (l : List D) : D.nosL (d :: l) = (D.nos d && D.nosL l) := id rfl
theorem nos_tup (l : List D) : D.nos (.tup l) = D.nosL l := id rfl
theorem nos_lst (l : List D) : D.nos (.lst l) = D.nosL l := id rfl
theorem nos_int (i : Int) : D.nos (.int i) = true := id rfl
theorem nos_str (i : Str) : D.nos (.str i) = true := id rfl
theorem nos_bl (i : Bool) : D.nos (.bl i) = true := id rfl
theorem nos_non : D.nos .non = true := id rfl
theorem nos_hnd : D.nos .hnd = true := id rfl
theorem nosL_nums : ∀ l : List Int, D.nosL (nums l) = true
  | [] => rfl
  | _ :: l => nosL_nums l
theorem nosL_nms : ∀ l : List Str, D.nosL (nms l) = true
  | [] => rfl
  | _ :: l => nosL_nms l
theorem nosL_map {α : Type} {f : α → D} (h : ∀ a, D.nos (f a) = true) : ∀ l : List α, D.nosL (l.map f) = true
  | [] => rfl
  | a :: l => by rw [List.map_cons, nosL_cons, h a, nosL_map h l]; rfl
theorem nocL_nil : D.nocL [] = true := id rfl
theorem nocL_cons (d : D) (l : List D) : D.nocL (d :: l) = (D.noc d && D.nocL l) := id rfl
theorem noc_tup (l : List D) : D.noc (.tup l) = D.nocL l := id rfl
theorem noc_lst (l : List D) : D.noc (.lst l) = D.nocL l := id rfl
theorem noc_int (i : Int) : D.noc (.int i) = true := id rfl
theorem noc_str (i : Str) : D.noc (.str i) = true := id rfl
theorem noc_bl (i : Bool) : D.noc (.bl i) = true := id rfl
theorem noc_non : D.noc .non = true := id rfl
theorem nocL_nums : ∀ l : List Int, D.nocL (nums l) = true
  | [] => rfl
  | _ :: l => nocL_nums l
theorem nocL_nms : ∀ l : List Str, D.nocL (nms l) = true
  | [] => rfl
  | _ :: l => nocL_nms l
theorem nocL_map {α : Type} {f : α → D} (h : ∀ a, D.noc (f a) = true) : ∀ l : List α, D.nocL (l.map f) = true
  | [] => rfl
  | a :: l => by rw [List.map_cons, nocL_cons, h a, nocL_map h l]; rfl
theorem must_tt {P : Prop} [Decidable P] {α : Type} (h : P) (m : M α) : M.must P m = m := M.must_true h m
theorem sort_perm (ds : List D) : (D.sort ds).Perm ds := List.mergeSort_perm _ _
theorem sort_sorted (ds : List D) : (D.sort ds).Pairwise fun a b => PySem.W.dataLe false D.toPy a b = true := by
  have T := PySem.W.sortLe_total (PyProof.Rows.listOrd PyProof.Rows.itemOrd) false fun b => PySem.W.keyToks (D.toPy b)
  exact List.pairwise_mergeSort T.trans (fun a b => by rw [Bool.or_eq_true]; exact T.total a b) ds
end Ev
set_option Elab.async false
set_option linter.all false
set_option maxRecDepth 100000
set_option maxHeartbeats 1000000
/-! rows, schemes as data -/
namespace Ev
open PySem LA
def rws (l : List Row) : List D := l.map fun r => D.tup (nums r)
@[simp] theorem rws_nil : rws [] = [] := rfl
@[simp] theorem rws_cons (r : Row) (l : List Row) : rws (r :: l) = D.tup (nums r) :: rws l := rfl
@[simp] theorem rws_length (l : List Row) : (rws l).length = l.length := by simp [rws]
theorem rws_app (l m : List Row) : rws (l ++ m) = rws l ++ rws m := by simp [rws]
abbrev HR := Str × Row
def prow (q : HR) : D := .tup [.str q.1, .tup (nums q.2)]
def prows (l : List HR) : List D := l.map prow
@[simp] theorem prows_length (l : List HR) : (prows l).length = l.length := by simp [prows]
theorem take_prows (l : List HR) (i : Nat) : (prows l).take i = prows (l.take i) := by simp [prows]
theorem get_prows {l : List HR} {i : Nat} {d : D} (h : (prows l)[i]? = some d) : ∃ x, l[i]? = some x ∧ d = prow x := by
  unfold prows at h
  rw [List.getElem?_map] at h
  obtain ⟨x, h1, rfl⟩ := Option.map_eq_some_iff.mp h
  exact ⟨x, h1, rfl⟩
theorem pn_prow (k : Nat) (q : HR) : D.pn (k + 2) (prow q) = true := by
  unfold prow
  rw [D.pn_tup, List.all_cons, List.all_cons, D.pn_str, D.pn_tnums]; rfl
theorem pn_prows (k : Nat) (l : List HR) : (prows l).all (D.pn (k + 2)) = true := List.all_eq_true.mpr fun x hx => by
  obtain ⟨q, _, rfl⟩ := List.mem_map.mp hx; exact pn_prow k q
theorem pn_tprows (k : Nat) (l : List HR) : D.pn (k + 3) (.tup (prows l)) = true := pn_prows k l
theorem nosL_prows : ∀ l : List HR, D.nosL (prows l) = true := nosL_map fun q => by
  show D.nosL [.str q.1, .tup (nums q.2)] = true
  simp [nosL_cons, nosL_nil, nos_str, nos_tup, nosL_nums]
theorem nocL_prows : ∀ l : List HR, D.nocL (prows l) = true := nocL_map fun q => by
  show D.nocL [.str q.1, .tup (nums q.2)] = true
  simp [nocL_cons, nocL_nil, noc_str, noc_tup, nocL_nums]
theorem nosL_rws : ∀ l : List Row, D.nosL (rws l) = true := nosL_map fun q => by
  show D.nosL (nums q) = true
  exact nosL_nums q
theorem nocL_rws : ∀ l : List Row, D.nocL (rws l) = true := nocL_map fun q => by
  show D.nocL (nums q) = true
  exact nocL_nums q
theorem pn_rws (k : Nat) (l : List Row) : (rws l).all (D.pn (k + 1)) = true := List.all_eq_true.mpr fun x hx => by
  obtain ⟨q, _, rfl⟩ := List.mem_map.mp hx; exact D.pn_tnums k q
structure Sch where
  p : Int
  hs : List Str
  rs : List HR
def Sch.t (s : Sch) : D := .tup [.int s.p, .tup (nms s.hs), .tup (prows s.rs)]
def Sch.o (s : Sch) : D := .obj "Scheme" [("told", s.t)]
structure Sch.Ok (s : Sch) (w : Nat) : Prop where
  hp : s.p ∈ PR
  h1 : 1 ≤ s.hs.length
  h2 : s.hs.length ≤ 8
  asc : Asc s.hs
  nm : ∀ x ∈ s.hs, Nm x
  r1 : 1 ≤ s.rs.length
  r2 : s.rs.length ≤ 40
  w1 : 1 ≤ w
  w2 : w ≤ 24
  rh : ∀ q ∈ s.rs, q.1 ∈ s.hs
  rv : ∀ q ∈ s.rs, Vec s.p w q.2
  ra : s.rs.Pairwise fun a b => cs a.1 ≤ cs b.1
theorem Sch.nosL_t (s : Sch) : D.nos s.t = true := by
  show D.nosL [.int s.p, .tup (nms s.hs), .tup (prows s.rs)] = true
  simp [nosL_cons, nosL_nil, nos_int, nos_tup, nosL_nms, nosL_prows]
theorem Sch.noc_t (s : Sch) : D.noc s.t = true := by
  show D.nocL [.int s.p, .tup (nms s.hs), .tup (prows s.rs)] = true
  simp [nocL_cons, nocL_nil, noc_int, noc_tup, nocL_nms, nocL_prows]
theorem Sch.noc_o (s : Sch) : D.noc s.o = true := by
  show (D.noc s.t && true) = true
  rw [s.noc_t]; rfl
theorem Sch.nos_o (s : Sch) : D.nos s.o = true := by
  show (D.nos s.t && true) = true
  rw [s.nosL_t]; rfl
theorem isc_o (s : Sch) : iscD "Scheme" s.o = ret (.bl true) := id rfl
theorem fld_o (s : Sch) : fldD "Scheme" "told" s.o = ret s.t := id rfl
theorem flat_o (s : Sch) : D.flat s.o = false := id rfl
/-- the rows alone -/
def Sch.rows (s : Sch) : List Row := s.rs.map (·.2)
/-- the rows of some holders -/
def Sch.rof (s : Sch) (some : List Str) : List Row := (s.rs.filter fun q => decide (q.1 ∈ some)).map (·.2)
/-- their indexes -/
def Sch.spots (s : Sch) (some : List Str) : List Nat := (s.rs.zipIdx.filter fun q => decide (q.1.1 ∈ some)).map (·.2)
def keyr (w : Nat) : Row := (List.range w).map fun i => if i = 0 then 1 else 0
/-- numbers of indexes -/
def ixs (l : List Nat) : List Int := l.map fun (n : Nat) => (n : Int)
@[simp] theorem ixs_length (l : List Nat) : (ixs l).length = l.length := by simp [ixs]
/-- all of a list, in a comprehension that may leave some out -/
theorem lcM_gen {α : Type} {t : Tg} {v : Vw} {mc : Vw → M Bool} {me : Vw → M D} {l : List α} (h : α → D) (G : α → Option D) (hl : l.length ≤ 2 ^ 24) (hs : ∀ x ∈ l, lcStep t v mc me (h x) = ret (G x)) : lcM t v (ret (l.map h)) mc me = ret (l.filterMap G) := by
  unfold lcM
  rw [M.ret_bind, M.must_true (by rw [List.length_map]; exact hl)]
  have : M.mapM (lcStep t v mc me) (l.map h) = ret (l.map G) := by
    clear hl
    induction l with
    | nil => rfl
    | cons x l ih =>
      rw [List.map_cons, M.mapM_cons, hs x List.mem_cons_self, M.ret_bind, ih fun y hy => hs y (List.mem_cons_of_mem _ hy), M.ret_bind, List.map_cons]
  rw [this, M.ret_bind, M.nox_ret, List.filterMap_map]; rfl
theorem lcM_filt {α : Type} {t : Tg} {v : Vw} {mc : Vw → M Bool} {me : Vw → M D} {l : List α} (h : α → D) (q : α → Bool) (g : α → D) (hl : l.length ≤ 2 ^ 24) (hs : ∀ x ∈ l, lcStep t v mc me (h x) = ret (if q x = true then some (g x) else none)) : lcM t v (ret (l.map h)) mc me = ret ((l.filter q).map g) := by
  rw [lcM_gen h (fun x => if q x = true then some (g x) else none) hl hs]
  congr 1
  clear hl hs
  induction l with
  | nil => rfl
  | cons x l ih =>
    rw [List.filterMap_cons, List.filter_cons]
    by_cases e : q x = true
    · rw [if_pos e, if_pos e, List.map_cons, ih]
    · rw [if_neg e, if_neg e, ih]
theorem lcM_rws {t : Tg} {v : Vw} {mc : Vw → M Bool} {me : Vw → M D} {l : List Row} (g : Row → D) (hl : l.length ≤ 2 ^ 24) (hs : ∀ x ∈ l, lcStep t v mc me (.tup (nums x)) = ret (some (g x))) : lcM t v (ret (rws l)) mc me = ret (l.map g) := lcM_map (fun r => D.tup (nums r)) g hl hs
theorem zip_gen {α β : Type} (f : α → D) (g : β → D) (xs : List α) (ys : List β) : List.zipWith (fun a b => D.tup [a, b]) (xs.map f) (ys.map g) = (xs.zip ys).map fun q => D.tup [f q.1, g q.2] := by
  rw [List.zipWith_map, ← List.map_uncurry_zip_eq_zipWith]; rfl
theorem zipLT (xs ys : List D) : zipD [.lst xs, .tup ys] = ret (List.zipWith (fun a b => D.tup [a, b]) xs ys) := id rfl
theorem zipLL (xs ys : List D) : zipD [.lst xs, .lst ys] = ret (List.zipWith (fun a b => D.tup [a, b]) xs ys) := id rfl
theorem zipTT (xs ys : List D) : zipD [.tup xs, .tup ys] = ret (List.zipWith (fun a b => D.tup [a, b]) xs ys) := id rfl
theorem zipTL (xs ys : List D) : zipD [.tup xs, .lst ys] = ret (List.zipWith (fun a b => D.tup [a, b]) xs ys) := id rfl
/-- the product of two rows, place by place -/
def dt (u v : Row) : Int := ((u.zip v).map fun q => q.1 * q.2).sum
theorem dt_dN : ∀ (u v : Row) {w : Nat}, u.length = w → v.length = w → dt u v = dN (fn u) (fn v) w := by
  have key : ∀ (w : Nat) (u v : Row), u.length = w → v.length = w → dt u v = dN (fn u) (fn v) w := by
    intro w
    induction w with
    | zero =>
      intro u v hu hv
      rw [List.length_eq_zero_iff.mp hu]; rfl
    | succ w ih =>
      intro u v hu hv
      obtain ⟨u', a, rfl⟩ : ∃ u' a, u = u' ++ [a] := ⟨u.dropLast, u.getLast (by intro e; subst e; cases hu), (List.dropLast_concat_getLast _).symm⟩
      obtain ⟨v', b, rfl⟩ : ∃ v' b, v = v' ++ [b] := ⟨v.dropLast, v.getLast (by intro e; subst e; cases hv), (List.dropLast_concat_getLast _).symm⟩
      have h1 : u'.length = w := by simpa using hu
      have h2 : v'.length = w := by simpa using hv
      rw [dN_last, fn_app_eq' h1, fn_app_eq' h2, dN_congr (fun i hi => fn_app_lt (by omega)) (fun i hi => fn_app_lt (by omega)), ← ih u' v' h1 h2]
      unfold dt
      rw [List.zip_append (by omega)]
      simp
  exact fun u v w => key w u v
theorem optc (c : Bool) (a b : Prop) [Decidable a] (h : c = true ↔ a) : c = decide a := by
  by_cases q : a
  · rw [decide_eq_true q]; exact h.mpr q
  · rw [decide_eq_false q]
    cases e : c with
    | false => rfl
    | true => exact absurd (h.mp e) q
def optL : Option Row → D
  | none => .lst []
  | some a => .lst [.tup (nums a)]
/-- weights put at their places -/
def spread (m : Nat) (sp : List Nat) (ws : Row) : Row := (List.range m).map fun i => ((sp.zip ws).lookup i).getD 0
theorem nol_non : D.nol .non = true := id rfl
theorem nol_bl (b : Bool) : D.nol (.bl b) = true := id rfl
theorem nol_int (i : Int) : D.nol (.int i) = true := id rfl
theorem nol_str (i : Str) : D.nol (.str i) = true := id rfl
theorem nol_tup (l : List D) : D.nol (.tup l) = D.nolL l := id rfl
theorem nol_lst (l : List D) : D.nol (.lst l) = false := id rfl
theorem nol_hnd : D.nol .hnd = true := id rfl
theorem nol_obj (c : Str) (l : List (Str × D)) : D.nol (.obj c l) = false := id rfl
theorem nol_dic (k v : List D) : D.nol (.dic k v) = false := id rfl
theorem nol_o (s : Sch) : D.nol s.o = false := id rfl
theorem nolL_nil : D.nolL [] = true := id rfl
theorem nolL_cons (d : D) (l : List D) : D.nolL (d :: l) = (D.nol d && D.nolL l) := id rfl
theorem nolL_map {α : Type} {f : α → D} (h : ∀ a, D.nol (f a) = true) : ∀ l : List α, D.nolL (l.map f) = true
  | [] => rfl
  | a :: l => by rw [List.map_cons, nolL_cons, h a, nolL_map h l]; rfl
theorem nolL_nums (l : List Int) : D.nolL (nums l) = true := nolL_map (fun _ => rfl) l
theorem nolL_nms (l : List Str) : D.nolL (nms l) = true := nolL_map (fun _ => rfl) l
theorem nolL_rws (l : List Row) : D.nolL (rws l) = true := nolL_map (f := fun r => D.tup (nums r)) (fun r => nolL_nums r) l
theorem nolL_prows (l : List HR) : D.nolL (prows l) = true := nolL_map (fun q => by
  show D.nolL [.str q.1, .tup (nums q.2)] = true
  simp [nolL_cons, nolL_nil, nol_str, nol_tup, nolL_nums]) l
theorem nol_t (s : Sch) : D.nol s.t = true := by
  show D.nolL [.int s.p, .tup (nms s.hs), .tup (prows s.rs)] = true
  simp [nolL_cons, nolL_nil, nol_int, nol_tup, nolL_nms, nolL_prows]
theorem atI_fn {r : Row} {j : Nat} (h : j < r.length) : L2.atI (nums r) (j : Int) = some (.int (fn r j)) := by
  rw [atI_nat]
  unfold nums
  rw [List.getElem?_map, List.getElem?_eq_getElem h, fn_lt h]; rfl
theorem place_first {l : List Row} {P : Row → Bool} {j : Nat} (h : l.findIdx? P = some j) : D.place (.tup (nums (l.getD j []))) (rws l) = some j := by
  obtain ⟨hj, h1, h2⟩ := List.findIdx?_eq_some_iff_getElem.mp h
  unfold D.place rws
  rw [List.findIdx?_eq_some_iff_getElem]
  have e : l.getD j [] = l[j] := by simp [List.getD, hj]
  refine ⟨by simpa using hj, ?_, fun i hi => ?_⟩
  · rw [e, List.getElem_map]
    show D.eqL (nums l[j]) (nums l[j]) = true
    rw [eqL_nums]; simp
  · rw [e, List.getElem_map]
    show ¬ D.eqL (nums l[i]) (nums l[j]) = true
    rw [eqL_nums]
    intro q
    have q := of_decide_eq_true q
    exact absurd (by rw [q]; exact h1) (h2 i hi)
theorem filter_first {α : Type} {P : α → Bool} : ∀ (l : List α), (l.filter P).take 1 = match l.findIdx? P with
    | some j => (l[j]?).toList
    | none => []
  | [] => rfl
  | x :: l => by
    rw [List.filter_cons, List.findIdx?_cons]
    cases e : P x with
    | true => simp
    | false =>
      have := filter_first (P := P) l
      simp only [Bool.false_eq_true, if_false]
      rw [this]
      cases l.findIdx? P <;> simp
theorem eqOk_rw (r : Row) (l : List Row) : D.eqOk (.tup (nums r)) (.lst (rws l)) := D.eqOk_ok (k := 1) (m := 2) (D.pn_ok (D.pn_tnums 0 r)) (D.pn_ok (d := .lst (rws l)) (pn_rws 0 l)) (by decide)
/-- less, as the sum with a multiple -/
theorem lessr_plus (p : Int) (u v : Row) (c : Int) : List.zipWith (fun a b => (a + b) % p) u (scal p (-c) v) = lessr p u c v := by
  unfold scal lessr
  rw [List.zipWith_map_right]
  congr 1
  funext a b
  rw [Int.add_emod, Int.emod_emod, ← Int.add_emod]
  congr 1
  rw [Int.neg_mul]; omega
theorem frz1_out (is : List Nat) (k : Nat) (s : Sl) (h : is.contains k = false) : frz1 is k s = s := by
  cases s with
  | own xs => rw [frz1_own, h]; rfl
  | _ => rfl
theorem map_eraseIdx {α β : Type} (f : α → β) : ∀ (l : List α) (j : Nat), (l.map f).eraseIdx j = (l.eraseIdx j).map f
  | [], _ => rfl
  | _ :: _, 0 => rfl
  | x :: l, j + 1 => by
    show f x :: (l.map f).eraseIdx j = _
    rw [map_eraseIdx f l j]; rfl
theorem bop_add_lst {xs ys : List D} (h : xs.length + ys.length ≤ 2 ^ 24) : bopD .add (.lst xs) (.lst ys) = ret (.lst (xs ++ ys)) := M.must_true h _
theorem bop_add_tup {xs ys : List D} (h : xs.length + ys.length ≤ 2 ^ 24) : bopD .add (.tup xs) (.tup ys) = ret (.tup (xs ++ ys)) := M.must_true h _
theorem bstep_len (p : Int) (iv : Int → Int) (s : BS) (k : Nat) : (bstep p iv s k).left.length + (bstep p iv s k).found.length = s.left.length + s.found.length ∧ (s.places.length = s.found.length → (bstep p iv s k).places.length = (bstep p iv s k).found.length) := by
  unfold bstep
  cases q : s.left.findIdx? fun r => fn r k != 0 with
  | none => exact ⟨rfl, id⟩
  | some j =>
    obtain ⟨hj, _⟩ := List.findIdx?_eq_some_iff_getElem.mp q
    simp [List.length_eraseIdx, hj]
    omega
theorem brS_len (p : Int) (iv : Int → Int) (rows : List Row) (w : Nat) : (brS p iv rows w).left.length + (brS p iv rows w).found.length = rows.length ∧ (brS p iv rows w).places.length = (brS p iv rows w).found.length := by
  unfold brS
  induction w with
  | zero => exact ⟨rfl, rfl⟩
  | succ w ih =>
    rw [List.range_succ, List.foldl_append]
    have := bstep_len p iv ((List.range w).foldl (bstep p iv) ⟨rows, [], []⟩) w
    exact ⟨this.1.trans ih.1, this.2 ih.2⟩
theorem forL_map {β α : Type} {t : Tg} {body : En → M Fl} (h : β → D) (st : α → En) (f : α → β → α) (P : α → Prop) : ∀ {l : List β} {ρ : En} (a : α), ρ = st a → P a →
    (∀ x ∈ l, ∀ a, P a → P (f a x) ∧ ∃ ρ1, bindS t (h x) (st a) = some ρ1 ∧ body ρ1 = ret (.nx (st (f a x)))) → forL t body (l.map h) ρ = ret (.nx (st (l.foldl f a)))
  | [], _, a, e, _, _ => by subst e; rfl
  | x :: l, _, a, e, hP, hs => by
    subst e
    obtain ⟨hP', ρ1, e1, hb⟩ := hs x List.mem_cons_self a hP
    show M.bind (M.ofO (bindS t (h x) (st a))) _ = _
    rw [e1, M.ofO_some, M.ret_bind, hb, M.ret_bind]
    exact forL_map h st f P (f a x) rfl hP' fun y hy => hs y (List.mem_cons_of_mem _ hy)
theorem ixN_nat {m i : Nat} (h : i < m) : L2.ixN m (i : Int) = some i := by
  unfold L2.ixN
  rw [if_pos (by omega), if_pos (by omega)]; simp
theorem cut_dp (xs : List D) (i : Nat) : D.cut xs (some (i : Int)) none = xs.drop i := by
  unfold D.cut
  rw [HT.sIx_none, HT.sIx_nat]
  by_cases h : i ≤ xs.length
  · rw [Nat.min_eq_left h, List.take_of_length_le (by simp)]
  · rw [Nat.min_eq_right (by omega), List.drop_of_length_le (Nat.le_refl _), List.drop_of_length_le (by omega)]; simp
theorem zip_rws (A : List Row) (P : List Nat) : List.zipWith (fun a b => D.tup [a, b]) (rws A) (nums (ixs P)) = (A.zip P).map fun q => D.tup [.tup (nums q.1), .int (q.2 : Int)] := by
  unfold rws nums ixs
  rw [List.map_map]
  exact zip_gen _ _ A P
theorem zip_left {α β : Type} (a b : List α) (p : List β) (h : p.length = a.length) : (a ++ b).zip p = a.zip p := by
  conv => lhs; rw [← List.append_nil p]
  rw [List.zip_append h.symm]; simp
theorem all_map_bl {α : Type} (q : α → Bool) (xs : List α) : D.asBls (xs.map fun x => D.bl (q x)) = some (xs.map q) := asBls_map' q xs
theorem lst_ne (xs ys : List D) (h : D.eqOk (.lst xs) (.lst ys)) : cmpD .ne (.lst xs) (.lst ys) = ret (.bl (!D.eqL xs ys)) := cmp_ne_of h
theorem lone_len (w k : Nat) : (List.range w).map (fun i => if i = k then (1 : Int) else 0) = (List.range w).map fun i => if i = k then 1 else 0 := rfl
theorem optL_ne (o : Option Row) : cmpD .ne (optL o) (.lst []) = ret (.bl o.isSome) := by
  cases o with
  | none => exact M.must_true ⟨1, 1, rfl, rfl, by decide⟩ _
  | some a => exact M.must_true (D.eqOk_ok (k := 2) (m := 2) (D.pn_ok (d := .lst [.tup (nums a)]) (by rw [D.pn_lst, List.all_cons, D.pn_tnums]; rfl)) rfl (by decide)) _
theorem optL_eq (o : Option Row) : cmpD .eq (optL o) (.lst []) = ret (.bl (!o.isSome)) := by
  cases o with
  | none => exact M.must_true ⟨1, 1, rfl, rfl, by decide⟩ _
  | some a => exact M.must_true (D.eqOk_ok (k := 2) (m := 2) (D.pn_ok (d := .lst [.tup (nums a)]) (by rw [D.pn_lst, List.all_cons, D.pn_tnums]; rfl)) rfl (by decide)) _
theorem seq_tup (xs : List D) : D.seq (.tup xs) = ret xs := id rfl
theorem seq_lst (xs : List D) : D.seq (.lst xs) = ret xs := id rfl
theorem rows_map (rows : List Row) (w : Nat) : (ixs (List.range w)).map (fun x => D.tup (nums (rows.map fun r => fn r x.toNat))) = rws (cols rows w) := by
  unfold ixs rws cols
  rw [List.map_map, List.map_map]
  exact List.map_congr_left fun k _ => by simp
theorem bop_mul_tup (x : D) (k : Nat) (h : k ≤ 1000) : bopD .mul (.tup [x]) (.int k) = ret (.tup (List.replicate k x)) := by
  show M.must _ _ = _
  rw [M.must_true ⟨by simp, by omega, by omega, by simp⟩]
  congr 2
  rw [show (k : Int).toNat = k by omega]
  clear h
  induction k with
  | zero => rfl
  | succ k ih => rw [List.replicate_succ, List.flatten_cons, ih]; rfl
def optN : Option Row → D
  | none => .non
  | some a => .tup (nums a)
theorem keyr_vec {p : Int} {w : Nat} (hp : 2 ≤ p) : Vec p w (keyr w) := by
  refine ⟨by simp [keyr], fun x hx => ?_⟩
  obtain ⟨i, _, rfl⟩ := List.mem_map.mp hx
  split <;> omega
theorem Sch.Ok.rows_v {s : Sch} {w : Nat} (h : s.Ok w) : ∀ r ∈ s.rows, Vec s.p w r := fun r hr => by
  obtain ⟨q, hq, rfl⟩ := List.mem_map.mp hr
  exact h.rv q hq
theorem Sch.Ok.rof_v {s : Sch} {w : Nat} (h : s.Ok w) (some : List Str) : ∀ r ∈ s.rof some, Vec s.p w r := fun r hr => by
  obtain ⟨q, hq, rfl⟩ := List.mem_map.mp hr
  exact h.rv q (List.mem_filter.mp hq).1
theorem Sch.rof_len (s : Sch) (some : List Str) : (s.rof some).length ≤ s.rs.length := by
  unfold Sch.rof
  rw [List.length_map]
  exact List.length_filter_le _ _
theorem Sch.spots_len (s : Sch) (some : List Str) : (s.spots some).length = (s.rof some).length := by
  unfold Sch.rof Sch.spots
  rw [List.length_map, List.length_map]
  have : ∀ (l : List HR) (k : Nat), ((l.zipIdx k).filter fun q => decide (q.1.1 ∈ some)).length = (l.filter fun q => decide (q.1 ∈ some)).length := by
    intro l
    induction l with
    | nil => intro k; rfl
    | cons x l ih =>
      intro k
      rw [List.zipIdx_cons, List.filter_cons, List.filter_cons]
      by_cases h : x.1 ∈ some
      · simp [h, ih]
      · simp [h, ih]
  exact this s.rs 0
def od : Option Int → D
  | none => .non
  | some i => .int i
def ods (l : List (Option Int)) : List D := l.map od
@[simp] theorem ods_length (l : List (Option Int)) : (ods l).length = l.length := by simp [ods]
/-- what is seen of a dealing -/
def Sch.seen (s : Sch) (dl : Row) (some : List Str) : List (Option Int) := s.rs.map fun q => if q.1 ∈ some then Option.some (dt q.2 dl % s.p) else none
def Sch.shares (s : Sch) (dl : Row) : Row := s.rs.map fun q => dt q.2 dl % s.p
theorem _root_.LA.Vec.small {p : Int} {w : Nat} {r : Row} (h : Vec p w r) (hp : p ≤ 97) : ∀ x ∈ r, x.natAbs < 2 ^ 64 := fun x hx => by have := h.b x hx; omega
theorem head_prows {l : List HR} (h : 1 ≤ l.length) : ∃ q l', l = q :: l' ∧ L2.atI (prows l) 0 = some (prow q) := by
  cases l with
  | nil => cases h
  | cons q l' => exact ⟨q, l', rfl, atI_0 _ _⟩
theorem atI_1 {α : Type} (x y : α) (l : List α) : L2.atI (x :: y :: l) 1 = some y := by
  have := atI_nat (x :: y :: l) 1
  simpa using this
theorem atI_2 {α : Type} (x y z : α) (l : List α) : L2.atI (x :: y :: z :: l) 2 = some z := by
  have := atI_nat (x :: y :: z :: l) 2
  simpa using this
theorem prow_0 (q : HR) : idxD (prow q) (.int 0) = ret (.str q.1) := by
  show M.ofO (L2.atI [D.str q.1, .tup (nums q.2)] 0) = _
  rw [atI_0]; rfl
theorem prow_1 (q : HR) : idxD (prow q) (.int 1) = ret (.tup (nums q.2)) := by
  show M.ofO (L2.atI [D.str q.1, .tup (nums q.2)] 1) = _
  rw [atI_1]; rfl
theorem t_0 (s : Sch) : idxD s.t (.int 0) = ret (.int s.p) := by
  show M.ofO (L2.atI [D.int s.p, .tup (nms s.hs), .tup (prows s.rs)] 0) = _
  rw [atI_0]; rfl
theorem t_1 (s : Sch) : idxD s.t (.int 1) = ret (.tup (nms s.hs)) := by
  show M.ofO (L2.atI [D.int s.p, .tup (nms s.hs), .tup (prows s.rs)] 1) = _
  rw [atI_1]; rfl
theorem t_2 (s : Sch) : idxD s.t (.int 2) = ret (.tup (prows s.rs)) := by
  show M.ofO (L2.atI [D.int s.p, .tup (nms s.hs), .tup (prows s.rs)] 2) = _
  rw [atI_2]; rfl
theorem prop_o (o : Ora) (x : Str) (s : Sch) : propD o "Scheme" x s.o = M.nox (o.prop "Scheme" x s.o) := id rfl
theorem prows_ne {l : List HR} : cmpD .eq (.tup (prows l)) (.tup []) = ret (.bl l.isEmpty) := by
  rw [cmp_eq_of (D.eqOk_ok (k := 3) (m := 3) (D.pn_ok (pn_tprows 0 l)) rfl (by decide))]
  cases l <;> rfl
theorem key_lone (w : Nat) : (List.range w).map (fun i => if i = 0 then (1 : Int) else 0) = keyr w := rfl
/-- a dict of unlike indexes, looked up -/
theorem look2_ixs (i : Nat) : ∀ (sp : List Nat) (ws : Row), (D.look2 (.int (i : Int)) (nums (ixs sp)) (nums ws)).getD (.int 0) = .int (((sp.zip ws).lookup i).getD 0)
  | [], _ => rfl
  | _ :: _, [] => rfl
  | a :: sp, w :: ws => by
    show (if D.eq (.int (a : Int)) (.int (i : Int)) = true then some (D.int w) else D.look2 _ (nums (ixs sp)) (nums ws)).getD _ = _
    rw [List.zip_cons_cons, List.lookup_cons]
    by_cases h : i = a
    · subst h
      simp [D.eq]
    · have h1 : ¬ D.eq (.int (a : Int)) (.int (i : Int)) = true := by simp [D.eq]; omega
      have h2 : (i == a) = false := by simpa using h
      rw [if_neg h1, h2]
      exact look2_ixs i sp ws
theorem ixs_nodup {sp : List Nat} (h : sp.Nodup) : (nums (ixs sp)).Nodup := by
  unfold nums ixs
  rw [List.map_map, List.nodup_iff_pairwise_ne, List.pairwise_map]
  exact (List.nodup_iff_pairwise_ne.mp h).imp fun h e => h (Int.ofNat.inj (D.int.inj e))
theorem zipIdx_mem {l : List HR} {q : HR × Nat} (h : q ∈ l.zipIdx) : l[q.2]? = some q.1 := by
  obtain ⟨q1, i⟩ := q
  have := List.mem_zipIdx_iff_getElem?.mp h
  exact this
theorem Sch.spots_asc (s : Sch) (some : List Str) : (s.spots some).Pairwise (· < ·) := by
  unfold Sch.spots
  rw [List.pairwise_map]
  refine List.Pairwise.filter _ ?_
  have : ∀ (l : List HR) (k : Nat), (l.zipIdx k).Pairwise fun a b => a.2 < b.2 := by
    intro l
    induction l with
    | nil => intro k; exact .nil
    | cons x l ih =>
      intro k
      rw [List.zipIdx_cons]
      refine List.pairwise_cons.mpr ⟨fun q hq => ?_, ih (k + 1)⟩
      have := List.le_snd_of_mem_zipIdx hq
      show k < q.2
      omega
  exact this s.rs 0
theorem Sch.spots_lt (s : Sch) (some : List Str) : ∀ i ∈ s.spots some, i < s.rs.length := fun i hi => by
  unfold Sch.spots at hi
  obtain ⟨q, hq, rfl⟩ := List.mem_map.mp hi
  exact (List.getElem?_eq_some_iff.mp (zipIdx_mem (List.mem_filter.mp hq).1)).1
/-- plain data, no great list -/
def D.sm : Nat → D → Bool
  | _, .non => true
  | _, .bl _ => true
  | _, .int _ => true
  | _, .str _ => true
  | k + 1, .tup xs => decide (xs.length ≤ 2 ^ 24) && xs.all (D.sm k)
  | k + 1, .lst xs => decide (xs.length ≤ 2 ^ 24) && xs.all (D.sm k)
  | _, _ => false
theorem D.sm_int (k : Nat) (i : Int) : D.sm k (.int i) = true := by cases k <;> rfl
theorem D.sm_str (k : Nat) (i : Str) : D.sm k (.str i) = true := by cases k <;> rfl
theorem D.sm_bl (k : Nat) (i : Bool) : D.sm k (.bl i) = true := by cases k <;> rfl
theorem D.sm_non (k : Nat) : D.sm k .non = true := by cases k <;> rfl
theorem D.sm_tup {k : Nat} {xs : List D} (h : xs.length ≤ 2 ^ 24) (h2 : ∀ x ∈ xs, D.sm k x = true) : D.sm (k + 1) (.tup xs) = true := by
  show (decide _ && _) = true
  rw [decide_eq_true h, List.all_eq_true.mpr h2]; rfl
theorem D.sm_lst {k : Nat} {xs : List D} (h : xs.length ≤ 2 ^ 24) (h2 : ∀ x ∈ xs, D.sm k x = true) : D.sm (k + 1) (.lst xs) = true := by
  show (decide _ && _) = true
  rw [decide_eq_true h, List.all_eq_true.mpr h2]; rfl
theorem D.sm_nums {k : Nat} {xs : List Int} (h : xs.length ≤ 2 ^ 24) : D.sm (k + 1) (.tup (nums xs)) = true := D.sm_tup (by simpa using h) fun x hx => by
  obtain ⟨i, _, rfl⟩ := List.mem_map.mp hx; exact D.sm_int k i
theorem D.sm_nms {k : Nat} {xs : List Str} (h : xs.length ≤ 2 ^ 24) : D.sm (k + 1) (.tup (nms xs)) = true := D.sm_tup (by simpa using h) fun x hx => by
  obtain ⟨i, _, rfl⟩ := List.mem_map.mp hx; exact D.sm_str k i
theorem D.sm_ods {k : Nat} {xs : List (Option Int)} (h : xs.length ≤ 2 ^ 24) : D.sm (k + 1) (.tup (ods xs)) = true := D.sm_tup (by simpa using h) fun x hx => by
  obtain ⟨i, _, rfl⟩ := List.mem_map.mp hx
  cases i with
  | none => exact D.sm_non k
  | some i => exact D.sm_int k i
end Ev
set_option Elab.async false
set_option linter.all false
set_option maxRecDepth 100000
set_option maxHeartbeats 1000000
/-! drawn names; sorting of names, of pairs -/
namespace Ev
open PySem LA
theorem cs_cut (x : Str) (k : Nat) : cs (L2.cutS x none (some (k : Int))) = (cs x).take k := by
  unfold L2.cutS
  rw [HT.sIx_none, HT.sIx_nat]
  show ((x.cps.toList.drop 0).take (min k x.length - 0)).toArray.toList = _
  have h : x.length = (cs x).length := cs_len x
  rw [List.toList_toArray, List.drop_zero, h, Nat.sub_zero]
  show (cs x).take (min k (cs x).length) = _
  by_cases hk : k ≤ (cs x).length
  · rw [Nat.min_eq_left hk]
  · rw [Nat.min_eq_right (by omega), List.take_of_length_le (Nat.le_refl _), List.take_of_length_le (by omega)]
theorem sl_str (x : Str) (k : Nat) (h : (cs x).length ≤ 2 ^ 24) : slD (.str x) none (some (k : Int)) = ret (.str (L2.cutS x none (some (k : Int)))) := by
  show M.must _ _ = _
  rw [cs_len, M.must_true (show _ ≤ sizeLine from h)]
theorem bop_add_str {x y : Str} (h : (cs x).length + (cs y).length ≤ 2 ^ 24) : bopD .add (.str x) (.str y) = ret (.str (x ++ y)) := by
  show M.must _ _ = _
  rw [cs_len, cs_len, M.must_true (show _ ≤ sizeLine from h)]
theorem split_1 : mthD .split (.str "add all book coin deal end epoch holder in key look lost no none of open or plan prime quit row rows") [.str " "] = ret (.lst (nms (WORDSl.take 22))) := by
  show M.must _ (ret (D.lst ((Txt.split _ _).map D.str))) = _
  rw [M.must_true (by decide +kernel)]
  have e : Txt.split ("add all book coin deal end epoch holder in key look lost no none of open or plan prime quit row rows" : Str) " " = WORDSl.take 22 := by decide +kernel
  rw [e]; rfl
theorem split_2 : mthD .split (.str "scheme see share strike sum undo yes") [.str " "] = ret (.lst (nms (WORDSl.drop 22))) := by
  show M.must _ (ret (D.lst ((Txt.split _ _).map D.str))) = _
  rw [M.must_true (by decide +kernel)]
  have e : Txt.split ("scheme see share strike sum undo yes" : Str) " " = WORDSl.drop 22 := by decide +kernel
  rw [e]; rfl
theorem mtok_split (x : Str) : mtOk .split (.str x) = true := id rfl
theorem words_cat : nms (WORDSl.take 22) ++ nms (WORDSl.drop 22) = nms WORDSl := by rw [← nms_app, List.take_append_drop]
/-- letters alone, one to eight -/
structure Wd (x : Str) : Prop where
  ne : cs x ≠ []
  le : (cs x).length ≤ 8
  az : ∀ c ∈ cs x, c ∈ cs azs
/-- letters that end none of the words -/
def rare : List Nat := [97, 98, 99, 103, 105, 106, 112, 113, 117, 118, 120, 122]
theorem rare_no : ∀ w ∈ WORDSl, ∀ c ∈ rare, (cs w).getLast? ≠ some c := by decide +kernel
theorem rare_az : ∀ c ∈ rare, c ∈ cs azs := by decide +kernel
theorem rare_nd : rare.Nodup := by decide
def sg (c : Nat) : Str := ⟨#[c]⟩
theorem cs_sg (c : Nat) : cs (sg c) = [c] := rfl
def cand (w : Str) : List Str := w :: (cs azs).map fun c => L2.cutS w none (some 7) ++ sg c
theorem cand_wd {w : Str} (h : Wd w) : ∀ x ∈ cand w, Wd x := fun x hx => by
  rcases List.mem_cons.mp hx with rfl | hx
  · exact h
  · obtain ⟨c, hc, rfl⟩ := List.mem_map.mp hx
    have e : cs (L2.cutS w none (some 7) ++ sg c) = (cs w).take 7 ++ [c] := by rw [cs_app, cs_sg]; congr 1; exact cs_cut w 7
    refine ⟨by rw [e]; simp, by rw [e]; simp; omega, fun d hd => ?_⟩
    rw [e] at hd
    rcases List.mem_append.mp hd with hd | hd
    · exact h.az d (List.mem_of_mem_take hd)
    · rw [List.mem_singleton.mp hd]; exact hc
/-- one of the candidates is free -/
theorem cand_free (w : Str) (fs : List Str) (hf : fs.length < 12) : ∃ x ∈ cand w, x ∉ WORDSl ++ fs := by
  let ys := rare.map fun c => L2.cutS w none (some 7) ++ sg c
  have e : ∀ c, cs (L2.cutS w none (some 7) ++ sg c) = (cs w).take 7 ++ [c] := fun c => by rw [cs_app, cs_sg]; congr 1; exact cs_cut w 7
  have nd : ys.Nodup := by
    rw [List.nodup_iff_pairwise_ne, List.pairwise_map]
    refine (List.nodup_iff_pairwise_ne.mp rare_nd).imp fun {a b} h q => h ?_
    have := congrArg cs q
    rw [e, e] at this
    simpa using this
  have hex : ∃ y ∈ ys, y ∉ fs := by
    refine Classical.byContradiction fun q => ?_
    have hs : ys ⊆ fs := fun y hy => Classical.byContradiction fun h => q ⟨y, hy, h⟩
    have := nd.length_le_of_subset hs
    have h2 : ys.length = 12 := by simp [ys, rare]
    omega
  obtain ⟨y, hy, hn⟩ := hex
  obtain ⟨c, hc, rfl⟩ := List.mem_map.mp hy
  refine ⟨_, List.mem_cons_of_mem _ (List.mem_map.mpr ⟨c, rare_az c hc, rfl⟩), fun h => ?_⟩
  rcases List.mem_append.mp h with h | h
  · refine rare_no _ h c hc ?_
    rw [e]; simp
  · exact hn h
theorem Wd.nm {x : Str} (h : Wd x) (hw : x ∉ WORDSl) : Nm x := ⟨h.ne, h.le, h.az, hw⟩
/-- sorted names -/
theorem le_str (x y : Str) : PySem.W.dataLe false D.toPy (.str x) (.str y) = decide (cs x ≤ cs y) := by
  have := PySem.W.dataLe_str (β := Str) fun b => b
  exact congrFun (congrFun this x) y
theorem toPyL_eq : ∀ l : List D, D.toPyL l = l.map D.toPy
  | [] => rfl
  | x :: l => by
    show D.toPy x :: D.toPyL l = _
    rw [toPyL_eq l]; rfl
theorem sortOk_nms {l : List Str} (h : l.length ≤ 2 ^ 24) : D.SortOk (nms l) := by
  have hm : ∀ d ∈ (nms l).map D.toPy, ∃ x, d = .str x := fun d hd => by
    obtain ⟨y, hy, rfl⟩ := List.mem_map.mp hd
    obtain ⟨x, _, rfl⟩ := List.mem_map.mp hy
    exact ⟨x, rfl⟩
  refine ⟨fun d hd d' hd' => ?_, .inr fun d hd => ?_, by rw [nms_length]; exact h, fun d hd => ?_⟩
  · obtain ⟨x, rfl⟩ := hm d hd
    obtain ⟨y, rfl⟩ := hm d' hd'
    simp [PySem.W.alike]
  · obtain ⟨x, rfl⟩ := hm d hd
    exact ⟨fun e => (by cases e), fun xs e => (by cases e)⟩
  · obtain ⟨x, _, rfl⟩ := List.mem_map.mp hd
    exact ⟨0, rfl, by omega⟩
theorem perm_nms {ys : List D} {xs : List Str} (h : ys.Perm (nms xs)) : ∃ zs, ys = nms zs ∧ zs.Perm xs := by
  let g : D → Str := fun d => match d with | .str x => x | _ => ""
  refine ⟨ys.map g, ?_, ?_⟩
  · have : ∀ y ∈ ys, D.str (g y) = y := fun y hy => by
      obtain ⟨x, _, rfl⟩ := List.mem_map.mp (h.mem_iff.mp hy)
      rfl
    unfold nms
    rw [List.map_map]
    conv => lhs; rw [← List.map_id ys]
    exact List.map_congr_left fun y hy => (this y hy).symm
  · have := h.map g
    unfold nms at this
    rw [List.map_map] at this
    have e : (g ∘ D.str) = id := rfl
    rw [e, List.map_id] at this
    exact this
theorem sort_nms (l : List Str) : ∃ l', D.sort (nms l) = nms l' ∧ l'.Perm l ∧ l'.Pairwise fun x y => cs x ≤ cs y := by
  obtain ⟨l', e, hp⟩ := perm_nms (sort_perm (nms l))
  refine ⟨l', e, hp, ?_⟩
  have := sort_sorted (nms l)
  rw [e] at this
  unfold nms at this
  rw [List.pairwise_map] at this
  exact this.imp fun {x y} h => by rw [le_str] at h; exact of_decide_eq_true h
theorem asc_of {l : List Str} (h : l.Pairwise fun x y => cs x ≤ cs y) (nd : l.Nodup) : Asc l := by
  have := h.and (List.nodup_iff_pairwise_ne.mp nd)
  exact this.imp fun {x y} ⟨h1, h2⟩ => Std.lt_of_le_of_ne h1 fun e => h2 (cs_inj e)
theorem q_sorted {xs : List D} (h : D.SortOk xs) : bltD .sorted [.lst xs] = ret (.lst (D.sort xs)) := M.must_true h _
/-- pairs of a name and an index, sorted: by the name -/
def pk (q : Str × Nat) : D := .tup [.str q.1, .int (q.2 : Int)]
theorem toPy_pk (q : Str × Nat) : D.toPy (pk q) = .tuple [.str q.1, .int (q.2 : Int)] := id rfl
theorem sortOk_pk {l : List (Str × Nat)} (h : l.length ≤ 2 ^ 24) : D.SortOk (l.map pk) := by
  have hm : ∀ d ∈ (l.map pk).map D.toPy, ∃ q : Str × Nat, d = .tuple [.str q.1, .int (q.2 : Int)] := fun d hd => by
    obtain ⟨y, hy, rfl⟩ := List.mem_map.mp hd
    obtain ⟨x, _, rfl⟩ := List.mem_map.mp hy
    exact ⟨x, rfl⟩
  refine ⟨fun d hd d' hd' => ?_, .inl fun d hd => ?_, by rw [List.length_map]; exact h, fun d hd => ?_⟩
  · obtain ⟨x, rfl⟩ := hm d hd
    obtain ⟨y, rfl⟩ := hm d' hd'
    simp [PySem.W.alike, PySem.W.alikeAll]
  · obtain ⟨x, rfl⟩ := hm d hd
    exact ⟨_, _, rfl⟩
  · obtain ⟨x, _, rfl⟩ := List.mem_map.mp hd
    exact ⟨1, rfl, by omega⟩
theorem le_pk {a b : Str × Nat} (h : PySem.W.dataLe false D.toPy (pk a) (pk b) = true) : cs a.1 ≤ cs b.1 := by
  have h : (!PySem.W.dataLt (.tuple [.str b.1, .int (b.2 : Int)]) (.tuple [.str a.1, .int (a.2 : Int)])) = true := h
  rw [PySem.W.dataLt_pair (by simp [PySem.W.alike]) (by simp [PySem.W.alike]), PySem.W.dataLt_str] at h
  by_cases e : PyData.eqv (.str b.1) (.str a.1) = true
  · have : b.1 = a.1 := by simpa [PyData.eqv] using e
    rw [this]; exact List.le_refl _
  · rw [if_neg e] at h
    refine List.not_lt.mp fun q => ?_
    rw [show (decide (b.1.cps.toList < a.1.cps.toList)) = true from decide_eq_true q] at h
    cases h
theorem perm_map {α : Type} {f : α → D} {g : D → α} (hg : ∀ x, g (f x) = x) {ys : List D} {xs : List α} (h : ys.Perm (xs.map f)) : ∃ zs : List α, ys = zs.map f ∧ zs.Perm xs := by
  refine ⟨ys.map g, ?_, ?_⟩
  · rw [List.map_map]
    conv => lhs; rw [← List.map_id ys]
    refine List.map_congr_left fun y hy => ?_
    obtain ⟨x, _, rfl⟩ := List.mem_map.mp (h.mem_iff.mp hy)
    show f x = f (g (f x))
    rw [hg]
  · have := h.map g
    rw [List.map_map] at this
    have e : g ∘ f = id := funext hg
    rw [e, List.map_id] at this
    exact this
theorem sort_pk (l : List (Str × Nat)) : ∃ l' : List (Str × Nat), D.sort (l.map pk) = l'.map pk ∧ l'.Perm l ∧ l'.Pairwise fun x y => cs x.1 ≤ cs y.1 := by
  obtain ⟨l', e, hp⟩ := perm_map (f := pk) (g := fun d => match d with | .tup [.str x, .int k] => (x, k.toNat) | _ => ("", 0)) (fun x => rfl) (sort_perm (l.map pk))
  refine ⟨l', e, hp, ?_⟩
  have := sort_sorted (l.map pk)
  rw [e, List.pairwise_map] at this
  exact this.imp fun {x y} h => le_pk h
/-- a comprehension that draws, some left out -/
theorem lcM_w2 {α : Type} {t : Tg} {v : Vw} {mc : Vw → M Bool} {me : Vw → M D} {l : List α} {h : α → D} {P : α → Option D → Prop} {Q : List D → Prop} {R : Xn → Prop} (hl : l.length ≤ 2 ^ 24)
    (hs : ∀ x ∈ l, (lcStep t v mc me (h x)).w (P x) fun _ => False) (hq : ∀ os, M.All2 P l os → Q (os.filterMap id)) : (lcM t v (ret (l.map h)) mc me).w Q R := by
  unfold lcM
  rw [M.ret_bind, M.must_true (by rw [List.length_map]; exact hl)]
  have e : M.mapM (lcStep t v mc me) (l.map h) = M.mapM (fun x => lcStep t v mc me (h x)) l := by
    clear hl hs hq
    induction l with
    | nil => rfl
    | cons x l ih => rw [List.map_cons, M.mapM_cons, M.mapM_cons, ih]
  rw [e]
  show (M.mapM _ _).w (fun os => Q (os.filterMap id)) fun _ => False
  exact M.mapM_w hs hq
theorem nos_slf : D.nos .slf = false := id rfl
theorem prowsL_ne (l : List HR) : cmpD .ne (.lst (prows l)) (.lst []) = ret (.bl (!l.isEmpty)) := by
  rw [cmp_ne_of (D.eqOk_ok (k := 3) (m := 3) (D.pn_ok (d := .lst (prows l)) (pn_prows 0 l)) rfl (by decide))]
  cases l <;> rfl
theorem nolL_pk (l : List (Str × Nat)) : D.nolL (l.map pk) = true := nolL_map (fun _ => rfl) l
/-- rows put in the order of their holders -/
theorem sorted_rows {rs : List HR} {l' : List (Str × Nat)} (hp : l'.Perm (rs.zipIdx.map fun q => (q.1.1, q.2))) (hs : l'.Pairwise fun x y => cs x.1 ≤ cs y.1) :
    ∃ rs' : List HR, (l'.map fun q => (rs[q.2]?).map prow) = rs'.map (fun q => some (prow q)) ∧ rs'.Perm rs ∧ rs'.Pairwise fun a b => cs a.1 ≤ cs b.1 := by
  have hm : ∀ q ∈ l', ∃ r, rs[q.2]? = some r ∧ r.1 = q.1 := fun q hq => by
    obtain ⟨x, hx, rfl⟩ := List.mem_map.mp (hp.mem_iff.mp hq)
    exact ⟨x.1, zipIdx_mem hx, rfl⟩
  refine ⟨l'.map fun q => (rs[q.2]?).getD default, ?_, ?_, ?_⟩
  · rw [List.map_map]
    refine List.map_congr_left fun q hq => ?_
    obtain ⟨r, h1, _⟩ := hm q hq
    simp [h1]
  · have h1 := hp.map fun q => (rs[q.2]?).getD default
    rw [List.map_map] at h1
    have h2 : rs.zipIdx.map ((fun q : Str × Nat => (rs[q.2]?).getD default) ∘ fun q => (q.1.1, q.2)) = rs := by
      have : ∀ q ∈ rs.zipIdx, ((fun q : Str × Nat => (rs[q.2]?).getD default) ∘ fun q : HR × Nat => (q.1.1, q.2)) q = q.1 := fun q hq => by
        have := zipIdx_mem hq
        simp [this]
      rw [List.map_congr_left this]
      exact List.zipIdx_map_fst 0 rs
    rw [h2] at h1
    exact h1
  · rw [List.pairwise_map]
    refine List.Pairwise.imp_of_mem (fun {a b} ha hb h => ?_) hs
    obtain ⟨r, h1, h2⟩ := hm a ha
    obtain ⟨r', h3, h4⟩ := hm b hb
    simp only [h1, h3, Option.getD_some, h2, h4]
    exact h
end Ev
set_option linter.all false
namespace LA
theorem cmb_dN (rows : List Row) (c x : V) (w : Nat) : dN (fun i => cmb rows c i) x w = dN (fun k => dN (fn (rows.getD k [])) x w) c rows.length := by
  unfold cmb
  generalize rows.length = n
  induction n with
  | zero => exact dN_zero x w
  | succ n ih =>
    rw [dN_last, ← ih, ← Int.mul_comm (c n), ← dN_add]
    exact dN_congr (fun i _ => by show _ = _ + c n * _; rw [dN_last, Int.mul_comm]) fun _ _ => rfl
theorem dN_dvd {p : Int} {u v : V} (x : V) : ∀ {w : Nat}, (∀ i < w, p ∣ u i - v i) → p ∣ dN u x w - dN v x w
  | 0, _ => ⟨0, by simp [dN]⟩
  | w + 1, h => by
    rw [dN_last, dN_last]
    have h1 := dN_dvd x (w := w) fun i hi => h i (by omega)
    have h2 := h w (by omega)
    have e : dN u x w + u w * x w - (dN v x w + v w * x w) = (dN u x w - dN v x w) + (u w - v w) * x w := by grind
    rw [e]
    exact Int.dvd_add h1 (Int.dvd_mul_of_dvd_left h2)
/-- weights that make a goal tell, of all shares, the goal's -/
theorem weigh {p : Int} {rows : List Row} {goal c x : V} {w : Nat} (h : ∀ i < w, p ∣ cmb rows c i - goal i) : p ∣ dN (fun k => dN (fn (rows.getD k [])) x w) c rows.length - dN goal x w := by
  rw [← cmb_dN]
  exact dN_dvd x h
theorem mod_dvd (a p : Int) : p ∣ a % p - a := ⟨-(a / p), by have := Int.mul_ediv_add_emod a p; grind⟩
theorem mod_of_dvd {p a b : Int} (h : p ∣ a - b) (hb : 0 ≤ b ∧ b < p) : a % p = b := by
  obtain ⟨k, hk⟩ := h
  have : a = b + p * k := by omega
  rw [this, Int.add_mul_emod_self_left]
  exact Int.emod_eq_of_lt hb.1 hb.2
theorem mod_congr {p a b : Int} (h : p ∣ a - b) : a % p = b % p := by
  obtain ⟨k, hk⟩ := h
  have : a = b + p * k := by omega
  rw [this, Int.add_mul_emod_self_left]
end LA
set_option Elab.async false
set_option linter.all false
set_option maxRecDepth 100000
set_option maxHeartbeats 1000000
/-! weights, shares: what weights make of shares -/
namespace Ev
open PySem LA
/-- weights at the rows of some holders, 0 elsewhere -/
def spr (sm : List Str) : List HR → Row → Row
  | [], _ => []
  | q :: l, a => if q.1 ∈ sm then a.headD 0 :: spr sm l a.tail else 0 :: spr sm l a
def spF (sm : List Str) (k : Nat) (l : List HR) : List Nat := ((l.zipIdx k).filter fun q => decide (q.1.1 ∈ sm)).map (·.2)
theorem spF_cons (sm : List Str) (k : Nat) (q : HR) (l : List HR) : spF sm k (q :: l) = if q.1 ∈ sm then k :: spF sm (k + 1) l else spF sm (k + 1) l := by
  unfold spF
  rw [List.zipIdx_cons, List.filter_cons]
  by_cases h : q.1 ∈ sm <;> simp [h]
theorem spF_ge (sm : List Str) : ∀ (l : List HR) (k : Nat), ∀ i ∈ spF sm k l, k ≤ i
  | [], _, _, h => by simp [spF] at h
  | q :: l, k, i, h => by
    rw [spF_cons] at h
    split at h
    · rcases List.mem_cons.mp h with rfl | h
      · exact Nat.le_refl _
      · have := spF_ge sm l (k + 1) i h; omega
    · have := spF_ge sm l (k + 1) i h; omega
theorem lookup_ge {sp : List Nat} {k : Nat} (h : ∀ i ∈ sp, k < i) : ∀ (a : Row), (sp.zip a).lookup k = none := by
  intro a
  induction sp generalizing a with
  | nil => rfl
  | cons i sp ih =>
    cases a with
    | nil => rfl
    | cons x a =>
      rw [List.zip_cons_cons, List.lookup_cons]
      have : (k == i) = false := by have := h i List.mem_cons_self; simp; omega
      rw [this]
      exact ih (fun j hj => h j (List.mem_cons_of_mem _ hj)) a
theorem spread_spr (sm : List Str) : ∀ (l : List HR) (k : Nat) (a : Row), (List.range' k l.length).map (fun i => (((spF sm k l).zip a).lookup i).getD 0) = spr sm l a
  | [], _, _ => rfl
  | q :: l, k, a => by
    rw [List.length_cons, List.range'_succ, List.map_cons, spF_cons]
    unfold spr
    have hge : ∀ i ∈ spF sm (k + 1) l, k < i := fun i hi => spF_ge sm l (k + 1) i hi
    by_cases h : q.1 ∈ sm
    · rw [if_pos h, if_pos h]
      cases a with
      | nil =>
        congr 1
        rw [List.tail_nil, ← spread_spr sm l (k + 1) []]
        exact List.map_congr_left fun i _ => by simp
      | cons x a =>
        congr 1
        · simp [List.lookup_cons]
        · rw [List.tail_cons, ← spread_spr sm l (k + 1) a]
          refine List.map_congr_left fun i hi => ?_
          have := (List.mem_range'_1.mp hi).1
          rw [List.zip_cons_cons, List.lookup_cons]
          have e : (i == k) = false := by simp; omega
          rw [e]
    · rw [if_neg h, if_neg h]
      congr 1
      · rw [lookup_ge hge]; rfl
      · exact spread_spr sm l (k + 1) a
theorem spread_eq (s : Sch) (sm : List Str) (a : Row) : spread s.rs.length (s.spots sm) a = spr sm s.rs a := by
  have := spread_spr sm s.rs 0 a
  rw [← this, ← List.range_eq_range']; rfl
theorem dt_cons (a b : Int) (u v : Row) : dt (a :: u) (b :: v) = a * b + dt u v := by simp [dt]
theorem dt_spr (sm : List Str) (f : Row → Int) : ∀ (l : List HR) (a : Row), a.length = (l.filter fun q => decide (q.1 ∈ sm)).length → dt (spr sm l a) (l.map fun q => f q.2) = dt a ((l.filter fun q => decide (q.1 ∈ sm)).map fun q => f q.2)
  | [], a, h => by rw [List.length_eq_zero_iff.mp h]; rfl
  | q :: l, a, h => by
    unfold spr
    rw [List.filter_cons] at h ⊢
    by_cases hq : q.1 ∈ sm
    · simp only [hq, decide_true, if_true] at h ⊢
      cases a with
      | nil => simp at h
      | cons x a =>
        rw [List.headD_cons, List.tail_cons, List.map_cons, dt_cons, List.map_cons, dt_cons, dt_spr sm f l a (by simpa using h)]
    · simp only [hq, decide_false, if_false, Bool.false_eq_true] at h ⊢
      rw [List.map_cons, dt_cons, dt_spr sm f l a h]; omega
theorem spr_len (sm : List Str) : ∀ (l : List HR) (a : Row), (spr sm l a).length = l.length
  | [], _ => rfl
  | q :: l, a => by
    unfold spr
    split <;> simp [spr_len sm l]
theorem spr_b {p : Int} (hp : 0 < p) (sm : List Str) : ∀ (l : List HR) (a : Row), (∀ x ∈ a, 0 ≤ x ∧ x < p) → ∀ x ∈ spr sm l a, 0 ≤ x ∧ x < p
  | [], _, _, x, hx => nomatch hx
  | q :: l, a, h, x, hx => by
    unfold spr at hx
    split at hx
    · rcases List.mem_cons.mp hx with rfl | hx
      · cases a with
        | nil => exact ⟨Int.le_refl _, hp⟩
        | cons y a => exact h y List.mem_cons_self
      · exact spr_b hp sm l a.tail (fun y hy => h y (List.mem_of_mem_tail hy)) x hx
    · rcases List.mem_cons.mp hx with rfl | hx
      · exact ⟨Int.le_refl _, hp⟩
      · exact spr_b hp sm l a h x hx
theorem fn_keyr {w i : Nat} (h : i < w) : fn (keyr w) i = if i = 0 then 1 else 0 := by
  rw [fn_lt (by simpa [keyr] using h)]; simp [keyr]
theorem key_dt {w : Nat} (h : 1 ≤ w) (x : V) : dN (fn (keyr w)) x w = x 0 := by
  rw [dN_congr (v := fun k => if k = 0 then 1 else 0) (fun i hi => fn_keyr hi) (fun _ _ => rfl), dN_comm, dN_delta, if_pos (by omega)]
/-- weights that make the key row open the number dealt -/
theorem opens_number {s : Sch} {w : Nat} (ok : s.Ok w) (sm : List Str) {a : Row} (h : weights_for s.p (invp s.p) (s.rof sm) (keyr w) w = some a) {dl : Row} (hd : Vec s.p w dl) :
    dt (spread s.rs.length (s.spots sm) a) (s.shares dl) % s.p = fn dl 0 := by
  have hb := PR_b ok.hp
  have hv := ok.rof_v sm
  obtain ⟨ha, hc⟩ := wf_some (by omega) (fun a ha => invp_mul ok.hp ha) hv (keyr_vec (by omega)) h
  have hlen : a.length = (s.rs.filter fun q => decide (q.1 ∈ sm)).length := by rw [ha.l]; simp [Sch.rof]
  rw [spread_eq]
  unfold Sch.shares
  rw [dt_spr sm (fun r => dt r dl % s.p) s.rs a hlen]
  have e : ((s.rs.filter fun q => decide (q.1 ∈ sm)).map fun q => dt q.2 dl % s.p) = (s.rof sm).map fun r => dt r dl % s.p := by simp [Sch.rof, Function.comp_def]
  rw [e]
  have hw := weigh (x := fn dl) hc
  rw [key_dt ok.w1] at hw
  refine mod_of_dvd ?_ (hd.fn (by omega) 0)
  rw [dt_dN a _ ha.l (by simp), dN_comm]
  have h2 : s.p ∣ dN (fn ((s.rof sm).map fun r => dt r dl % s.p)) (fn a) (s.rof sm).length - dN (fun k => dN (fn ((s.rof sm).getD k [])) (fn dl) w) (fn a) (s.rof sm).length := by
    refine dN_dvd _ fun k hk => ?_
    have e1 : fn ((s.rof sm).map fun r => dt r dl % s.p) k = dt (s.rof sm)[k] dl % s.p := by rw [fn_lt (by simpa using hk)]; simp
    have e2 : (s.rof sm).getD k [] = (s.rof sm)[k] := by simp [List.getD, hk]
    rw [e1, e2, dt_dN _ _ (hv _ (List.getElem_mem hk)).l hd.l]
    exact mod_dvd _ _
  have := Int.dvd_add h2 hw
  have e3 : ∀ x y z : Int, x - y + (y - z) = x - z := fun x y z => by omega
  rwa [e3] at this
theorem bind_t (s : Sch) (i j k : Nat) (ρ : En) : bindS (.tp [.nm i, .nm j, .nm k]) s.t ρ = some (setE (setE (setE ρ i (.val (.int s.p))) j (.val (.tup (nms s.hs)))) k (.val (.tup (prows s.rs)))) := id rfl
theorem Asc.sub {l hs : List Str} (h : l.Sublist hs) (ha : Asc hs) : Asc l := List.Pairwise.sublist h ha
theorem sm_tt {k : Nat} {a b : D} (ha : D.sm k a = true) (hb : D.sm k b = true) : D.sm (k + 1) (.lst [a, b]) = true := D.sm_lst (by simp) fun x hx => by
  simp only [List.mem_cons, List.not_mem_nil, or_false] at hx
  rcases hx with rfl | rfl
  · exact ha
  · exact hb
theorem sm_tt2 {k : Nat} {a b : D} (ha : D.sm k a = true) (hb : D.sm k b = true) : D.sm (k + 1) (.tup [a, b]) = true := D.sm_tup (by simp) fun x hx => by
  simp only [List.mem_cons, List.not_mem_nil, or_false] at hx
  rcases hx with rfl | rfl
  · exact ha
  · exact hb
/-- sums, multiples of dealings -/
def plusr (p : Int) (u v : Row) : Row := List.zipWith (fun a b => (a + b) % p) u v
theorem fn_plusr {p : Int} {u v : Row} (h : u.length = v.length) (i : Nat) : fn (plusr p u v) i = (fn u i + fn v i) % p := by
  by_cases hi : i < u.length
  · rw [fn_lt (by simp [plusr]; omega), fn_lt hi, fn_lt (by omega)]; simp [plusr]
  · rw [fn_ge (by simp [plusr]; omega), fn_ge (by omega), fn_ge (by omega)]; simp
theorem plusr_vec {p : Int} {w : Nat} {u v : Row} (hp : 0 < p) (hu : Vec p w u) (hv : Vec p w v) : Vec p w (plusr p u v) := by
  refine ⟨by simp [plusr, hu.l, hv.l], fun x hx => ?_⟩
  obtain ⟨i, hi, rfl⟩ := List.mem_iff_getElem.mp hx
  simp [plusr]
  exact ⟨Int.emod_nonneg _ (by omega), Int.emod_lt_of_pos _ hp⟩
theorem dt_plusr {p : Int} {w : Nat} {r u v : Row} (hr : r.length = w) (hu : u.length = w) (hv : v.length = w) : dt r (plusr p u v) % p = (dt r u % p + dt r v % p) % p := by
  rw [← Int.add_emod]
  refine mod_congr ?_
  rw [dt_dN r _ hr (show (plusr p u v).length = w by simp [plusr, hu, hv]), dt_dN r u hr hu, dt_dN r v hr hv, dN_comm, dN_comm (fn r) (fn u), dN_comm (fn r) (fn v)]
  have e : dN (fn u) (fn r) w + dN (fn v) (fn r) w = dN (fun i => fn u i + 1 * fn v i) (fn r) w := by rw [dN_add]; omega
  rw [e]
  refine dN_dvd _ fun i _ => ?_
  rw [fn_plusr (by omega), Int.one_mul]
  exact mod_dvd _ _
theorem dt_scal {p c : Int} {w : Nat} {r u : Row} (hr : r.length = w) (hu : u.length = w) : dt r (scal p c u) % p = (c * (dt r u % p)) % p := by
  rw [Int.mul_emod, Int.emod_emod, ← Int.mul_emod]
  refine mod_congr ?_
  rw [dt_dN r _ hr (show (scal p c u).length = w by simp [scal, hu]), dt_dN r u hr hu, dN_comm, dN_comm (fn r) (fn u)]
  have e : c * dN (fn u) (fn r) w = dN (fun i => 0 + c * fn u i) (fn r) w := by
    rw [dN_add (fun _ => 0) (fn u), dN_zero]; omega
  rw [e]
  refine dN_dvd _ fun i _ => ?_
  rw [fn_scal, Int.zero_add]
  exact mod_dvd _ _
theorem shares_vec {s : Sch} {w : Nat} (ok : s.Ok w) (dl : Row) : Vec s.p s.rs.length (s.shares dl) := by
  have hb := PR_b ok.hp
  refine ⟨by simp [Sch.shares], fun x hx => ?_⟩
  obtain ⟨q, _, rfl⟩ := List.mem_map.mp hx
  exact ⟨Int.emod_nonneg _ (by omega), Int.emod_lt_of_pos _ (by omega)⟩
theorem shares_plus {s : Sch} {w : Nat} (ok : s.Ok w) {u v : Row} (hu : Vec s.p w u) (hv : Vec s.p w v) : s.shares (plusr s.p u v) = plusr s.p (s.shares u) (s.shares v) := by
  unfold Sch.shares
  rw [show plusr s.p (s.rs.map fun q => dt q.2 u % s.p) (s.rs.map fun q => dt q.2 v % s.p) = s.rs.map fun q => (dt q.2 u % s.p + dt q.2 v % s.p) % s.p by
    unfold plusr
    rw [List.zipWith_map, List.zipWith_self]]
  exact List.map_congr_left fun q hq => dt_plusr (ok.rv q hq).l hu.l hv.l
theorem shares_scal {s : Sch} {w : Nat} (ok : s.Ok w) {u : Row} (c : Int) (hu : Vec s.p w u) : s.shares (scal s.p c u) = scal s.p c (s.shares u) := by
  unfold Sch.shares scal
  rw [List.map_map]
  exact List.map_congr_left fun q hq => dt_scal (ok.rv q hq).l hu.l
theorem scal_comm (p c : Int) (u : Row) : scal p c u = u.map fun a => (a * c) % p := by
  unfold scal
  exact List.map_congr_left fun a _ => by rw [Int.mul_comm]
theorem plusr_zip (p : Int) (u v : Row) : plusr p u v = (u.zip v).map fun q => (q.1 + q.2) % p := by
  unfold plusr
  rw [← List.map_uncurry_zip_eq_zipWith]; rfl
theorem head_fn {r : Row} (h : 1 ≤ r.length) : L2.atI (nums r) 0 = some (.int (fn r 0)) := by
  have := atI_fn (r := r) (j := 0) h
  simpa using this
end Ev
set_option Elab.async false
set_option linter.all false
set_option maxRecDepth 100000
set_option maxHeartbeats 0
namespace Lawk12
open PySem PySem.Spec PyProof.Rows L2 Ev
def top (i : Nat) : Stmt := PySem.Challenge.pw_dealtkeys_k12_whole_shares_of_dealings.main.body.getD i (.Pass ⟨0, 0, 0, 0⟩)
def b_is_whole : Ss := (.cons (.ret (.and (.blt .isinst (.cons (.var 0) (.cons (.bty "int" "int") .nil))) (.not (.blt .isinst (.cons (.var 0) (.cons (.bty "bool" "bool") .nil)))))) .nil)
def f_is_whole : Fn := ⟨["value"], 1, b_is_whole⟩
def d_is_whole : DefC := ⟨"is_whole", top 12, ["value"], f_is_whole, false⟩
def b_is_between : Ss := (.cons (.ret (.and (.call "is_whole" (.cons (.var 0) .nil)) (.cm2 .le .le (.var 1) (.var 0) (.var 2)))) .nil)
def f_is_between : Fn := ⟨["value", "least", "most"], 3, b_is_between⟩
def d_is_between : DefC := ⟨"is_between", top 13, ["value", "least", "most"], f_is_between, false⟩
def b_is_up_to : Ss := (.cons (.ret (.call "is_between" (.cons (.var 0) (.cons (.cst (.int 0)) (.cons (.var 1) .nil))))) .nil)
def f_is_up_to : Fn := ⟨["value", "most"], 2, b_is_up_to⟩
def d_is_up_to : DefC := ⟨"is_up_to", top 14, ["value", "most"], f_is_up_to, false⟩
def b_is_one_of : Ss := (.cons (.ret (.and (.blt .isinst (.cons (.var 0) (.cons (.bty "str" "str") .nil))) (.cmp .inn (.var 0) (.var 1)))) .nil)
def f_is_one_of : Fn := ⟨["value", "words"], 2, b_is_one_of⟩
def d_is_one_of : DefC := ⟨"is_one_of", top 15, ["value", "words"], f_is_one_of, false⟩
def b_is_word : Ss := (.cons (.ret (.and (.blt .isinst (.cons (.var 0) (.cons (.bty "str" "str") .nil))) (.and (.cmp .ne (.var 0) (.cst (.str ""))) (.blt .all (.cons (.comp (.cmp .inn (.var 1) (.glb "LETTERS")) (.nm 1) (.val (.var 0)) .no) .nil))))) .nil)
def f_is_word : Fn := ⟨["value"], 2, b_is_word⟩
def d_is_word : DefC := ⟨"is_word", top 16, ["value", "sign"], f_is_word, false⟩
def b_is_name : Ss := (.cons (.ret (.and (.call "is_word" (.cons (.var 0) .nil)) (.and (.cmp .le (.blt .len (.cons (.var 0) .nil)) (.glb "MOST_LETTERS")) (.cmp .nin (.var 0) (.glb "WORDS"))))) .nil)
def f_is_name : Fn := ⟨["value"], 1, b_is_name⟩
def d_is_name : DefC := ⟨"is_name", top 17, ["value"], f_is_name, false⟩
def b_is_tuple_of : Ss := (.cons (.ret (.and (.blt .isinst (.cons (.var 0) (.cons (.bty "tuple" "tuple") .nil))) (.cmp .eq (.blt .len (.cons (.var 0) .nil)) (.var 1)))) .nil)
def f_is_tuple_of : Fn := ⟨["value", "many"], 2, b_is_tuple_of⟩
def d_is_tuple_of : DefC := ⟨"is_tuple_of", top 18, ["value", "many"], f_is_tuple_of, false⟩
def b_is_pair : Ss := (.cons (.ret (.call "is_tuple_of" (.cons (.var 0) (.cons (.cst (.int 2)) .nil)))) .nil)
def f_is_pair : Fn := ⟨["value"], 1, b_is_pair⟩
def d_is_pair : DefC := ⟨"is_pair", top 19, ["value"], f_is_pair, false⟩
def b_wrong_in : Ss := (.cons (.ifs (.or (.not (.blt .isinst (.cons (.var 0) (.cons (.bty "tuple" "tuple") .nil)))) (.cmp .lt (.blt .len (.cons (.var 0) .nil)) (.var 1))) (.cons (.ret (.lst (.cons (.cst .non) .nil))) .nil) .nil) (.cons (.for_ (.tp [(.nm 4), (.nm 5)]) (.enum (.cons (.var 0) .nil)) (.cons (.ifs (.or (.cmp .eq (.var 4) (.var 2)) (.not (.callv 3 (.cons (.sl (.var 0) .no (.so (.var 4))) (.cons (.var 5) .nil))))) (.cons (.ret (.lst (.cons (.var 4) .nil))) .nil) .nil) .nil)) (.cons (.ret (.lst .nil)) .nil)))
def f_wrong_in : Fn := ⟨["value", "least", "most", "is_right"], 6, b_wrong_in⟩
def d_wrong_in : DefC := ⟨"wrong_in", top 20, ["value", "least", "most", "is_right", "index", "each"], f_wrong_in, false⟩
def b_are_below : Ss := (.cons (.ret (.or (.cmp .eq (.var 0) (.tup .nil)) (.cmp .lt (.idx (.var 0) (.neg (.cst (.int 1)))) (.var 1)))) .nil)
def f_are_below : Fn := ⟨["ahead", "value"], 2, b_are_below⟩
def d_are_below : DefC := ⟨"are_below", top 21, ["ahead", "value"], f_are_below, false⟩
def b_is_set_of_names : Ss := (.cons (.ret (.cmp .eq (.calll "wrong_in" (.cons (.var 0) (.cons (.cst (.int 0)) (.cons (.blt .len (.cons (.var 1) .nil)) .nil))) 2 (.and (.call "is_one_of" (.cons (.var 1) (.cons (.var 2) .nil))) (.call "are_below" (.cons (.var 0) (.cons (.var 1) .nil)))) [1] []) (.lst .nil))) .nil)
def f_is_set_of_names : Fn := ⟨["value", "names"], 2, b_is_set_of_names⟩
def d_is_set_of_names : DefC := ⟨"is_set_of_names", top 22, ["value", "names"], f_is_set_of_names, true⟩
def b_are_numbers : Ss := (.cons (.ret (.and (.call "is_tuple_of" (.cons (.var 0) (.cons (.var 1) .nil))) (.blt .all (.cons (.comp (.call "is_up_to" (.cons (.var 3) (.cons (.var 2) .nil))) (.nm 3) (.val (.var 0)) .no) .nil)))) .nil)
def f_are_numbers : Fn := ⟨["value", "many", "most"], 4, b_are_numbers⟩
def d_are_numbers : DefC := ⟨"are_numbers", top 23, ["value", "many", "most", "each"], f_are_numbers, false⟩
def b_wrong_in_holders : Ss := (.cons (.ret (.calll "wrong_in" (.cons (.var 0) (.cons (.cst (.int 1)) (.cons (.glb "MOST_HOLDERS") .nil))) 2 (.and (.call "is_name" (.cons (.var 1) .nil)) (.call "are_below" (.cons (.var 0) (.cons (.var 1) .nil)))) [] [])) .nil)
def f_wrong_in_holders : Fn := ⟨["value"], 1, b_wrong_in_holders⟩
def d_wrong_in_holders : DefC := ⟨"wrong_in_holders", top 26, ["value"], f_wrong_in_holders, true⟩
def b_is_prime : Ss := (.cons (.ret (.and (.blt .isinst (.cons (.var 0) (.cons (.bty "int" "int") .nil))) (.and (.not (.blt .isinst (.cons (.var 0) (.cons (.bty "bool" "bool") .nil)))) (.cmp .inn (.var 0) (.glb "PRIMES"))))) .nil)
def f_is_prime : Fn := ⟨["value"], 1, b_is_prime⟩
def d_is_prime : DefC := ⟨"is_prime", top 29, ["value"], f_is_prime, false⟩
def b_modulo : Ss := (.cons (.ret (.bop .mod (.blt .int (.cons (.var 1) .nil)) (.var 0))) .nil)
def f_modulo : Fn := ⟨["prime", "number"], 2, b_modulo⟩
def d_modulo : DefC := ⟨"modulo", top 30, ["prime", "number"], f_modulo, false⟩
def b_inverse : Ss := (.cons (.set (.nm 2) (.cst (.int 1))) (.cons (.for_ (.nm 3) (.rng (.cons (.bop .sub (.var 0) (.cst (.int 2))) .nil)) (.cons (.set (.nm 2) (.call "modulo" (.cons (.var 0) (.cons (.bop .mul (.var 2) (.var 1)) .nil)))) .nil)) (.cons (.ret (.var 2)) .nil)))
def f_inverse : Fn := ⟨["prime", "number"], 4, b_inverse⟩
def d_inverse : DefC := ⟨"inverse", top 31, ["prime", "number", "found", "_"], f_inverse, false⟩
def b_product : Ss := (.cons (.ret (.call "modulo" (.cons (.var 0) (.cons (.blt .sum (.cons (.comp (.bop .mul (.var 3) (.var 4)) (.tp [(.nm 3), (.nm 4)]) (.zip (.cons (.var 1) (.cons (.var 2) .nil))) .no) .nil)) .nil)))) .nil)
def f_product : Fn := ⟨["prime", "one", "two"], 5, b_product⟩
def d_product : DefC := ⟨"product", top 32, ["prime", "one", "two", "here", "there"], f_product, false⟩
def b_times_row : Ss := (.cons (.ret (.blt .tuple (.cons (.comp (.call "modulo" (.cons (.var 0) (.cons (.bop .mul (.var 1) (.var 3)) .nil))) (.nm 3) (.val (.var 2)) .no) .nil))) .nil)
def f_times_row : Fn := ⟨["prime", "number", "row"], 4, b_times_row⟩
def d_times_row : DefC := ⟨"times_row", top 33, ["prime", "number", "row", "each"], f_times_row, false⟩
def b_plus_rows : Ss := (.cons (.ret (.blt .tuple (.cons (.comp (.call "modulo" (.cons (.var 0) (.cons (.bop .add (.var 3) (.var 4)) .nil))) (.tp [(.nm 3), (.nm 4)]) (.zip (.cons (.var 1) (.cons (.var 2) .nil))) .no) .nil))) .nil)
def f_plus_rows : Fn := ⟨["prime", "one", "two"], 5, b_plus_rows⟩
def d_plus_rows : DefC := ⟨"plus_rows", top 34, ["prime", "one", "two", "here", "there"], f_plus_rows, false⟩
def b_without : Ss := (.cons (.ret (.call "plus_rows" (.cons (.var 0) (.cons (.var 1) (.cons (.call "times_row" (.cons (.var 0) (.cons (.neg (.var 3)) (.cons (.var 2) .nil)))) .nil))))) .nil)
def f_without : Fn := ⟨["prime", "row", "lead", "number"], 4, b_without⟩
def d_without : DefC := ⟨"without", top 35, ["prime", "row", "lead", "number"], f_without, false⟩
def b_lone_row : Ss := (.cons (.ret (.blt .tuple (.cons (.comp (.ite (.cmp .eq (.var 2) (.var 1)) (.cst (.int 1)) (.cst (.int 0))) (.nm 2) (.rng (.cons (.var 0) .nil)) .no) .nil))) .nil)
def f_lone_row : Fn := ⟨["width", "place"], 3, b_lone_row⟩
def d_lone_row : DefC := ⟨"lone_row", top 36, ["width", "place", "each"], f_lone_row, false⟩
def b_brought : Ss := (.cons (.par [(3, true), (4, false), (5, true)] (.cons (.comp (.blt .tuple (.cons (.var 6) .nil)) (.nm 6) (.val (.var 1)) .no) (.cons (.lst .nil) (.cons (.lst .nil) .nil)))) (.cons (.for_ (.nm 7) (.rng (.cons (.var 2) .nil)) (.cons (.own 8 (.sl (.comp (.var 6) (.nm 6) (.val (.var 3)) (.so (.cmp .ne (.idx (.var 6) (.var 7)) (.cst (.int 0))))) .no (.so (.cst (.int 1))))) (.cons (.for_ (.nm 9) (.val (.var 8)) (.cons (.remove 3 (.var 9)) (.cons (.set (.nm 9) (.call "times_row" (.cons (.var 0) (.cons (.call "inverse" (.cons (.var 0) (.cons (.idx (.var 9) (.var 7)) .nil))) (.cons (.var 9) .nil))))) (.cons (.own 3 (.comp (.call "without" (.cons (.var 0) (.cons (.var 6) (.cons (.var 9) (.cons (.idx (.var 6) (.var 7)) .nil))))) (.nm 6) (.val (.var 3)) .no)) (.cons (.set (.nm 4) (.bop .add (.comp (.call "without" (.cons (.var 0) (.cons (.var 6) (.cons (.var 9) (.cons (.idx (.var 6) (.var 7)) .nil))))) (.nm 6) (.val (.var 4)) .no) (.lst (.cons (.var 9) .nil)))) (.cons (.append 5 (.var 7)) .nil)))))) .nil))) (.cons (.ret (.tup (.cons (.bop .add (.var 4) (.var 3)) (.cons (.var 5) .nil)))) .nil)))
def f_brought : Fn := ⟨["prime", "rows", "width"], 10, b_brought⟩
def d_brought : DefC := ⟨"brought", top 37, ["prime", "rows", "width", "left", "found", "places", "row", "place", "leads", "lead"], f_brought, false⟩
def b_some_answer : Ss := (.cons (.own 4 (.comp (.tup (.star (.var 5) (.cons (.var 6) .nil))) (.tp [(.nm 5), (.nm 6)]) (.zip (.cons (.var 1) (.cons (.var 2) .nil))) .no)) (.cons (.set (.tp [(.nm 7), (.nm 8)]) (.call "brought" (.cons (.var 0) (.cons (.var 4) (.cons (.var 3) .nil))))) (.cons (.ifs (.blt .any (.cons (.comp (.cmp .ne (.idx (.var 5) (.var 3)) (.cst (.int 0))) (.nm 5) (.val (.sl (.var 7) (.so (.blt .len (.cons (.var 8) .nil))) .no)) .no) .nil)) (.cons (.ret (.lst .nil)) .nil) .nil) (.cons (.own 9 (.bop .mul (.lst (.cons (.cst (.int 0)) .nil)) (.var 3))) (.cons (.for_ (.tp [(.nm 5), (.nm 10)]) (.zip (.cons (.var 7) (.cons (.var 8) .nil))) (.cons (.setitem 9 (.var 10) (.idx (.var 5) (.var 3))) .nil)) (.cons (.ret (.lst (.cons (.blt .tuple (.cons (.var 9) .nil)) .nil))) .nil))))))
def f_some_answer : Fn := ⟨["prime", "rows", "rights", "width"], 11, b_some_answer⟩
def d_some_answer : DefC := ⟨"some_answer", top 38, ["prime", "rows", "rights", "width", "told", "row", "right", "found", "places", "answer", "place"], f_some_answer, false⟩
def b_turned : Ss := (.cons (.ret (.comp (.blt .tuple (.cons (.comp (.idx (.var 2) (.var 3)) (.nm 2) (.val (.var 0)) .no) .nil)) (.nm 3) (.rng (.cons (.var 1) .nil)) .no)) .nil)
def f_turned : Fn := ⟨["rows", "width"], 4, b_turned⟩
def d_turned : DefC := ⟨"turned", top 39, ["rows", "width", "row", "place"], f_turned, false⟩
def b_weights_for : Ss := (.cons (.ret (.call "some_answer" (.cons (.var 0) (.cons (.call "turned" (.cons (.var 1) (.cons (.blt .len (.cons (.var 2) .nil)) .nil))) (.cons (.var 2) (.cons (.blt .len (.cons (.var 1) .nil)) .nil)))))) .nil)
def f_weights_for : Fn := ⟨["prime", "rows", "goal"], 3, b_weights_for⟩
def d_weights_for : DefC := ⟨"weights_for", top 40, ["prime", "rows", "goal"], f_weights_for, false⟩
def b_check_number : Ss := (.cons (.ifs (.not (.call "is_between" (.cons (.var 0) (.cons (.var 1) (.cons (.var 2) .nil))))) (.cons .bad .nil) .nil) .nil)
def f_check_number : Fn := ⟨["number", "least", "most"], 3, b_check_number⟩
def d_check_number : DefC := ⟨"check_number", top 42, ["number", "least", "most"], f_check_number, false⟩
def b_check_prime : Ss := (.cons (.ifs (.not (.call "is_prime" (.cons (.var 0) .nil))) (.cons .bad .nil) .nil) .nil)
def f_check_prime : Fn := ⟨["prime"], 1, b_check_prime⟩
def d_check_prime : DefC := ⟨"check_prime", top 43, ["prime"], f_check_prime, false⟩
def b_check_holders : Ss := (.cons (.for_ (.nm 1) (.val (.call "wrong_in_holders" (.cons (.var 0) .nil))) (.cons .bad .nil)) .nil)
def f_check_holders : Fn := ⟨["holders"], 2, b_check_holders⟩
def d_check_holders : DefC := ⟨"check_holders", top 44, ["holders", "index"], f_check_holders, false⟩
def b_check_set : Ss := (.cons (.ifs (.not (.call "is_set_of_names" (.cons (.var 1) (.cons (.var 0) .nil)))) (.cons .bad .nil) .nil) .nil)
def f_check_set : Fn := ⟨["holders", "some"], 2, b_check_set⟩
def d_check_set : DefC := ⟨"check_set", top 45, ["holders", "some"], f_check_set, false⟩
def b_is_row_of : Ss := (.cons (.ifs (.or (.not (.blt .isinst (.cons (.var 1) (.cons (.bty "tuple" "tuple") .nil)))) (.not (.cm2 .le .le (.cst (.int 1)) (.blt .len (.cons (.var 1) .nil)) (.glb "MOST_WIDTH")))) (.cons (.ret (.cst (.bl false))) .nil) .nil) (.cons (.ret (.call "are_numbers" (.cons (.var 1) (.cons (.blt .len (.cons (.var 1) .nil)) (.cons (.bop .sub (.var 0) (.cst (.int 1))) .nil))))) .nil))
def f_is_row_of : Fn := ⟨["prime", "value"], 2, b_is_row_of⟩
def d_is_row_of : DefC := ⟨"is_row_of", top 49, ["prime", "value"], f_is_row_of, false⟩
def b_may_stand : Ss := (.cons (.ifs (.or (.not (.call "is_pair" (.cons (.var 3) .nil))) (.or (.not (.call "is_one_of" (.cons (.idx (.var 3) (.cst (.int 0))) (.cons (.var 1) .nil)))) (.not (.call "is_row_of" (.cons (.var 0) (.cons (.idx (.var 3) (.cst (.int 1))) .nil)))))) (.cons (.ret (.cst (.bl false))) .nil) .nil) (.cons (.ret (.or (.cmp .eq (.var 2) (.tup .nil)) (.and (.cmp .le (.idx (.idx (.var 2) (.neg (.cst (.int 1)))) (.cst (.int 0))) (.idx (.var 3) (.cst (.int 0)))) (.cmp .eq (.blt .len (.cons (.idx (.idx (.var 2) (.neg (.cst (.int 1)))) (.cst (.int 1))) .nil)) (.blt .len (.cons (.idx (.var 3) (.cst (.int 1))) .nil)))))) .nil))
def f_may_stand : Fn := ⟨["prime", "holders", "ahead", "value"], 4, b_may_stand⟩
def d_may_stand : DefC := ⟨"may_stand", top 50, ["prime", "holders", "ahead", "value"], f_may_stand, false⟩
def b_wrong_in_rows : Ss := (.cons (.ret (.calll "wrong_in" (.cons (.var 2) (.cons (.cst (.int 1)) (.cons (.glb "MOST_ROWS") .nil))) 2 (.call "may_stand" (.cons (.var 2) (.cons (.var 3) (.cons (.var 0) (.cons (.var 1) .nil))))) [0, 1] [])) .nil)
def f_wrong_in_rows : Fn := ⟨["prime", "holders", "value"], 3, b_wrong_in_rows⟩
def d_wrong_in_rows : DefC := ⟨"wrong_in_rows", top 51, ["prime", "holders", "value"], f_wrong_in_rows, true⟩
def b_width_of : Ss := (.cons (.ret (.blt .len (.cons (.idx (.idx (.prop (.var 0) "Scheme" "rows") (.cst (.int 0))) (.cst (.int 1))) .nil))) .nil)
def f_width_of : Fn := ⟨["scheme"], 1, b_width_of⟩
def d_width_of : DefC := ⟨"width_of", top 52, ["scheme"], f_width_of, false⟩
def b_key_row : Ss := (.cons (.ret (.call "lone_row" (.cons (.call "width_of" (.cons (.var 0) .nil)) (.cons (.cst (.int 0)) .nil)))) .nil)
def f_key_row : Fn := ⟨["scheme"], 1, b_key_row⟩
def d_key_row : DefC := ⟨"key_row", top 53, ["scheme"], f_key_row, false⟩
def b_all_rows : Ss := (.cons (.ret (.comp (.var 2) (.tp [(.nm 1), (.nm 2)]) (.val (.prop (.var 0) "Scheme" "rows")) .no)) .nil)
def f_all_rows : Fn := ⟨["scheme"], 3, b_all_rows⟩
def d_all_rows : DefC := ⟨"all_rows", top 54, ["scheme", "_", "row"], f_all_rows, false⟩
def b_spots_of : Ss := (.cons (.ret (.comp (.var 2) (.tp [(.nm 2), (.tp [(.nm 3), (.nm 4)])]) (.enum (.cons (.prop (.var 0) "Scheme" "rows") .nil)) (.so (.cmp .inn (.var 3) (.var 1))))) .nil)
def f_spots_of : Fn := ⟨["scheme", "some"], 5, b_spots_of⟩
def d_spots_of : DefC := ⟨"spots_of", top 55, ["scheme", "some", "index", "holder", "_"], f_spots_of, false⟩
def b_rows_of : Ss := (.cons (.ret (.comp (.idx (.idx (.prop (.var 0) "Scheme" "rows") (.var 2)) (.cst (.int 1))) (.nm 2) (.val (.call "spots_of" (.cons (.var 0) (.cons (.var 1) .nil)))) .no)) .nil)
def f_rows_of : Fn := ⟨["scheme", "some"], 3, b_rows_of⟩
def d_rows_of : DefC := ⟨"rows_of", top 56, ["scheme", "some", "index"], f_rows_of, false⟩
def b_spread_out : Ss := (.cons (.set (.nm 3) (.dzip (.cons (.var 1) (.cons (.var 2) .nil)))) (.cons (.ret (.blt .tuple (.cons (.comp (.mth .get (.var 3) (.cons (.var 4) (.cons (.cst (.int 0)) .nil))) (.nm 4) (.rng (.cons (.blt .len (.cons (.prop (.var 0) "Scheme" "rows") .nil)) .nil)) .no) .nil))) .nil))
def f_spread_out : Fn := ⟨["scheme", "spots", "weights"], 5, b_spread_out⟩
def d_spread_out : DefC := ⟨"spread_out", top 57, ["scheme", "spots", "weights", "told", "index"], f_spread_out, false⟩
def b_weights_by : Ss := (.cons (.set (.nm 2) (.call "weights_for" (.cons (.prop (.var 0) "Scheme" "prime") (.cons (.call "rows_of" (.cons (.var 0) (.cons (.var 1) .nil))) (.cons (.call "key_row" (.cons (.var 0) .nil)) .nil))))) (.cons (.ret (.comp (.call "spread_out" (.cons (.var 0) (.cons (.call "spots_of" (.cons (.var 0) (.cons (.var 1) .nil))) (.cons (.var 3) .nil)))) (.nm 3) (.val (.var 2)) .no)) .nil))
def f_weights_by : Fn := ⟨["scheme", "some"], 4, b_weights_by⟩
def d_weights_by : DefC := ⟨"weights_by", top 58, ["scheme", "some", "found", "weights"], f_weights_by, false⟩
def b_is_dealing : Ss := (.cons (.ret (.call "are_numbers" (.cons (.var 1) (.cons (.call "width_of" (.cons (.var 0) .nil)) (.cons (.bop .sub (.prop (.var 0) "Scheme" "prime") (.cst (.int 1))) .nil))))) .nil)
def f_is_dealing : Fn := ⟨["scheme", "value"], 2, b_is_dealing⟩
def d_is_dealing : DefC := ⟨"is_dealing", top 59, ["scheme", "value"], f_is_dealing, false⟩
def b_shares_by : Ss := (.cons (.ret (.blt .tuple (.cons (.comp (.call "product" (.cons (.prop (.var 0) "Scheme" "prime") (.cons (.var 2) (.cons (.var 1) .nil)))) (.nm 2) (.val (.call "all_rows" (.cons (.var 0) .nil))) .no) .nil))) .nil)
def f_shares_by : Fn := ⟨["scheme", "dealing"], 3, b_shares_by⟩
def d_shares_by : DefC := ⟨"shares_by", top 60, ["scheme", "dealing", "row"], f_shares_by, false⟩
def b_seen_of : Ss := (.cons (.set (.nm 3) (.call "shares_by" (.cons (.var 0) (.cons (.var 1) .nil)))) (.cons (.ret (.blt .tuple (.cons (.comp (.ite (.cmp .inn (.var 5) (.var 2)) (.var 4) (.cst .non)) (.tp [(.nm 4), (.tp [(.nm 5), (.nm 6)])]) (.zip (.cons (.var 3) (.cons (.prop (.var 0) "Scheme" "rows") .nil))) .no) .nil))) .nil))
def f_seen_of : Fn := ⟨["scheme", "dealing", "some"], 7, b_seen_of⟩
def d_seen_of : DefC := ⟨"seen_of", top 61, ["scheme", "dealing", "some", "shares", "share", "holder", "_"], f_seen_of, false⟩
def b_check_scheme : Ss := (.cons (.ifs (.not (.isc (.var 0) "Scheme")) (.cons .bad .nil) .nil) .nil)
def f_check_scheme : Fn := ⟨["scheme"], 1, b_check_scheme⟩
def d_check_scheme : DefC := ⟨"check_scheme", top 64, ["scheme"], f_check_scheme, false⟩
def b_check_some : Ss := (.cons (.expr (.call "check_scheme" (.cons (.var 0) .nil))) (.cons (.expr (.call "check_set" (.cons (.prop (.var 0) "Scheme" "holders") (.cons (.var 1) .nil)))) .nil))
def f_check_some : Fn := ⟨["scheme", "some"], 2, b_check_some⟩
def d_check_some : DefC := ⟨"check_some", top 65, ["scheme", "some"], f_check_some, false⟩
def b_weights : Ss := (.cons (.expr (.call "check_some" (.cons (.var 0) (.cons (.var 1) .nil)))) (.cons (.set (.nm 2) (.call "weights_by" (.cons (.var 0) (.cons (.var 1) .nil)))) (.cons (.ret (.ite (.cmp .ne (.var 2) (.lst .nil)) (.idx (.var 2) (.cst (.int 0))) (.cst .non))) .nil)))
def f_weights : Fn := ⟨["scheme", "some"], 3, b_weights⟩
def d_weights : DefC := ⟨"weights", top 66, ["scheme", "some", "found"], f_weights, false⟩
def b_check_dealing : Ss := (.cons (.ifs (.not (.call "is_dealing" (.cons (.var 0) (.cons (.var 1) .nil)))) (.cons .bad .nil) .nil) .nil)
def f_check_dealing : Fn := ⟨["scheme", "dealing"], 2, b_check_dealing⟩
def d_check_dealing : DefC := ⟨"check_dealing", top 68, ["scheme", "dealing"], f_check_dealing, false⟩
def b_check_dealt : Ss := (.cons (.expr (.call "check_scheme" (.cons (.var 0) .nil))) (.cons (.expr (.call "check_dealing" (.cons (.var 0) (.cons (.var 1) .nil)))) .nil))
def f_check_dealt : Fn := ⟨["scheme", "dealing"], 2, b_check_dealt⟩
def d_check_dealt : DefC := ⟨"check_dealt", top 69, ["scheme", "dealing"], f_check_dealt, false⟩
def b_shares : Ss := (.cons (.expr (.call "check_dealt" (.cons (.var 0) (.cons (.var 1) .nil)))) (.cons (.ret (.call "shares_by" (.cons (.var 0) (.cons (.var 1) .nil)))) .nil))
def f_shares : Fn := ⟨["scheme", "dealing"], 2, b_shares⟩
def d_shares : DefC := ⟨"shares", top 70, ["scheme", "dealing"], f_shares, false⟩
def b_seen_by : Ss := (.cons (.expr (.call "check_dealt" (.cons (.var 0) (.cons (.var 1) .nil)))) (.cons (.expr (.call "check_some" (.cons (.var 0) (.cons (.var 2) .nil)))) (.cons (.ret (.call "seen_of" (.cons (.var 0) (.cons (.var 1) (.cons (.var 2) .nil))))) .nil)))
def f_seen_by : Fn := ⟨["scheme", "dealing", "some"], 3, b_seen_by⟩
def d_seen_by : DefC := ⟨"seen_by", top 71, ["scheme", "dealing", "some"], f_seen_by, false⟩
def b_added : Ss := (.cons (.expr (.call "check_dealt" (.cons (.var 0) (.cons (.var 1) .nil)))) (.cons (.expr (.call "check_dealing" (.cons (.var 0) (.cons (.var 2) .nil)))) (.cons (.ret (.call "plus_rows" (.cons (.prop (.var 0) "Scheme" "prime") (.cons (.var 1) (.cons (.var 2) .nil))))) .nil)))
def f_added : Fn := ⟨["scheme", "dealing", "other"], 3, b_added⟩
def d_added : DefC := ⟨"added", top 72, ["scheme", "dealing", "other"], f_added, false⟩
def b_times : Ss := (.cons (.expr (.call "check_dealt" (.cons (.var 0) (.cons (.var 1) .nil)))) (.cons (.expr (.call "check_number" (.cons (.var 2) (.cons (.cst (.int 0)) (.cons (.bop .sub (.prop (.var 0) "Scheme" "prime") (.cst (.int 1))) .nil))))) (.cons (.ret (.call "times_row" (.cons (.prop (.var 0) "Scheme" "prime") (.cons (.var 2) (.cons (.var 1) .nil))))) .nil)))
def f_times : Fn := ⟨["scheme", "dealing", "number"], 3, b_times⟩
def d_times : DefC := ⟨"times", top 73, ["scheme", "dealing", "number"], f_times, false⟩
def b__law_hand : Ss := (.cons (.set (.nm 2) (.ite (.cmp .lt (.var 1) (.blt .len (.cons (.var 0) .nil))) (.blt .int (.cons (.idx (.var 0) (.var 1)) .nil)) (.cst (.int 0)))) (.cons (.set (.nm 3) (.bop .add (.cst (.int 1669)) (.bop .mul (.cst (.int 4871)) (.var 1)))) (.cons (.for_ (.nm 4) (.val (.bop .add (.sl (.var 0) .no (.so (.cst (.int 9)))) (.lst (.cons (.var 2) .nil)))) (.cons (.set (.nm 3) (.bop .mod (.blt .int (.cons (.bop .add (.bop .add (.bop .mul (.var 3) (.cst (.int 40529))) (.bop .mod (.blt .int (.cons (.var 4) .nil)) (.cst (.int 2147482997)))) (.cst (.int 67))) .nil)) (.cst (.int 2147483137)))) .nil)) (.cons (.ret (.hnew (.cons (.ite (.or (.cmp .lt (.var 2) (.cst (.int 0))) (.cmp .ge (.var 2) (.bop .pow (.cst (.int 10)) (.cst (.int 16))))) (.bop .mod (.blt .abs (.cons (.var 2) .nil)) (.bop .pow (.cst (.int 10)) (.cst (.int 60)))) (.cst (.int 0))) (.cons (.var 3) (.cons (.cst (.int 0)) .nil))))) .nil))))
def f__law_hand : Fn := ⟨["script", "lap"], 5, b__law_hand⟩
def d__law_hand : DefC := ⟨"_law_hand", top 75, ["script", "lap", "own", "stir", "cell"], f__law_hand, false⟩
def b__law_turn : Ss := (.cons (.ifs (.cmp .gt (.idx (.var 0) (.cst (.int 0))) (.cst (.int 0))) (.cons (.set (.tp [(.hs 0 0), (.nm 2)]) (.blt .divmod (.cons (.idx (.var 0) (.cst (.int 0))) (.cons (.var 1) .nil)))) (.cons (.ret (.var 2)) .nil)) .nil) (.cons (.set (.hs 0 2) (.bop .add (.idx (.var 0) (.cst (.int 2))) (.cst (.int 1)))) (.cons (.set (.hs 0 1) (.bop .mod (.blt .int (.cons (.bop .add (.bop .add (.bop .mul (.idx (.var 0) (.cst (.int 1))) (.bop .add (.bop .mod (.blt .int (.cons (.idx (.var 0) (.cst (.int 1))) .nil)) (.cst (.int 3001))) (.cst (.int 24001)))) (.bop .mul (.cst (.int 9973)) (.idx (.var 0) (.cst (.int 2))))) (.cst (.int 83))) .nil)) (.cst (.int 2147483137)))) (.cons (.ret (.bop .mod (.blt .int (.cons (.bop .fdiv (.idx (.var 0) (.cst (.int 1))) (.cst (.int 379))) .nil)) (.var 1))) .nil))))
def f__law_turn : Fn := ⟨["hand", "many"], 3, b__law_turn⟩
def d__law_turn : DefC := ⟨"_law_turn", top 76, ["hand", "many", "figure"], f__law_turn, false⟩
def b__law_of : Ss := (.cons (.ret (.idx (.var 1) (.call "_law_turn" (.cons (.var 0) (.cons (.blt .len (.cons (.var 1) .nil)) .nil))))) .nil)
def f__law_of : Fn := ⟨["hand", "some"], 2, b__law_of⟩
def d__law_of : DefC := ⟨"_law_of", top 77, ["hand", "some"], f__law_of, false⟩
def b__law_same : Ss := (.cons (.ifs (.or (.blt .isinst (.cons (.var 1) (.cons (.bty "tuple" "tuple") .nil))) (.blt .isinst (.cons (.var 1) (.cons (.bty "list" "list") .nil)))) (.cons (.ifs (.or (.cmp .ne (.blt .isinst (.cons (.var 0) (.cons (.bty "tuple" "tuple") .nil))) (.blt .isinst (.cons (.var 1) (.cons (.bty "tuple" "tuple") .nil)))) (.cmp .ne (.blt .isinst (.cons (.var 0) (.cons (.bty "list" "list") .nil))) (.blt .isinst (.cons (.var 1) (.cons (.bty "list" "list") .nil))))) (.cons (.ret (.cst (.bl false))) .nil) .nil) (.cons (.ret (.and (.cmp .eq (.blt .len (.cons (.var 0) .nil)) (.blt .len (.cons (.var 1) .nil))) (.blt .all (.cons (.comp (.call "_law_same" (.cons (.var 2) (.cons (.var 3) .nil))) (.tp [(.nm 2), (.nm 3)]) (.zip (.cons (.var 0) (.cons (.var 1) .nil))) .no) .nil)))) .nil)) .nil) (.cons (.ifs (.cmp .is (.var 1) (.cst .non)) (.cons (.ret (.cmp .is (.var 0) (.cst .non))) .nil) .nil) (.cons (.ifs (.blt .isinst (.cons (.var 1) (.cons (.bty "int" "int") .nil))) (.cons (.ret (.and (.blt .isinst (.cons (.var 0) (.cons (.bty "int" "int") .nil))) (.and (.cmp .eq (.blt .isinst (.cons (.var 0) (.cons (.bty "bool" "bool") .nil))) (.blt .isinst (.cons (.var 1) (.cons (.bty "bool" "bool") .nil)))) (.cmp .eq (.var 0) (.var 1))))) .nil) .nil) (.cons (.ret (.and (.blt .isinst (.cons (.var 1) (.cons (.bty "str" "str") .nil))) (.and (.blt .isinst (.cons (.var 0) (.cons (.bty "str" "str") .nil))) (.cmp .eq (.var 0) (.var 1))))) .nil))))
def f__law_same : Fn := ⟨["told", "due"], 4, b__law_same⟩
def d__law_same : DefC := ⟨"_law_same", top 78, ["told", "due", "one", "two"], f__law_same, false⟩
def b__law_names : Ss := (.cons (.set (.nm 2) (.mth .split (.cst (.str "add all book coin deal end epoch holder in key look lost no none of open or plan prime quit row rows")) (.cons (.cst (.str " ")) .nil))) (.cons (.par [(2, false), (3, true)] (.cons (.bop .add (.var 2) (.mth .split (.cst (.str "scheme see share strike sum undo yes")) (.cons (.cst (.str " ")) .nil))) (.cons (.lst .nil) .nil))) (.cons (.for_ (.nm 4) (.rng (.cons (.var 1) .nil)) (.cons (.set (.nm 5) (.cst (.str ""))) (.cons (.for_ (.nm 6) (.rng (.cons (.bop .add (.cst (.int 1)) (.call "_law_of" (.cons (.var 0) (.cons (.lst (.cons (.cst (.int 0)) (.cons (.cst (.int 0)) (.cons (.cst (.int 1)) (.cons (.cst (.int 2)) (.cons (.cst (.int 7)) .nil)))))) .nil)))) .nil)) (.cons (.set (.nm 5) (.bop .add (.var 5) (.call "_law_of" (.cons (.var 0) (.cons (.cst (.str "abcdefghijklmnopqrstuvwxyz")) .nil))))) .nil)) (.cons (.set (.nm 5) (.call "_law_of" (.cons (.var 0) (.cons (.lst (.cons (.cst (.str "a")) (.cons (.cst (.str "b")) (.cons (.cst (.str "primes")) (.cons (.var 5) (.cons (.var 5) (.cons (.var 5) (.cons (.var 5) .nil)))))))) .nil)))) (.cons (.append 3 (.idx (.comp (.var 7) (.nm 7) (.val (.bop .add (.lst (.cons (.var 5) .nil)) (.comp (.bop .add (.sl (.var 5) .no (.so (.cst (.int 7)))) (.var 8)) (.nm 8) (.val (.cst (.str "abcdefghijklmnopqrstuvwxyz"))) .no))) (.so (.cmp .nin (.var 7) (.bop .add (.var 2) (.var 3))))) (.cst (.int 0)))) .nil))))) (.cons (.ret (.blt .tuple (.cons (.blt .sorted (.cons (.var 3) .nil)) .nil))) .nil))))
def f__law_names : Fn := ⟨["hand", "many"], 9, b__law_names⟩
def d__law_names : DefC := ⟨"_law_names", top 79, ["hand", "many", "bad", "found", "lap", "word", "spot", "each", "sign"], f__law_names, false⟩
def b__law_drawn : Ss := (.cons (.set (.nm 2) (.call "_law_of" (.cons (.var 0) (.cons (.lst (.cons (.cst (.int 2)) (.cons (.cst (.int 2)) (.cons (.cst (.int 3)) .nil)))) .nil)))) (.cons (.ret (.blt .tuple (.cons (.comp (.var 3) (.nm 3) (.val (.var 1)) (.so (.cmp .eq (.call "_law_turn" (.cons (.var 0) (.cons (.var 2) .nil))) (.cst (.int 0))))) .nil))) .nil))
def f__law_drawn : Fn := ⟨["hand", "holders"], 4, b__law_drawn⟩
def d__law_drawn : DefC := ⟨"_law_drawn", top 80, ["hand", "holders", "share", "holder"], f__law_drawn, false⟩
def b__law_less : Ss := (.cons (.ret (.blt .tuple (.cons (.comp (.bop .mod (.bop .sub (.var 4) (.bop .mul (.var 2) (.var 5))) (.var 0)) (.tp [(.nm 4), (.nm 5)]) (.zip (.cons (.var 1) (.cons (.var 3) .nil))) .no) .nil))) .nil)
def f__law_less : Fn := ⟨["prime", "row", "by", "other"], 6, b__law_less⟩
def d__law_less : DefC := ⟨"_law_less", top 81, ["prime", "row", "by", "other", "one", "two"], f__law_less, false⟩
def b__law_key : Ss := (.cons (.ret (.bop .add (.tup (.cons (.cst (.int 1)) .nil)) (.bop .mul (.tup (.cons (.cst (.int 0)) .nil)) (.bop .sub (.var 0) (.cst (.int 1)))))) .nil)
def f__law_key : Fn := ⟨["width"], 1, b__law_key⟩
def d__law_key : DefC := ⟨"_law_key", top 82, ["width"], f__law_key, false⟩
def b__law_width : Ss := (.cons (.ret (.blt .len (.cons (.idx (.idx (.idx (.var 0) (.cst (.int 2))) (.cst (.int 0))) (.cst (.int 1))) .nil))) .nil)
def f__law_width : Fn := ⟨["scheme"], 1, b__law_width⟩
def d__law_width : DefC := ⟨"_law_width", top 83, ["scheme"], f__law_width, false⟩
def b__law_scheme : Ss := (.cons (.par [(3, false), (4, false), (5, false)] (.cons (.call "_law_of" (.cons (.var 0) (.cons (.var 2) .nil))) (.cons (.call "_law_names" (.cons (.var 0) (.cons (.bop .add (.cst (.int 1)) (.call "_law_turn" (.cons (.var 0) (.cons (.var 1) .nil)))) .nil))) (.cons (.bop .add (.cst (.int 1)) (.call "_law_of" (.cons (.var 0) (.cons (.lst (.cons (.cst (.int 1)) (.cons (.cst (.int 2)) (.cons (.cst (.int 0)) (.cons (.cst (.int 3)) .nil))))) .nil)))) .nil)))) (.cons (.own 6 (.lst .nil)) (.cons (.for_ (.nm 7) (.rng (.cons (.bop .add (.cst (.int 1)) (.call "_law_of" (.cons (.var 0) (.cons (.lst (.cons (.cst (.int 2)) (.cons (.cst (.int 3)) (.cons (.cst (.int 1)) (.cons (.cst (.int 4)) (.cons (.cst (.int 6)) .nil)))))) .nil)))) .nil)) (.cons (.set (.nm 8) (.blt .tuple (.cons (.comp (.call "_law_turn" (.cons (.var 0) (.cons (.var 3) .nil))) (.nm 9) (.rng (.cons (.var 5) .nil)) .no) .nil))) (.cons (.append 6 (.tup (.cons (.call "_law_of" (.cons (.var 0) (.cons (.var 4) .nil))) (.cons (.call "_law_of" (.cons (.var 0) (.cons (.lst (.cons (.var 8) (.cons (.var 8) (.cons (.var 8) (.cons (.bop .mul (.tup (.cons (.cst (.int 0)) .nil)) (.var 5)) (.cons (.ite (.cmp .ne (.var 6) (.lst .nil)) (.idx (.idx (.var 6) (.neg (.cst (.int 1)))) (.cst (.int 1))) (.var 8)) .nil)))))) .nil))) .nil)))) .nil))) (.cons (.ifs (.cmp .gt (.call "_law_turn" (.cons (.var 0) (.cons (.cst (.int 4)) .nil))) (.cst (.int 0))) (.cons (.set (.nm 10) (.call "_law_key" (.cons (.var 5) .nil))) (.cons (.forw (.tp [(.nm 11), (.nm 8)]) 6 (.cons (.set (.nm 10) (.call "_law_less" (.cons (.var 3) (.cons (.var 10) (.cons (.call "_law_of" (.cons (.var 0) (.cons (.lst (.cons (.cst (.int 1)) (.cons (.cst (.int 0)) (.cons (.call "_law_turn" (.cons (.var 0) (.cons (.var 3) .nil))) .nil)))) .nil))) (.cons (.var 8) .nil)))))) .nil)) (.cons (.append 6 (.tup (.cons (.call "_law_of" (.cons (.var 0) (.cons (.var 4) .nil))) (.cons (.var 10) .nil)))) .nil))) .nil) (.cons (.ret (.tup (.cons (.var 3) (.cons (.var 4) (.cons (.blt .tuple (.cons (.comp (.idx (.var 6) (.var 12)) (.tp [(.nm 11), (.nm 12)]) (.val (.blt .sorted (.cons (.comp (.tup (.cons (.var 11) (.cons (.var 12) .nil))) (.tp [(.nm 12), (.tp [(.nm 11), (.nm 8)])]) (.enum (.cons (.var 6) .nil)) .no) .nil))) .no) .nil)) .nil))))) .nil)))))
def f__law_scheme : Fn := ⟨["hand", "most", "primes"], 13, b__law_scheme⟩
def d__law_scheme : DefC := ⟨"_law_scheme", top 84, ["hand", "most", "primes", "prime", "holders", "width", "rows", "lap", "row", "spot", "last", "holder", "k"], f__law_scheme, false⟩
def b__law_made : Ss := (.cons (.ret (.mk "Scheme" (.cons (.idx (.var 0) (.cst (.int 0))) (.cons (.idx (.var 0) (.cst (.int 1))) (.cons (.idx (.var 0) (.cst (.int 2))) .nil))))) .nil)
def f__law_made : Fn := ⟨["scheme"], 1, b__law_made⟩
def d__law_made : DefC := ⟨"_law_made", top 85, ["scheme"], f__law_made, false⟩
def b__law_times : Ss := (.cons (.ret (.bop .mod (.blt .sum (.cons (.comp (.bop .mul (.var 3) (.var 4)) (.tp [(.nm 3), (.nm 4)]) (.zip (.cons (.var 1) (.cons (.var 2) .nil))) .no) .nil)) (.var 0))) .nil)
def f__law_times : Fn := ⟨["prime", "one", "two"], 5, b__law_times⟩
def d__law_times : DefC := ⟨"_law_times", top 86, ["prime", "one", "two", "each", "other"], f__law_times, false⟩
def b__law_dealing : Ss := (.cons (.ret (.blt .tuple (.cons (.comp (.call "_law_turn" (.cons (.var 0) (.cons (.var 1) .nil))) (.nm 3) (.rng (.cons (.var 2) .nil)) .no) .nil))) .nil)
def f__law_dealing : Fn := ⟨["hand", "prime", "width"], 4, b__law_dealing⟩
def d__law_dealing : DefC := ⟨"_law_dealing", top 87, ["hand", "prime", "width", "spot"], f__law_dealing, false⟩
def b__law_shares : Ss := (.cons (.ret (.blt .tuple (.cons (.comp (.call "_law_times" (.cons (.idx (.var 0) (.cst (.int 0))) (.cons (.var 3) (.cons (.var 1) .nil)))) (.tp [(.nm 2), (.nm 3)]) (.val (.idx (.var 0) (.cst (.int 2)))) .no) .nil))) .nil)
def f__law_shares : Fn := ⟨["scheme", "dealing"], 4, b__law_shares⟩
def d__law_shares : DefC := ⟨"_law_shares", top 88, ["scheme", "dealing", "holder", "row"], f__law_shares, false⟩
def b__law_seen : Ss := (.cons (.ret (.blt .tuple (.cons (.comp (.ite (.cmp .inn (.var 3) (.var 2)) (.call "_law_times" (.cons (.idx (.var 0) (.cst (.int 0))) (.cons (.var 4) (.cons (.var 1) .nil)))) (.cst .non)) (.tp [(.nm 3), (.nm 4)]) (.val (.idx (.var 0) (.cst (.int 2)))) .no) .nil))) .nil)
def f__law_seen : Fn := ⟨["scheme", "dealing", "some"], 5, b__law_seen⟩
def d__law_seen : DefC := ⟨"_law_seen", top 89, ["scheme", "dealing", "some", "holder", "row"], f__law_seen, false⟩
def b__law_right : Ss := (.cons (.for_ (.nm 1) (.rng (.cons (.cst (.int 4)) .nil)) (.cons (.set (.nm 2) (.call "_law_scheme" (.cons (.var 0) (.cons (.cst (.int 6)) (.cons (.lst (.cons (.cst (.int 2)) (.cons (.cst (.int 3)) (.cons (.cst (.int 5)) (.cons (.cst (.int 7)) (.cons (.cst (.int 97)) .nil)))))) .nil))))) (.cons (.set (.tp [(.nm 3), (.nm 4), (.nm 5)]) (.var 2)) (.cons (.par [(6, false), (7, false), (8, false)] (.cons (.call "_law_made" (.cons (.var 2) .nil)) (.cons (.call "_law_width" (.cons (.var 2) .nil)) (.cons (.call "_law_drawn" (.cons (.var 0) (.cons (.idx (.var 2) (.cst (.int 1))) .nil))) .nil)))) (.cons (.par [(9, false), (10, false), (11, false)] (.cons (.call "_law_dealing" (.cons (.var 0) (.cons (.var 3) (.cons (.var 7) .nil)))) (.cons (.call "_law_dealing" (.cons (.var 0) (.cons (.var 3) (.cons (.var 7) .nil)))) (.cons (.call "_law_turn" (.cons (.var 0) (.cons (.var 3) .nil))) .nil)))) (.cons (.par [(12, false), (13, false)] (.cons (.call "_law_shares" (.cons (.var 2) (.cons (.var 9) .nil))) (.cons (.call "_law_seen" (.cons (.var 2) (.cons (.var 9) (.cons (.var 8) .nil)))) .nil))) (.cons (.ifs (.not (.call "_law_same" (.cons (.lst (.cons (.call "shares" (.cons (.var 6) (.cons (.var 9) .nil))) (.cons (.callk "shares" .nil ["dealing", "scheme"] (.cons (.var 9) (.cons (.var 6) .nil)) [1, 0]) .nil))) (.cons (.lst (.cons (.var 12) (.cons (.var 12) .nil))) .nil)))) (.cons (.ret (.cst (.bl false))) .nil) .nil) (.cons (.ifs (.not (.call "_law_same" (.cons (.lst (.cons (.call "seen_by" (.cons (.var 6) (.cons (.var 9) (.cons (.var 8) .nil)))) (.cons (.callk "seen_by" .nil ["some", "dealing", "scheme"] (.cons (.var 8) (.cons (.var 9) (.cons (.var 6) .nil))) [2, 1, 0]) .nil))) (.cons (.lst (.cons (.var 13) (.cons (.var 13) .nil))) .nil)))) (.cons (.ret (.cst (.bl false))) .nil) .nil) (.cons (.par [(14, false), (15, false)] (.cons (.blt .tuple (.cons (.comp (.bop .mod (.bop .add (.var 16) (.var 17)) (.var 3)) (.tp [(.nm 16), (.nm 17)]) (.zip (.cons (.var 9) (.cons (.var 10) .nil))) .no) .nil)) (.cons (.blt .tuple (.cons (.comp (.bop .mod (.bop .mul (.var 16) (.var 11)) (.var 3)) (.nm 16) (.val (.var 9)) .no) .nil)) .nil))) (.cons (.ifs (.not (.call "_law_same" (.cons (.lst (.cons (.call "added" (.cons (.var 6) (.cons (.var 9) (.cons (.var 10) .nil)))) (.cons (.callk "added" .nil ["other", "dealing", "scheme"] (.cons (.var 10) (.cons (.var 9) (.cons (.var 6) .nil))) [2, 1, 0]) .nil))) (.cons (.lst (.cons (.var 14) (.cons (.var 14) .nil))) .nil)))) (.cons (.ret (.cst (.bl false))) .nil) .nil) (.cons (.ifs (.not (.call "_law_same" (.cons (.lst (.cons (.call "times" (.cons (.var 6) (.cons (.var 9) (.cons (.var 11) .nil)))) (.cons (.callk "times" .nil ["number", "dealing", "scheme"] (.cons (.var 11) (.cons (.var 9) (.cons (.var 6) .nil))) [2, 1, 0]) .nil))) (.cons (.lst (.cons (.var 15) (.cons (.var 15) .nil))) .nil)))) (.cons (.ret (.cst (.bl false))) .nil) .nil) (.cons (.set (.nm 18) (.call "_law_shares" (.cons (.var 2) (.cons (.var 10) .nil)))) (.cons (.set (.nm 19) (.blt .tuple (.cons (.comp (.bop .mod (.bop .add (.var 16) (.var 17)) (.var 3)) (.tp [(.nm 16), (.nm 17)]) (.zip (.cons (.var 12) (.cons (.var 18) .nil))) .no) .nil))) (.cons (.ifs (.not (.call "_law_same" (.cons (.lst (.cons (.call "shares" (.cons (.var 6) (.cons (.var 14) .nil))) (.cons (.call "shares" (.cons (.var 6) (.cons (.var 15) .nil))) .nil))) (.cons (.lst (.cons (.var 19) (.cons (.blt .tuple (.cons (.comp (.bop .mod (.bop .mul (.var 16) (.var 11)) (.var 3)) (.nm 16) (.val (.var 12)) .no) .nil)) .nil))) .nil)))) (.cons (.ret (.cst (.bl false))) .nil) .nil) (.cons (.set (.nm 20) (.call "weights" (.cons (.var 6) (.cons (.var 4) .nil)))) (.cons (.ifs (.and (.cmp .isn (.var 20) (.cst .non)) (.not (.call "_law_same" (.cons (.lst (.cons (.call "_law_times" (.cons (.var 3) (.cons (.var 20) (.cons (.var 12) .nil)))) (.cons (.call "_law_times" (.cons (.var 3) (.cons (.var 20) (.cons (.var 19) .nil)))) .nil))) (.cons (.lst (.cons (.idx (.var 9) (.cst (.int 0))) (.cons (.idx (.var 14) (.cst (.int 0))) .nil))) .nil))))) (.cons (.ret (.cst (.bl false))) .nil) .nil) .nil)))))))))))))))) (.cons (.ret (.cst (.bl true))) .nil))
def f__law_right : Fn := ⟨["hand"], 21, b__law_right⟩
def d__law_right : DefC := ⟨"_law_right", top 90, ["hand", "lap", "scheme", "prime", "holders", "rows", "made", "width", "some", "one", "two", "by", "due", "part", "both", "many", "a", "b", "other", "sums", "row"], f__law_right, false⟩
def b_law : Ss := (.cons (.ret (.blt .all (.cons (.comp (.call "_law_right" (.cons (.call "_law_hand" (.cons (.var 0) (.cons (.var 1) .nil))) .nil)) (.nm 1) (.rng (.cons (.blt .max2 (.cons (.cst (.int 1)) (.cons (.blt .min2 (.cons (.blt .len (.cons (.var 0) .nil)) (.cons (.cst (.int 3)) .nil))) .nil))) .nil)) .no) .nil))) .nil)
def f_law : Fn := ⟨["script"], 2, b_law⟩
def d_law : DefC := ⟨"law", top 91, ["script", "lap"], f_law, false⟩
def cls (i k : Nat) : Stmt := match top i with
  | .ClassDef _ _ _ b _ _ _ _ _ _ _ => b.getD k (.Pass ⟨0, 0, 0, 0⟩)
  | s => s
def bi_Scheme : Ss := (.cons (.expr (.call "check_prime" (.cons (.var 1) .nil))) (.cons (.expr (.call "check_holders" (.cons (.var 2) .nil))) (.cons (.for_ (.nm 4) (.val (.call "wrong_in_rows" (.cons (.var 1) (.cons (.var 2) (.cons (.var 3) .nil))))) (.cons .bad .nil)) .nil)))
def ei_Scheme : E := (.tup (.cons (.var 1) (.cons (.var 2) (.cons (.var 3) .nil))))
def I_Scheme : Init := ⟨["prime", "holders", "rows"], 5, bi_Scheme, "told", ei_Scheme⟩
def i_Scheme : IniC := ⟨"Scheme", cls 63 0, ["self", "prime", "holders", "rows", "index"], "self", I_Scheme⟩
def bp_Scheme_rows : Ss := (.cons (.ret (.idx (.fld (.var 0) "Scheme" "told") (.cst (.int 2)))) .nil)
def fp_Scheme_rows : Fn := ⟨["self"], 1, bp_Scheme_rows⟩
def p_Scheme_rows : GetC := ⟨"Scheme", "rows", cls 63 3, ["self"], fp_Scheme_rows⟩
def bp_Scheme_prime : Ss := (.cons (.ret (.idx (.fld (.var 0) "Scheme" "told") (.cst (.int 0)))) .nil)
def fp_Scheme_prime : Fn := ⟨["self"], 1, bp_Scheme_prime⟩
def p_Scheme_prime : GetC := ⟨"Scheme", "prime", cls 63 1, ["self"], fp_Scheme_prime⟩
def bp_Scheme_holders : Ss := (.cons (.ret (.idx (.fld (.var 0) "Scheme" "told") (.cst (.int 1)))) .nil)
def fp_Scheme_holders : Fn := ⟨["self"], 1, bp_Scheme_holders⟩
def p_Scheme_holders : GetC := ⟨"Scheme", "holders", cls 63 2, ["self"], fp_Scheme_holders⟩
def LC : LawC := { dfs := [d_is_whole, d_is_between, d_is_up_to, d_is_one_of, d_is_word, d_is_name, d_is_tuple_of, d_is_pair, d_wrong_in, d_are_below, d_is_set_of_names, d_are_numbers, d_wrong_in_holders, d_is_prime, d_modulo, d_inverse, d_product, d_times_row, d_plus_rows, d_without, d_lone_row, d_brought, d_some_answer, d_turned, d_weights_for, d_check_number, d_check_prime, d_check_holders, d_check_set, d_is_row_of, d_may_stand, d_wrong_in_rows, d_width_of, d_key_row, d_all_rows, d_spots_of, d_rows_of, d_spread_out, d_weights_by, d_is_dealing, d_shares_by, d_seen_of, d_check_scheme, d_check_some, d_weights, d_check_dealing, d_check_dealt, d_shares, d_seen_by, d_added, d_times, d__law_hand, d__law_turn, d__law_of, d__law_same, d__law_names, d__law_drawn, d__law_less, d__law_key, d__law_width, d__law_scheme, d__law_made, d__law_times, d__law_dealing, d__law_shares, d__law_seen, d__law_right, d_law], free := ["ValueError", "abs", "all", "any", "bool", "dict", "divmod", "enumerate", "int", "isinstance", "len", "list", "max", "min", "property", "range", "sorted", "str", "sum", "super", "tuple", "zip"], gl := [("LETTERS", (.str "abcdefghijklmnopqrstuvwxyz")), ("MOST_LETTERS", (.int 8)), ("WORDS", (.tup [(.str "add"), (.str "all"), (.str "book"), (.str "coin"), (.str "deal"), (.str "end"), (.str "epoch"), (.str "holder"), (.str "in"), (.str "key"), (.str "look"), (.str "lost"), (.str "no"), (.str "none"), (.str "of"), (.str "open"), (.str "or"), (.str "plan"), (.str "prime"), (.str "quit"), (.str "row"), (.str "rows"), (.str "scheme"), (.str "see"), (.str "share"), (.str "strike"), (.str "sum"), (.str "undo"), (.str "yes")])), ("MOST_HOLDERS", (.int 8)), ("PRIMES", (.tup [(.int 2), (.int 3), (.int 5), (.int 7), (.int 11), (.int 13), (.int 17), (.int 19), (.int 23), (.int 29), (.int 31), (.int 37), (.int 41), (.int 43), (.int 47), (.int 53), (.int 59), (.int 61), (.int 67), (.int 71), (.int 73), (.int 79), (.int 83), (.int 89), (.int 97)])), ("MOST_ROWS", (.int 40)), ("MOST_WIDTH", (.int 24))], kws := [("shares", 0, ["dealing", "scheme"], [1, 0]), ("seen_by", 0, ["some", "dealing", "scheme"], [2, 1, 0]), ("added", 0, ["other", "dealing", "scheme"], [2, 1, 0]), ("times", 0, ["number", "dealing", "scheme"], [2, 1, 0])], wf := 100000, inis := [i_Scheme], gts := [p_Scheme_rows, p_Scheme_prime, p_Scheme_holders], flds := [("Scheme", "told")], iscs := ["Scheme"] }
theorem c_is_whole : LC.chkD d_is_whole = true := by decide +kernel
theorem c_is_between : LC.chkD d_is_between = true := by decide +kernel
theorem c_is_up_to : LC.chkD d_is_up_to = true := by decide +kernel
theorem c_is_one_of : LC.chkD d_is_one_of = true := by decide +kernel
theorem c_is_word : LC.chkD d_is_word = true := by decide +kernel
theorem c_is_name : LC.chkD d_is_name = true := by decide +kernel
theorem c_is_tuple_of : LC.chkD d_is_tuple_of = true := by decide +kernel
theorem c_is_pair : LC.chkD d_is_pair = true := by decide +kernel
theorem c_wrong_in : LC.chkD d_wrong_in = true := by decide +kernel
theorem c_are_below : LC.chkD d_are_below = true := by decide +kernel
theorem c_is_set_of_names : LC.chkD d_is_set_of_names = true := by decide +kernel
theorem c_are_numbers : LC.chkD d_are_numbers = true := by decide +kernel
theorem c_wrong_in_holders : LC.chkD d_wrong_in_holders = true := by decide +kernel
theorem c_is_prime : LC.chkD d_is_prime = true := by decide +kernel
theorem c_modulo : LC.chkD d_modulo = true := by decide +kernel
theorem c_inverse : LC.chkD d_inverse = true := by decide +kernel
theorem c_product : LC.chkD d_product = true := by decide +kernel
theorem c_times_row : LC.chkD d_times_row = true := by decide +kernel
theorem c_plus_rows : LC.chkD d_plus_rows = true := by decide +kernel
theorem c_without : LC.chkD d_without = true := by decide +kernel
theorem c_lone_row : LC.chkD d_lone_row = true := by decide +kernel
theorem c_brought : LC.chkD d_brought = true := by decide +kernel
theorem c_some_answer : LC.chkD d_some_answer = true := by decide +kernel
theorem c_turned : LC.chkD d_turned = true := by decide +kernel
theorem c_weights_for : LC.chkD d_weights_for = true := by decide +kernel
theorem c_check_number : LC.chkD d_check_number = true := by decide +kernel
theorem c_check_prime : LC.chkD d_check_prime = true := by decide +kernel
theorem c_check_holders : LC.chkD d_check_holders = true := by decide +kernel
theorem c_check_set : LC.chkD d_check_set = true := by decide +kernel
theorem c_is_row_of : LC.chkD d_is_row_of = true := by decide +kernel
theorem c_may_stand : LC.chkD d_may_stand = true := by decide +kernel
theorem c_wrong_in_rows : LC.chkD d_wrong_in_rows = true := by decide +kernel
theorem c_width_of : LC.chkD d_width_of = true := by decide +kernel
theorem c_key_row : LC.chkD d_key_row = true := by decide +kernel
theorem c_all_rows : LC.chkD d_all_rows = true := by decide +kernel
theorem c_spots_of : LC.chkD d_spots_of = true := by decide +kernel
theorem c_rows_of : LC.chkD d_rows_of = true := by decide +kernel
theorem c_spread_out : LC.chkD d_spread_out = true := by decide +kernel
theorem c_weights_by : LC.chkD d_weights_by = true := by decide +kernel
theorem c_is_dealing : LC.chkD d_is_dealing = true := by decide +kernel
theorem c_shares_by : LC.chkD d_shares_by = true := by decide +kernel
theorem c_seen_of : LC.chkD d_seen_of = true := by decide +kernel
theorem c_check_scheme : LC.chkD d_check_scheme = true := by decide +kernel
theorem c_check_some : LC.chkD d_check_some = true := by decide +kernel
theorem c_weights : LC.chkD d_weights = true := by decide +kernel
theorem c_check_dealing : LC.chkD d_check_dealing = true := by decide +kernel
theorem c_check_dealt : LC.chkD d_check_dealt = true := by decide +kernel
theorem c_shares : LC.chkD d_shares = true := by decide +kernel
theorem c_seen_by : LC.chkD d_seen_by = true := by decide +kernel
theorem c_added : LC.chkD d_added = true := by decide +kernel
theorem c_times : LC.chkD d_times = true := by decide +kernel
theorem c__law_hand : LC.chkD d__law_hand = true := by decide +kernel
theorem c__law_turn : LC.chkD d__law_turn = true := by decide +kernel
theorem c__law_of : LC.chkD d__law_of = true := by decide +kernel
theorem c__law_same : LC.chkD d__law_same = true := by decide +kernel
theorem c__law_names : LC.chkD d__law_names = true := by decide +kernel
theorem c__law_drawn : LC.chkD d__law_drawn = true := by decide +kernel
theorem c__law_less : LC.chkD d__law_less = true := by decide +kernel
theorem c__law_key : LC.chkD d__law_key = true := by decide +kernel
theorem c__law_width : LC.chkD d__law_width = true := by decide +kernel
theorem c__law_scheme : LC.chkD d__law_scheme = true := by decide +kernel
theorem c__law_made : LC.chkD d__law_made = true := by decide +kernel
theorem c__law_times : LC.chkD d__law_times = true := by decide +kernel
theorem c__law_dealing : LC.chkD d__law_dealing = true := by decide +kernel
theorem c__law_shares : LC.chkD d__law_shares = true := by decide +kernel
theorem c__law_seen : LC.chkD d__law_seen = true := by decide +kernel
theorem c__law_right : LC.chkD d__law_right = true := by decide +kernel
theorem c_law : LC.chkD d_law = true := by decide +kernel
theorem cD : LC.dfs.all LC.chkD = true := by
  show (LC.chkD d_is_whole && ( LC.chkD d_is_between && ( LC.chkD d_is_up_to && ( LC.chkD d_is_one_of && ( LC.chkD d_is_word && ( LC.chkD d_is_name && ( LC.chkD d_is_tuple_of && ( LC.chkD d_is_pair && ( LC.chkD d_wrong_in && ( LC.chkD d_are_below && ( LC.chkD d_is_set_of_names && ( LC.chkD d_are_numbers && ( LC.chkD d_wrong_in_holders && ( LC.chkD d_is_prime && ( LC.chkD d_modulo && ( LC.chkD d_inverse && ( LC.chkD d_product && ( LC.chkD d_times_row && ( LC.chkD d_plus_rows && ( LC.chkD d_without && ( LC.chkD d_lone_row && ( LC.chkD d_brought && ( LC.chkD d_some_answer && ( LC.chkD d_turned && ( LC.chkD d_weights_for && ( LC.chkD d_check_number && ( LC.chkD d_check_prime && ( LC.chkD d_check_holders && ( LC.chkD d_check_set && ( LC.chkD d_is_row_of && ( LC.chkD d_may_stand && ( LC.chkD d_wrong_in_rows && ( LC.chkD d_width_of && ( LC.chkD d_key_row && ( LC.chkD d_all_rows && ( LC.chkD d_spots_of && ( LC.chkD d_rows_of && ( LC.chkD d_spread_out && ( LC.chkD d_weights_by && ( LC.chkD d_is_dealing && ( LC.chkD d_shares_by && ( LC.chkD d_seen_of && ( LC.chkD d_check_scheme && ( LC.chkD d_check_some && ( LC.chkD d_weights && ( LC.chkD d_check_dealing && ( LC.chkD d_check_dealt && ( LC.chkD d_shares && ( LC.chkD d_seen_by && ( LC.chkD d_added && ( LC.chkD d_times && ( LC.chkD d__law_hand && ( LC.chkD d__law_turn && ( LC.chkD d__law_of && ( LC.chkD d__law_same && ( LC.chkD d__law_names && ( LC.chkD d__law_drawn && ( LC.chkD d__law_less && ( LC.chkD d__law_key && ( LC.chkD d__law_width && ( LC.chkD d__law_scheme && ( LC.chkD d__law_made && ( LC.chkD d__law_times && ( LC.chkD d__law_dealing && ( LC.chkD d__law_shares && ( LC.chkD d__law_seen && ( LC.chkD d__law_right && (LC.chkD d_law && true)))))))))))))))))))))))))))))))))))))))))))))))))))))))))))))))))))) = true
  rw [c_is_whole, c_is_between, c_is_up_to, c_is_one_of, c_is_word, c_is_name, c_is_tuple_of, c_is_pair, c_wrong_in, c_are_below, c_is_set_of_names, c_are_numbers, c_wrong_in_holders, c_is_prime, c_modulo, c_inverse, c_product, c_times_row, c_plus_rows, c_without, c_lone_row, c_brought, c_some_answer, c_turned, c_weights_for, c_check_number, c_check_prime, c_check_holders, c_check_set, c_is_row_of, c_may_stand, c_wrong_in_rows, c_width_of, c_key_row, c_all_rows, c_spots_of, c_rows_of, c_spread_out, c_weights_by, c_is_dealing, c_shares_by, c_seen_of, c_check_scheme, c_check_some, c_weights, c_check_dealing, c_check_dealt, c_shares, c_seen_by, c_added, c_times, c__law_hand, c__law_turn, c__law_of, c__law_same, c__law_names, c__law_drawn, c__law_less, c__law_key, c__law_width, c__law_scheme, c__law_made, c__law_times, c__law_dealing, c__law_shares, c__law_seen, c__law_right, c_law]; rfl
theorem cI : LC.inis.all LC.chkI = true := by decide +kernel
theorem cG : LC.gts.all LC.chkG = true := by decide +kernel
theorem cK : LC.chkK = true := by decide +kernel
theorem cL : (LC.find "law").map (fun d => d.fn.ps) = some [("script" : Str)] := by decide +kernel
abbrev O (n : Nat) : Ora := LC.prg.ora n
theorem g_is_whole (n : Nat) (ds : List D) : (O (n + 1)).call "is_whole" ds = runFn (O n) f_is_whole ds := call_of (by kernel_rfl) n ds
theorem g_is_between (n : Nat) (ds : List D) : (O (n + 1)).call "is_between" ds = runFn (O n) f_is_between ds := call_of (by kernel_rfl) n ds
theorem g_is_up_to (n : Nat) (ds : List D) : (O (n + 1)).call "is_up_to" ds = runFn (O n) f_is_up_to ds := call_of (by kernel_rfl) n ds
theorem g_is_one_of (n : Nat) (ds : List D) : (O (n + 1)).call "is_one_of" ds = runFn (O n) f_is_one_of ds := call_of (by kernel_rfl) n ds
theorem g_is_word (n : Nat) (ds : List D) : (O (n + 1)).call "is_word" ds = runFn (O n) f_is_word ds := call_of (by kernel_rfl) n ds
theorem g_is_name (n : Nat) (ds : List D) : (O (n + 1)).call "is_name" ds = runFn (O n) f_is_name ds := call_of (by kernel_rfl) n ds
theorem g_is_tuple_of (n : Nat) (ds : List D) : (O (n + 1)).call "is_tuple_of" ds = runFn (O n) f_is_tuple_of ds := call_of (by kernel_rfl) n ds
theorem g_is_pair (n : Nat) (ds : List D) : (O (n + 1)).call "is_pair" ds = runFn (O n) f_is_pair ds := call_of (by kernel_rfl) n ds
theorem g_wrong_in (n : Nat) (ds : List D) : (O (n + 1)).call "wrong_in" ds = runFn (O n) f_wrong_in ds := call_of (by kernel_rfl) n ds
theorem g_are_below (n : Nat) (ds : List D) : (O (n + 1)).call "are_below" ds = runFn (O n) f_are_below ds := call_of (by kernel_rfl) n ds
theorem g_is_set_of_names (n : Nat) (ds : List D) : (O (n + 1)).call "is_set_of_names" ds = runFn (O n) f_is_set_of_names ds := call_of (by kernel_rfl) n ds
theorem g_are_numbers (n : Nat) (ds : List D) : (O (n + 1)).call "are_numbers" ds = runFn (O n) f_are_numbers ds := call_of (by kernel_rfl) n ds
theorem g_wrong_in_holders (n : Nat) (ds : List D) : (O (n + 1)).call "wrong_in_holders" ds = runFn (O n) f_wrong_in_holders ds := call_of (by kernel_rfl) n ds
theorem g_is_prime (n : Nat) (ds : List D) : (O (n + 1)).call "is_prime" ds = runFn (O n) f_is_prime ds := call_of (by kernel_rfl) n ds
theorem g_modulo (n : Nat) (ds : List D) : (O (n + 1)).call "modulo" ds = runFn (O n) f_modulo ds := call_of (by kernel_rfl) n ds
theorem g_inverse (n : Nat) (ds : List D) : (O (n + 1)).call "inverse" ds = runFn (O n) f_inverse ds := call_of (by kernel_rfl) n ds
theorem g_product (n : Nat) (ds : List D) : (O (n + 1)).call "product" ds = runFn (O n) f_product ds := call_of (by kernel_rfl) n ds
theorem g_times_row (n : Nat) (ds : List D) : (O (n + 1)).call "times_row" ds = runFn (O n) f_times_row ds := call_of (by kernel_rfl) n ds
theorem g_plus_rows (n : Nat) (ds : List D) : (O (n + 1)).call "plus_rows" ds = runFn (O n) f_plus_rows ds := call_of (by kernel_rfl) n ds
theorem g_without (n : Nat) (ds : List D) : (O (n + 1)).call "without" ds = runFn (O n) f_without ds := call_of (by kernel_rfl) n ds
theorem g_lone_row (n : Nat) (ds : List D) : (O (n + 1)).call "lone_row" ds = runFn (O n) f_lone_row ds := call_of (by kernel_rfl) n ds
theorem g_brought (n : Nat) (ds : List D) : (O (n + 1)).call "brought" ds = runFn (O n) f_brought ds := call_of (by kernel_rfl) n ds
theorem g_some_answer (n : Nat) (ds : List D) : (O (n + 1)).call "some_answer" ds = runFn (O n) f_some_answer ds := call_of (by kernel_rfl) n ds
theorem g_turned (n : Nat) (ds : List D) : (O (n + 1)).call "turned" ds = runFn (O n) f_turned ds := call_of (by kernel_rfl) n ds
theorem g_weights_for (n : Nat) (ds : List D) : (O (n + 1)).call "weights_for" ds = runFn (O n) f_weights_for ds := call_of (by kernel_rfl) n ds
theorem g_check_number (n : Nat) (ds : List D) : (O (n + 1)).call "check_number" ds = runFn (O n) f_check_number ds := call_of (by kernel_rfl) n ds
theorem g_check_prime (n : Nat) (ds : List D) : (O (n + 1)).call "check_prime" ds = runFn (O n) f_check_prime ds := call_of (by kernel_rfl) n ds
theorem g_check_holders (n : Nat) (ds : List D) : (O (n + 1)).call "check_holders" ds = runFn (O n) f_check_holders ds := call_of (by kernel_rfl) n ds
theorem g_check_set (n : Nat) (ds : List D) : (O (n + 1)).call "check_set" ds = runFn (O n) f_check_set ds := call_of (by kernel_rfl) n ds
theorem g_is_row_of (n : Nat) (ds : List D) : (O (n + 1)).call "is_row_of" ds = runFn (O n) f_is_row_of ds := call_of (by kernel_rfl) n ds
theorem g_may_stand (n : Nat) (ds : List D) : (O (n + 1)).call "may_stand" ds = runFn (O n) f_may_stand ds := call_of (by kernel_rfl) n ds
theorem g_wrong_in_rows (n : Nat) (ds : List D) : (O (n + 1)).call "wrong_in_rows" ds = runFn (O n) f_wrong_in_rows ds := call_of (by kernel_rfl) n ds
theorem g_width_of (n : Nat) (ds : List D) : (O (n + 1)).call "width_of" ds = runFn (O n) f_width_of ds := call_of (by kernel_rfl) n ds
theorem g_key_row (n : Nat) (ds : List D) : (O (n + 1)).call "key_row" ds = runFn (O n) f_key_row ds := call_of (by kernel_rfl) n ds
theorem g_all_rows (n : Nat) (ds : List D) : (O (n + 1)).call "all_rows" ds = runFn (O n) f_all_rows ds := call_of (by kernel_rfl) n ds
theorem g_spots_of (n : Nat) (ds : List D) : (O (n + 1)).call "spots_of" ds = runFn (O n) f_spots_of ds := call_of (by kernel_rfl) n ds
theorem g_rows_of (n : Nat) (ds : List D) : (O (n + 1)).call "rows_of" ds = runFn (O n) f_rows_of ds := call_of (by kernel_rfl) n ds
theorem g_spread_out (n : Nat) (ds : List D) : (O (n + 1)).call "spread_out" ds = runFn (O n) f_spread_out ds := call_of (by kernel_rfl) n ds
theorem g_weights_by (n : Nat) (ds : List D) : (O (n + 1)).call "weights_by" ds = runFn (O n) f_weights_by ds := call_of (by kernel_rfl) n ds
theorem g_is_dealing (n : Nat) (ds : List D) : (O (n + 1)).call "is_dealing" ds = runFn (O n) f_is_dealing ds := call_of (by kernel_rfl) n ds
theorem g_shares_by (n : Nat) (ds : List D) : (O (n + 1)).call "shares_by" ds = runFn (O n) f_shares_by ds := call_of (by kernel_rfl) n ds
theorem g_seen_of (n : Nat) (ds : List D) : (O (n + 1)).call "seen_of" ds = runFn (O n) f_seen_of ds := call_of (by kernel_rfl) n ds
theorem g_check_scheme (n : Nat) (ds : List D) : (O (n + 1)).call "check_scheme" ds = runFn (O n) f_check_scheme ds := call_of (by kernel_rfl) n ds
theorem g_check_some (n : Nat) (ds : List D) : (O (n + 1)).call "check_some" ds = runFn (O n) f_check_some ds := call_of (by kernel_rfl) n ds
theorem g_weights (n : Nat) (ds : List D) : (O (n + 1)).call "weights" ds = runFn (O n) f_weights ds := call_of (by kernel_rfl) n ds
theorem g_check_dealing (n : Nat) (ds : List D) : (O (n + 1)).call "check_dealing" ds = runFn (O n) f_check_dealing ds := call_of (by kernel_rfl) n ds
theorem g_check_dealt (n : Nat) (ds : List D) : (O (n + 1)).call "check_dealt" ds = runFn (O n) f_check_dealt ds := call_of (by kernel_rfl) n ds
theorem g_shares (n : Nat) (ds : List D) : (O (n + 1)).call "shares" ds = runFn (O n) f_shares ds := call_of (by kernel_rfl) n ds
theorem g_seen_by (n : Nat) (ds : List D) : (O (n + 1)).call "seen_by" ds = runFn (O n) f_seen_by ds := call_of (by kernel_rfl) n ds
theorem g_added (n : Nat) (ds : List D) : (O (n + 1)).call "added" ds = runFn (O n) f_added ds := call_of (by kernel_rfl) n ds
theorem g_times (n : Nat) (ds : List D) : (O (n + 1)).call "times" ds = runFn (O n) f_times ds := call_of (by kernel_rfl) n ds
theorem g__law_hand (n : Nat) (ds : List D) : (O (n + 1)).call "_law_hand" ds = runFn (O n) f__law_hand ds := call_of (by kernel_rfl) n ds
theorem g__law_turn (n : Nat) (ds : List D) : (O (n + 1)).call "_law_turn" ds = runFn (O n) f__law_turn ds := call_of (by kernel_rfl) n ds
theorem g__law_of (n : Nat) (ds : List D) : (O (n + 1)).call "_law_of" ds = runFn (O n) f__law_of ds := call_of (by kernel_rfl) n ds
theorem g__law_same (n : Nat) (ds : List D) : (O (n + 1)).call "_law_same" ds = runFn (O n) f__law_same ds := call_of (by kernel_rfl) n ds
theorem g__law_names (n : Nat) (ds : List D) : (O (n + 1)).call "_law_names" ds = runFn (O n) f__law_names ds := call_of (by kernel_rfl) n ds
theorem g__law_drawn (n : Nat) (ds : List D) : (O (n + 1)).call "_law_drawn" ds = runFn (O n) f__law_drawn ds := call_of (by kernel_rfl) n ds
theorem g__law_less (n : Nat) (ds : List D) : (O (n + 1)).call "_law_less" ds = runFn (O n) f__law_less ds := call_of (by kernel_rfl) n ds
theorem g__law_key (n : Nat) (ds : List D) : (O (n + 1)).call "_law_key" ds = runFn (O n) f__law_key ds := call_of (by kernel_rfl) n ds
theorem g__law_width (n : Nat) (ds : List D) : (O (n + 1)).call "_law_width" ds = runFn (O n) f__law_width ds := call_of (by kernel_rfl) n ds
theorem g__law_scheme (n : Nat) (ds : List D) : (O (n + 1)).call "_law_scheme" ds = runFn (O n) f__law_scheme ds := call_of (by kernel_rfl) n ds
theorem g__law_made (n : Nat) (ds : List D) : (O (n + 1)).call "_law_made" ds = runFn (O n) f__law_made ds := call_of (by kernel_rfl) n ds
theorem g__law_times (n : Nat) (ds : List D) : (O (n + 1)).call "_law_times" ds = runFn (O n) f__law_times ds := call_of (by kernel_rfl) n ds
theorem g__law_dealing (n : Nat) (ds : List D) : (O (n + 1)).call "_law_dealing" ds = runFn (O n) f__law_dealing ds := call_of (by kernel_rfl) n ds
theorem g__law_shares (n : Nat) (ds : List D) : (O (n + 1)).call "_law_shares" ds = runFn (O n) f__law_shares ds := call_of (by kernel_rfl) n ds
theorem g__law_seen (n : Nat) (ds : List D) : (O (n + 1)).call "_law_seen" ds = runFn (O n) f__law_seen ds := call_of (by kernel_rfl) n ds
theorem g__law_right (n : Nat) (ds : List D) : (O (n + 1)).call "_law_right" ds = runFn (O n) f__law_right ds := call_of (by kernel_rfl) n ds
theorem g_law (n : Nat) (ds : List D) : (O (n + 1)).call "law" ds = runFn (O n) f_law ds := call_of (by kernel_rfl) n ds
theorem gi_Scheme (n : Nat) (ds : List D) : (O (n + 2)).make "Scheme" ds = M.noc (runInit (O n) "Scheme" I_Scheme ds) := make_of (by kernel_rfl) n ds
theorem gp_Scheme_rows (n : Nat) (d : D) : (O (n + 2)).prop "Scheme" "rows" d = runFn (O n) fp_Scheme_rows [d] := prop_of (by kernel_rfl) n d
theorem gp_Scheme_prime (n : Nat) (d : D) : (O (n + 2)).prop "Scheme" "prime" d = runFn (O n) fp_Scheme_prime [d] := prop_of (by kernel_rfl) n d
theorem gp_Scheme_holders (n : Nat) (d : D) : (O (n + 2)).prop "Scheme" "holders" d = runFn (O n) fp_Scheme_holders [d] := prop_of (by kernel_rfl) n d
theorem gl_LETTERS (n : Nat) : (O n).glob "LETTERS" = some (.str "abcdefghijklmnopqrstuvwxyz") := glob_of (by kernel_rfl) n
theorem gl_MOST_LETTERS (n : Nat) : (O n).glob "MOST_LETTERS" = some (.int 8) := glob_of (by kernel_rfl) n
theorem gl_WORDS (n : Nat) : (O n).glob "WORDS" = some (.tup [(.str "add"), (.str "all"), (.str "book"), (.str "coin"), (.str "deal"), (.str "end"), (.str "epoch"), (.str "holder"), (.str "in"), (.str "key"), (.str "look"), (.str "lost"), (.str "no"), (.str "none"), (.str "of"), (.str "open"), (.str "or"), (.str "plan"), (.str "prime"), (.str "quit"), (.str "row"), (.str "rows"), (.str "scheme"), (.str "see"), (.str "share"), (.str "strike"), (.str "sum"), (.str "undo"), (.str "yes")]) := glob_of (by kernel_rfl) n
theorem gl_MOST_HOLDERS (n : Nat) : (O n).glob "MOST_HOLDERS" = some (.int 8) := glob_of (by kernel_rfl) n
theorem gl_PRIMES (n : Nat) : (O n).glob "PRIMES" = some (.tup [(.int 2), (.int 3), (.int 5), (.int 7), (.int 11), (.int 13), (.int 17), (.int 19), (.int 23), (.int 29), (.int 31), (.int 37), (.int 41), (.int 43), (.int 47), (.int 53), (.int 59), (.int 61), (.int 67), (.int 71), (.int 73), (.int 79), (.int 83), (.int 89), (.int 97)]) := glob_of (by kernel_rfl) n
theorem gl_MOST_ROWS (n : Nat) : (O n).glob "MOST_ROWS" = some (.int 40) := glob_of (by kernel_rfl) n
theorem gl_MOST_WIDTH (n : Nat) : (O n).glob "MOST_WIDTH" = some (.int 24) := glob_of (by kernel_rfl) n
abbrev R : PySem.W.OpenRow := PySem.W.OpenLaw.row PySem.Challenge.rw_dealtkeys_k12_whole_shares_of_dealings
abbrev hk : PySem.W.Hook := hookY LC
def ob (s : PySem.W.SharedT) : AlY := obsY LC (HandSHeadRun.getT s)
theorem ob_eq (s : PySem.W.SharedT) : ob s = hk.obs s.abs := obsY_eq (HandSHeadRun.getT_eq s)
def loose : List Str := (["DealError", "InvalidDealing", "InvalidHolders", "InvalidNumber", "InvalidRows", "InvalidSet", "LETTERS", "MOST_HOLDERS", "MOST_LETTERS", "MOST_ROWS", "MOST_WIDTH", "NotAScheme", "PRIMES", "Scheme", "WORDS", "_law_dealing", "_law_drawn", "_law_hand", "_law_key", "_law_less", "_law_made", "_law_names", "_law_of", "_law_right", "_law_same"] : List Str) ++ (["_law_scheme", "_law_seen", "_law_shares", "_law_times", "_law_turn", "_law_width", "added", "all_rows", "are_below", "are_numbers", "brought", "check_dealing", "check_dealt", "check_holders", "check_number", "check_prime", "check_scheme", "check_set", "check_some", "inverse", "is_between", "is_dealing", "is_name", "is_one_of", "is_pair"] : List Str) ++ (["is_prime", "is_row_of", "is_set_of_names", "is_tuple_of", "is_up_to", "is_whole", "is_word", "key_row", "lone_row", "may_stand", "modulo", "plus_rows", "product", "rows_of", "seen_by", "seen_of", "shares", "shares_by", "some_answer", "spots_of", "spread_out", "times", "times_row", "turned", "weights"] : List Str) ++ (["weights_by", "weights_for", "width_of", "without", "wrong_in", "wrong_in_holders", "wrong_in_rows"] : List Str)
end Lawk12
set_option Elab.async false
set_option linter.all false
set_option maxRecDepth 100000
set_option maxHeartbeats 0
namespace Lawk12
open PySem PySem.W PySem.Calls PyProof.Rows L2 Ev HandSHeadRun
noncomputable def xS (w : World) (os : OsState) := endF (stepQ (denQ tabQ) R.prog w) 40000 R.prog w os
theorem runA (w : World) (os : OsState) : (xS w os).map (fun s => (looksF R.prog (boot_heap w.params) s.abs, seenQ (view R.prog [91]) loose (importedModules R.prog.main.body) (fun s => xlAt (view R.prog [91]) [] s && recOk R.toRowW.records s) s.abs)) = some (true, openGood (view R.prog [91]) loose) := by kernel_rfl
theorem runB (w : World) (os : OsState) : (xS w os).map ob = some (hk.val w) := by kernel_rfl
theorem run (w : World) : RunEq R (view R.prog [91]) hk ob 40000 loose w := by
  intro os
  have h1 := runA w os
  have h2 := runB w os
  show (xS w os).map _ = _
  cases e : xS w os with
  | none => rw [e] at h1; cases h1
  | some s =>
    rw [e] at h1 h2
    have h1 := Option.some.inj h1
    have h2 := Option.some.inj h2
    show some (_, _, _) = some (_, _, _)
    rw [h2, (Prod.mk.inj h1).1, (Prod.mk.inj h1).2]
end Lawk12
set_option Elab.async false
set_option linter.all false
set_option maxRecDepth 100000
set_option maxHeartbeats 1000000
namespace Lawk12
open PySem Ev LA
local macro_rules
  | `(tactic| simp_arith [$args,*]) => `(tactic| simp [runFn, evSs, evS, exE, exT, exF, exP, evE, evEs, evO, evC, evI, evF, vw_nil, vw_gen, vw1_no, vw1_val, vw1_own, look, frz_nil, frz_gen, frz1_no, frz1_val, frz1_own, setE, own?, E.vars, Es.vars, Eo.vars, It.vars, It.isRng, setV, wipeV, wipeAt, putS, Tg.vars, Tg.varsL, must_T, lcStep, must_le, cmp_eq_int, cmp_ne_int, cmp_lt_int, cmp_gt_int, cmp_le_int, cmp_ge_int, bop_add_int, bop_sub_int, q_len1, q_len2, q_abs, q_max, q_min, q_int, q_bool, q_tuple1, q_tuple2, q_list1, q_list2, q_all, q_any, q_sum, q_isi, q_isb, q_iss, q_ist, q_isl, q_isn, q_ti, q_tb, q_ts, q_tt, q_tl, q_td, t_non, t_bl, t_int, t_tup, t_lst, f_non, f_bl, f_int, f_str, f_tup, f_lst, f_hnd, f_clo, f_obj, i_tup, i_lst, x_tup, x_lst, s_tup, s_lst, n_int, c_non, c_bl, c_int, c_str, v_clo, is_non, is_bl, nn_non, nn_int, nn_bl, nn_tup, nn_lst, nn_str, cmp_is, cmp_isn, b_nm, b_tp, b_hs, b_nil, b_cons, bt_nm, bt_tp, bt_nil, bt_cons, h_val0, h_succ, x_hnd0, x_hnd1, x_hnd2, nosL_nil, nosL_cons, nos_tup, nos_lst, nos_int, nos_str, nos_bl, nos_non, nos_hnd, nosL_nums, nosL_nms, nocL_nil, nocL_cons, noc_tup, noc_lst, noc_int, noc_str, noc_bl, noc_non, nocL_nums, nocL_nms, nol_non, nol_bl, nol_int, nol_str, nol_tup, nol_lst, nol_hnd, nol_obj, nol_dic, nol_o, nolL_nil, nolL_cons, nolL_nums, nolL_nms, nolL_rws, nolL_prows, nol_t, frz1_out, prow_0, prow_1, t_0, t_1, t_2, isc_o, fld_o, seq_tup, seq_lst, nosL_rws, nosL_prows, nocL_rws, nocL_prows, nos_slf, endW, nosEn, isSlfAt, $args,*])
  | `(tactic| simp_arith [$args,*] $loc:location) => `(tactic| simp [runFn, evSs, evS, exE, exT, exF, exP, evE, evEs, evO, evC, evI, evF, vw_nil, vw_gen, vw1_no, vw1_val, vw1_own, look, frz_nil, frz_gen, frz1_no, frz1_val, frz1_own, setE, own?, E.vars, Es.vars, Eo.vars, It.vars, It.isRng, setV, wipeV, wipeAt, putS, Tg.vars, Tg.varsL, must_T, lcStep, must_le, cmp_eq_int, cmp_ne_int, cmp_lt_int, cmp_gt_int, cmp_le_int, cmp_ge_int, bop_add_int, bop_sub_int, q_len1, q_len2, q_abs, q_max, q_min, q_int, q_bool, q_tuple1, q_tuple2, q_list1, q_list2, q_all, q_any, q_sum, q_isi, q_isb, q_iss, q_ist, q_isl, q_isn, q_ti, q_tb, q_ts, q_tt, q_tl, q_td, t_non, t_bl, t_int, t_tup, t_lst, f_non, f_bl, f_int, f_str, f_tup, f_lst, f_hnd, f_clo, f_obj, i_tup, i_lst, x_tup, x_lst, s_tup, s_lst, n_int, c_non, c_bl, c_int, c_str, v_clo, is_non, is_bl, nn_non, nn_int, nn_bl, nn_tup, nn_lst, nn_str, cmp_is, cmp_isn, b_nm, b_tp, b_hs, b_nil, b_cons, bt_nm, bt_tp, bt_nil, bt_cons, h_val0, h_succ, x_hnd0, x_hnd1, x_hnd2, nosL_nil, nosL_cons, nos_tup, nos_lst, nos_int, nos_str, nos_bl, nos_non, nos_hnd, nosL_nums, nosL_nms, nocL_nil, nocL_cons, noc_tup, noc_lst, noc_int, noc_str, noc_bl, noc_non, nocL_nums, nocL_nms, nol_non, nol_bl, nol_int, nol_str, nol_tup, nol_lst, nol_hnd, nol_obj, nol_dic, nol_o, nolL_nil, nolL_cons, nolL_nums, nolL_nms, nolL_rws, nolL_prows, nol_t, frz1_out, prow_0, prow_1, t_0, t_1, t_2, isc_o, fld_o, seq_tup, seq_lst, nosL_rws, nosL_prows, nocL_rws, nocL_prows, nos_slf, endW, nosEn, isSlfAt, $args,*] $loc:location)
  | `(tactic| simp_arith) => `(tactic| simp [runFn, evSs, evS, exE, exT, exF, exP, evE, evEs, evO, evC, evI, evF, vw_nil, vw_gen, vw1_no, vw1_val, vw1_own, look, frz_nil, frz_gen, frz1_no, frz1_val, frz1_own, setE, own?, E.vars, Es.vars, Eo.vars, It.vars, It.isRng, setV, wipeV, wipeAt, putS, Tg.vars, Tg.varsL, must_T, lcStep, must_le, cmp_eq_int, cmp_ne_int, cmp_lt_int, cmp_gt_int, cmp_le_int, cmp_ge_int, bop_add_int, bop_sub_int, q_len1, q_len2, q_abs, q_max, q_min, q_int, q_bool, q_tuple1, q_tuple2, q_list1, q_list2, q_all, q_any, q_sum, q_isi, q_isb, q_iss, q_ist, q_isl, q_isn, q_ti, q_tb, q_ts, q_tt, q_tl, q_td, t_non, t_bl, t_int, t_tup, t_lst, f_non, f_bl, f_int, f_str, f_tup, f_lst, f_hnd, f_clo, f_obj, i_tup, i_lst, x_tup, x_lst, s_tup, s_lst, n_int, c_non, c_bl, c_int, c_str, v_clo, is_non, is_bl, nn_non, nn_int, nn_bl, nn_tup, nn_lst, nn_str, cmp_is, cmp_isn, b_nm, b_tp, b_hs, b_nil, b_cons, bt_nm, bt_tp, bt_nil, bt_cons, h_val0, h_succ, x_hnd0, x_hnd1, x_hnd2, nosL_nil, nosL_cons, nos_tup, nos_lst, nos_int, nos_str, nos_bl, nos_non, nos_hnd, nosL_nums, nosL_nms, nocL_nil, nocL_cons, noc_tup, noc_lst, noc_int, noc_str, noc_bl, noc_non, nocL_nums, nocL_nms, nol_non, nol_bl, nol_int, nol_str, nol_tup, nol_lst, nol_hnd, nol_obj, nol_dic, nol_o, nolL_nil, nolL_cons, nolL_nums, nolL_nms, nolL_rws, nolL_prows, nol_t, frz1_out, prow_0, prow_1, t_0, t_1, t_2, isc_o, fld_o, seq_tup, seq_lst, nosL_rws, nosL_prows, nocL_rws, nocL_prows, nos_slf, endW, nosEn, isSlfAt])
  | `(tactic| simp_arith $loc:location) => `(tactic| simp [runFn, evSs, evS, exE, exT, exF, exP, evE, evEs, evO, evC, evI, evF, vw_nil, vw_gen, vw1_no, vw1_val, vw1_own, look, frz_nil, frz_gen, frz1_no, frz1_val, frz1_own, setE, own?, E.vars, Es.vars, Eo.vars, It.vars, It.isRng, setV, wipeV, wipeAt, putS, Tg.vars, Tg.varsL, must_T, lcStep, must_le, cmp_eq_int, cmp_ne_int, cmp_lt_int, cmp_gt_int, cmp_le_int, cmp_ge_int, bop_add_int, bop_sub_int, q_len1, q_len2, q_abs, q_max, q_min, q_int, q_bool, q_tuple1, q_tuple2, q_list1, q_list2, q_all, q_any, q_sum, q_isi, q_isb, q_iss, q_ist, q_isl, q_isn, q_ti, q_tb, q_ts, q_tt, q_tl, q_td, t_non, t_bl, t_int, t_tup, t_lst, f_non, f_bl, f_int, f_str, f_tup, f_lst, f_hnd, f_clo, f_obj, i_tup, i_lst, x_tup, x_lst, s_tup, s_lst, n_int, c_non, c_bl, c_int, c_str, v_clo, is_non, is_bl, nn_non, nn_int, nn_bl, nn_tup, nn_lst, nn_str, cmp_is, cmp_isn, b_nm, b_tp, b_hs, b_nil, b_cons, bt_nm, bt_tp, bt_nil, bt_cons, h_val0, h_succ, x_hnd0, x_hnd1, x_hnd2, nosL_nil, nosL_cons, nos_tup, nos_lst, nos_int, nos_str, nos_bl, nos_non, nos_hnd, nosL_nums, nosL_nms, nocL_nil, nocL_cons, noc_tup, noc_lst, noc_int, noc_str, noc_bl, noc_non, nocL_nums, nocL_nms, nol_non, nol_bl, nol_int, nol_str, nol_tup, nol_lst, nol_hnd, nol_obj, nol_dic, nol_o, nolL_nil, nolL_cons, nolL_nums, nolL_nms, nolL_rws, nolL_prows, nol_t, frz1_out, prow_0, prow_1, t_0, t_1, t_2, isc_o, fld_o, seq_tup, seq_lst, nosL_rws, nosL_prows, nocL_rws, nocL_prows, nos_slf, endW, nosEn, isSlfAt] $loc:location)
theorem e_is_whole (n : Nat) (i : Int) : (O (n+1)).call "is_whole" [.int i] = ret (.bl true) := by
  rw [g_is_whole]
  simp_arith [f_is_whole, b_is_whole]
theorem e_is_between (n : Nat) (v a b : Int) : (O (n+2)).call "is_between" [.int v, .int a, .int b] = ret (.bl (decide (a ≤ v) && decide (v ≤ b))) := by
  rw [g_is_between]
  simp_arith [f_is_between, b_is_between, e_is_whole]
  by_cases h : a ≤ v <;> simp_arith [h]
theorem e_is_up_to (n : Nat) (v b : Int) : (O (n+3)).call "is_up_to" [.int v, .int b] = ret (.bl (decide (0 ≤ v) && decide (v ≤ b))) := by
  rw [g_is_up_to]
  simp_arith [f_is_up_to, b_is_up_to, e_is_between]
theorem e_is_tuple_of (n : Nat) (xs : List D) (m : Int) : (O (n+1)).call "is_tuple_of" [.tup xs, .int m] = ret (.bl ((xs.length : Int) == m)) := by
  rw [g_is_tuple_of]
  simp_arith [f_is_tuple_of, b_is_tuple_of]
theorem e_is_pair (n : Nat) (x y : D) : (O (n+2)).call "is_pair" [.tup [x, y]] = ret (.bl true) := by
  rw [g_is_pair]
  simp_arith [f_is_pair, b_is_pair, e_is_tuple_of]
theorem e_is_one_of (n : Nat) (x : Str) (l : List Str) : (O (n+1)).call "is_one_of" [.str x, .tup (nms l)] = ret (.bl (decide (x ∈ l))) := by
  rw [g_is_one_of]
  simp_arith [f_is_one_of, b_is_one_of, cmp_inn, in_strs]
theorem e_is_word (n : Nat) {x : Str} (h : Nm x) : (O (n+1)).call "is_word" [.str x] = ret (.bl true) := by
  rw [g_is_word]
  have h0 : (x != "") = true := by
    cases e : (x != ("" : Str)) with
    | true => rfl
    | false =>
      have : x = "" := by simpa using e
      subst this
      exact absurd (by decide +kernel) h.ne
  have hl := h.len
  simp_arith [f_is_word, b_is_word, cmp_ne_str, h0, signs_str]
  rw [lcM_map (fun c => D.str ⟨#[c]⟩) (fun c => .bl (decide (c ∈ cs azs))) (by omega) (fun c hc => ?h)]
  case h =>
    simp_arith [gl_LETTERS, cmp_inn]
    rw [show (Str.ofString "abcdefghijklmnopqrstuvwxyz") = azs from rfl, in_azs]; rfl
  have h' : ((cs x).all fun c => decide (c ∈ cs azs)) = true := by simpa using h.az
  simp_arith [asBls_map', h']
theorem e_is_name (n : Nat) {x : Str} (h : Nm x) : (O (n+2)).call "is_name" [.str x] = ret (.bl true) := by
  rw [g_is_name]
  have hl := h.len
  have h1 : bltD .len [.str x] = ret (D.int (cs x).length) := by
    show M.must (x.length ≤ sizeLine) (ret (D.int x.length)) = _
    rw [cs_len, M.must_true (by show _ ≤ 2 ^ 24; omega)]
  have h2 : ((cs x).length : Int) ≤ 8 := by omega
  have h3 : cmpD .nin (.str x) (.tup (nms WORDSl)) = ret (.bl true) := by
    rw [cmp_nin, in_strs]; simp_arith [h.wd]
  simp_arith [f_is_name, b_is_name, e_is_word _ h, h1, gl_MOST_LETTERS, h2, gl_WORDS]
  exact h3
theorem e_are_below (n : Nat) (l : List Str) (x : Str) (h : ∀ y, l.getLast? = some y → cs y < cs x) : (O (n+1)).call "are_below" [.tup (nms l), .str x] = ret (.bl true) := by
  rw [g_are_below]
  cases hl : l.getLast? with
  | none =>
    have : l = [] := List.getLast?_eq_none_iff.mp hl
    subst this
    simp_arith [f_are_below, b_are_below, cmp_eq_of (a := .tup []) (b := .tup []) ⟨1, 1, rfl, rfl, by decide⟩]
    rfl
  | some y =>
    have hne : l ≠ [] := fun e => by subst e; cases hl
    have h1 : cmpD .eq (.tup (nms l)) (.tup []) = ret (.bl false) := by
      rw [cmp_eq_of ⟨1, 1, dep_tstrs l, rfl, by decide⟩]
      cases l with
      | nil => exact absurd rfl hne
      | cons _ _ => rfl
    have h2 : (nms l).getLast? = some (.str y) := by unfold nms; rw [List.getLast?_map, hl]; rfl
    simp_arith [f_are_below, b_are_below, h1, atI_last, h2, cmp_lt_str, h y hl]
theorem e_are_below_int (n : Nat) (l : List Int) (x : Int) (h : ∀ y, l.getLast? = some y → y < x) : (O (n+1)).call "are_below" [.tup (nums l), .int x] = ret (.bl true) := by
  rw [g_are_below]
  cases hl : l.getLast? with
  | none =>
    have : l = [] := List.getLast?_eq_none_iff.mp hl
    subst this
    simp_arith [f_are_below, b_are_below, cmp_eq_of (a := .tup []) (b := .tup []) ⟨1, 1, rfl, rfl, by decide⟩]
    rfl
  | some y =>
    have hne : l ≠ [] := fun e => by subst e; cases hl
    have h1 : cmpD .eq (.tup (nums l)) (.tup []) = ret (.bl false) := by
      rw [cmp_eq_of ⟨1, 1, dep_tints l, rfl, by decide⟩]
      cases l with
      | nil => exact absurd rfl hne
      | cons _ _ => rfl
    have h2 : (nums l).getLast? = some (.int y) := by unfold nums; rw [List.getLast?_map, hl]; rfl
    simp_arith [f_are_below, b_are_below, h1, atI_last, h2, h y hl]
theorem e_wrong_in (n : Nat) (xs : List D) (least : Int) (most : D) (m : Nat) (b : E) (env : List D) (hl : least ≤ xs.length) (hm : most = .non ∨ ∃ k : Int, most = .int k ∧ xs.length ≤ k)
    (h : ∀ (i : Nat) x, xs[i]? = some x → (O n).clo 2 m b env [.tup (xs.take i), x] = ret (.bl true)) : (O (n+1)).call "wrong_in" [.tup xs, .int least, most, .clo 2 m b env] = ret (.lst []) := by
  rw [g_wrong_in]
  have hl' : ¬ ((xs.length : Int) < least) := by omega
  simp_arith [f_wrong_in, b_wrong_in, hl', enumD_tup]
  rw [forL_st (st := fun s : Sl × Sl => [.val (.tup xs), .val (.int least), .val most, .val (.clo 2 m b env), s.1, s.2]) (f := fun _ d => match d with | .tup [i, x] => (.val i, .val x) | _ => (.no, .no)) (.no, .no) rfl ?h]
  case h =>
    intro d hd a
    obtain ⟨i, x, h1, h2, rfl⟩ := mem_enum hd
    refine ⟨_, rfl, ?_⟩
    have hc : cmpD .eq (.int i) most = ret (.bl false) := by
      rcases hm with rfl | ⟨k, rfl, hk⟩
      · exact cmp_eq_non i
      · rw [cmp_eq_int]
        have : (i : Int) ≠ k := by omega
        rw [beq_eq_false_iff_ne.mpr this]
    simp_arith [hc, cut_take xs i (by omega), h i x h1]
  simp_arith
theorem e_is_set_of_names (n : Nat) (hs xs : List Str) (ha : Asc xs) (hm : ∀ x ∈ xs, x ∈ hs) (hl : xs.length ≤ hs.length) : (O (n+4)).call "is_set_of_names" [.tup (nms xs), .tup (nms hs)] = ret (.bl true) := by
  rw [g_is_set_of_names]
  simp_arith [f_is_set_of_names, b_is_set_of_names, caps]
  rw [e_wrong_in _ _ 0 _ _ _ _ (by omega) (.inr ⟨_, rfl, by simpa using hl⟩)]
  · rw [M.noc_ret rfl, M.ret_bind, cmp_eq_of ⟨1, 1, rfl, rfl, by decide⟩]; rfl
  · intro i d hd
    obtain ⟨x, hx, rfl⟩ := get_strs hd
    rw [take_strs, clo_of]
    simp_arith [runLam, e_is_one_of, hm x (List.mem_of_getElem? hx), e_are_below _ _ x fun y hy => asc_last ha hx hy]
theorem e_wrong_in_holders (n : Nat) (hs : List Str) (h1 : 1 ≤ hs.length) (h2 : hs.length ≤ 8) (ha : Asc hs) (hn : ∀ x ∈ hs, Nm x) : (O (n+5)).call "wrong_in_holders" [.tup (nms hs)] = ret (.lst []) := by
  rw [g_wrong_in_holders]
  simp_arith [f_wrong_in_holders, b_wrong_in_holders, caps, gl_MOST_HOLDERS]
  rw [e_wrong_in _ _ 1 _ _ _ _ (by rw [nms_length]; omega) (.inr ⟨_, rfl, by rw [nms_length]; omega⟩)]
  · exact M.noc_ret rfl
  · intro i d hd
    obtain ⟨x, hx, rfl⟩ := get_strs hd
    rw [take_strs, clo_of]
    simp_arith [runLam, e_is_name _ (hn x (List.mem_of_getElem? hx)), e_are_below _ _ x fun y hy => asc_last ha hx hy]
theorem e_are_numbers (n : Nat) (xs : List Int) (m most : Int) (hm : (xs.length : Int) = m) (hl : xs.length ≤ 2 ^ 24) (h : ∀ x ∈ xs, 0 ≤ x ∧ x ≤ most) : (O (n+4)).call "are_numbers" [.tup (nums xs), .int m, .int most] = ret (.bl true) := by
  rw [g_are_numbers]
  simp_arith [f_are_numbers, b_are_numbers, e_is_tuple_of, hm]
  rw [lcM_nums (fun x => .bl (decide (0 ≤ x) && decide (x ≤ most))) hl (fun x hx => by simp_arith [e_is_up_to])]
  have h' : (xs.all fun x => decide (0 ≤ x) && decide (x ≤ most)) = true := by simpa using h
  simp_arith [asBls_map', h']
theorem e_is_prime (n : Nat) (p : Int) (h : p ∈ PR) : (O (n+1)).call "is_prime" [.int p] = ret (.bl true) := by
  rw [g_is_prime]
  have hin : cmpD .inn (.int p) (.tup (nums PR)) = ret (.bl true) := by
    rw [cmp_inn, in_nums]; simp_arith [h]
  simp_arith [f_is_prime, b_is_prime, gl_PRIMES]
  exact hin
theorem e_check_prime (n : Nat) (p : Int) (h : p ∈ PR) : (O (n+2)).call "check_prime" [.int p] = ret .non := by
  rw [g_check_prime]
  simp_arith [f_check_prime, b_check_prime, e_is_prime _ _ h]
theorem e_check_number (n : Nat) (v a b : Int) (h1 : a ≤ v) (h2 : v ≤ b) : (O (n+3)).call "check_number" [.int v, .int a, .int b] = ret .non := by
  rw [g_check_number]
  simp_arith [f_check_number, b_check_number, e_is_between, h1, h2]
theorem e_check_holders (n : Nat) (hs : List Str) (h1 : 1 ≤ hs.length) (h2 : hs.length ≤ 8) (ha : Asc hs) (hn : ∀ x ∈ hs, Nm x) : (O (n+6)).call "check_holders" [.tup (nms hs)] = ret .non := by
  rw [g_check_holders]
  simp_arith [f_check_holders, b_check_holders, e_wrong_in_holders _ hs h1 h2 ha hn, forL]
theorem e_check_set (n : Nat) (hs xs : List Str) (ha : Asc xs) (hm : ∀ x ∈ xs, x ∈ hs) (hl : xs.length ≤ hs.length) : (O (n+5)).call "check_set" [.tup (nms hs), .tup (nms xs)] = ret .non := by
  rw [g_check_set]
  simp_arith [f_check_set, b_check_set, e_is_set_of_names _ hs xs ha hm hl]
theorem e_modulo (n : Nat) (p a : Int) (hp : 0 < p) : (O (n+1)).call "modulo" [.int p, .int a] = ret (.int (a % p)) := by
  rw [g_modulo]
  simp_arith [f_modulo, b_modulo, bop_mod_int hp]
theorem e_inverse (n : Nat) (p a : Int) (hp : 2 ≤ p) (hp2 : p ≤ 97) (ha : a.natAbs < 2 ^ 64) : (O (n+2)).call "inverse" [.int p, .int a] = ret (.int (invp p a)) := by
  rw [g_inverse]
  simp_arith [f_inverse, b_inverse, rngD1 (j := p - 2) (by omega)]
  rw [forL_nums (fun f s => [.val (.int p), .val (.int a), .val (.int f), s]) (fun f _ => f * a % p) (fun _ => True) 1 .no rfl trivial ?h]
  case h =>
    intro x hx f s _
    refine ⟨trivial, _, rfl, ?_⟩
    simp_arith [bop_mul_int (.inr ha), e_modulo _ p _ (by omega)]
  simp_arith [invp]
theorem e_product (n : Nat) (p : Int) (u v : Row) (hp : 0 < p) (hl : u.length ≤ 2 ^ 24) (h : (∀ x ∈ u, x.natAbs < 2 ^ 64) ∨ (∀ x ∈ v, x.natAbs < 2 ^ 64)) : (O (n+2)).call "product" [.int p, .tup (nums u), .tup (nums v)] = ret (.int (dt u v % p)) := by
  rw [g_product]
  simp_arith [f_product, b_product, zip_nums]
  rw [lcM_map _ (fun q => .int (q.1 * q.2)) (by simp_arith; omega) (fun q hq => ?h)]
  case h =>
    obtain ⟨h1, h2⟩ := List.of_mem_zip (a := q.1) (b := q.2) hq
    rcases h with h | h
    · simp_arith [bop_mul_int (a := q.1) (b := q.2) (.inl (h _ h1))]
    · simp_arith [bop_mul_int (a := q.1) (b := q.2) (.inr (h _ h2))]
  rw [M.ret_bind, asInts_map]
  simp_arith [e_modulo _ p _ hp, dt]
theorem e_times_row (n : Nat) (p c : Int) (u : Row) (hp : 0 < p) (hl : u.length ≤ 2 ^ 24) (h : c.natAbs < 2 ^ 64) : (O (n+2)).call "times_row" [.int p, .int c, .tup (nums u)] = ret (.tup (nums (scal p c u))) := by
  rw [g_times_row]
  simp_arith [f_times_row, b_times_row]
  rw [lcM_nums (fun x => .int ((c * x) % p)) hl (fun x hx => by simp_arith [bop_mul_int (a := c) (b := x) (.inl h), e_modulo _ p _ hp])]
  simp_arith [scal, nums, Function.comp_def]
theorem e_plus_rows (n : Nat) (p : Int) (u v : Row) (hp : 0 < p) (hl : u.length ≤ 2 ^ 24) : (O (n+2)).call "plus_rows" [.int p, .tup (nums u), .tup (nums v)] = ret (.tup (nums (List.zipWith (fun a b => (a + b) % p) u v))) := by
  rw [g_plus_rows]
  simp_arith [f_plus_rows, b_plus_rows, zip_nums]
  rw [lcM_map _ (fun q => .int ((q.1 + q.2) % p)) (by simp_arith; omega) (fun q hq => by simp_arith [e_modulo _ p _ hp])]
  have e : List.zipWith (fun a b => (a + b) % p) u v = (u.zip v).map fun q => (q.1 + q.2) % p := by
    rw [← List.map_uncurry_zip_eq_zipWith]; rfl
  rw [e]
  simp_arith [nums, Function.comp_def]
theorem e_without (n : Nat) (p c : Int) (u v : Row) (hp : 0 < p) (hl : u.length ≤ 2 ^ 24) (hl2 : v.length ≤ 2 ^ 24) (h : c.natAbs < 2 ^ 64) : (O (n+3)).call "without" [.int p, .tup (nums u), .tup (nums v), .int c] = ret (.tup (nums (lessr p u c v))) := by
  rw [g_without]
  simp_arith [f_without, b_without, e_times_row _ p (-c) v hp hl2 (by omega), e_plus_rows _ p u _ hp hl, lessr_plus]
def br8 (s : BS) (k : Nat) : Sl := match s.left.findIdx? fun r => fn r k != 0 with
  | none => .val (.lst [])
  | some j => .val (.lst [.tup (nums (s.left.getD j []))])
def br9 (p : Int) (s : BS) (k : Nat) (b : Sl) : Sl := match s.left.findIdx? fun r => fn r k != 0 with
  | none => b
  | some j => .val (.tup (nums (scal p (invp p (fn (s.left.getD j []) k)) (s.left.getD j []))))
def brA (p : Int) (a : BS × Sl × Sl) (x : Int) : BS × Sl × Sl := (bstep p (invp p) a.1 x.toNat, br8 a.1 x.toNat, br9 p a.1 x.toNat a.2.2)
theorem brA_fold (p : Int) : ∀ (l : List Nat) (a : BS × Sl × Sl), ((ixs l).foldl (brA p) a).1 = l.foldl (bstep p (invp p)) a.1
  | [], a => rfl
  | k :: l, a => brA_fold p l (brA p a (k : Int))
theorem iota_ixs (w : Nat) : iota 0 w = ixs (List.range w) := by
  unfold iota ixs
  exact List.map_congr_left fun k _ => by omega
theorem e_brought (n : Nat) (p : Int) (rows : List Row) (w W : Nat) (hp : p ∈ PR) (hl : rows.length ≤ 2 ^ 20) (hW : W ≤ 2 ^ 20) (hw : w ≤ W) (hv : ∀ r ∈ rows, Vec p W r) :
    (O (n+4)).call "brought" [.int p, .lst (rws rows), .int w] = ret (.tup [.lst (rws ((brS p (invp p) rows w).found ++ (brS p (invp p) rows w).left)), .lst (nums (ixs (brS p (invp p) rows w).places))]) := by
  have hb := PR_b hp
  have hiv : ∀ a, 1 ≤ a ∧ a < p → (a * invp p a) % p = 1 := fun a ha => invp_mul hp ha
  rw [g_brought]
  simp_arith [f_brought, b_brought, rngD1 (j := w) (by omega)]
  rw [lcM_rws (fun r => .tup (nums r)) (by omega) (fun r hr => by simp_arith)]
  rw [show rows.map (fun r => D.tup (nums r)) = rws rows from rfl]
  simp_arith
  rw [forL_numsP (fun (a : BS × Sl × Sl) s => [.val (.int p), .val (.lst (rws rows)), .val (.int w), .own (rws a.1.left), .val (.lst (rws a.1.found)), .own (nums (ixs a.1.places)), .no, s, a.2.1, a.2.2]) (brA p)
    (fun pre a => pre.length ≤ w → BOk p W rows pre.length a.1 ∧ a.1.left.length + a.1.found.length = rows.length ∧ a.1.places.length = a.1.found.length) (iota 0 w) (⟨rows, [], []⟩, .no, .no) .no ?e ?h0 ?h]
  case e => rfl
  case h0 =>
    intro _
    exact ⟨⟨hv, fun r hr => SpL.mem hr, fun r hr => SpL.mem hr, rfl, fun _ h => (nomatch h), .nil, fun i _ hi _ => absurd hi (by simp_arith), fun _ _ i hi => absurd hi (by simp_arith)⟩, by simp_arith, rfl⟩
  case h =>
    intro pre x post a s e hP
    have hlen : pre.length < w := by
      have := congrArg List.length e
      simp_arith at this; omega
    obtain ⟨ok, hc, hpl⟩ := hP (by omega)
    have hx : x = (pre.length : Int) := by
      have h1 : (iota 0 w)[pre.length]? = some x := by rw [e]; simp_arith
      unfold iota at h1
      rw [List.getElem?_map, List.getElem?_range hlen] at h1
      have := Option.some.inj h1
      simp_arith at this; omega
    subst hx
    have ok' := bstep_ok (by omega) hiv (show pre.length < W by omega) ok
    have vl : ∀ r ∈ a.1.left, Vec p W r := fun r hr => ok.vec r (List.mem_append_right _ hr)
    have vf : ∀ r ∈ a.1.found, Vec p W r := fun r hr => ok.vec r (List.mem_append_left _ hr)
    obtain ⟨⟨left, found, places⟩, s8, s9⟩ := a
    simp only at hc hpl vl vf ok
    refine ⟨fun _ => ⟨by simpa [brA] using ok', ?_⟩, _, rfl, ?_⟩
    · show (bstep p (invp p) _ _).left.length + (bstep p (invp p) _ _).found.length = _ ∧ (bstep p (invp p) _ _).places.length = (bstep p (invp p) _ _).found.length
      rw [Int.toNat_natCast]
      unfold bstep
      cases q : left.findIdx? fun r => fn r pre.length != 0 with
      | none => exact ⟨hc, hpl⟩
      | some j =>
        obtain ⟨hj, _⟩ := List.findIdx?_eq_some_iff_getElem.mp q
        simp_arith [List.length_eraseIdx, hj]
        omega
    · simp_arith
      have idx : ∀ r ∈ left, L2.atI (nums r) (pre.length : Int) = some (.int (fn r pre.length)) := fun r hr => atI_fn (by rw [(vl r hr).l]; omega)
      have idf : ∀ r ∈ found, L2.atI (nums r) (pre.length : Int) = some (.int (fn r pre.length)) := fun r hr => atI_fn (by rw [(vf r hr).l]; omega)
      have small : ∀ r, Vec p W r → (fn r pre.length).natAbs < 2 ^ 64 := fun r hr => by have := hr.fn (show 0 < p by omega) pre.length; omega
      rw [show rws left = left.map (fun r => D.tup (nums r)) from rfl, lcM_filt (l := left) (fun r => .tup (nums r)) (fun r => fn r pre.length != 0) (fun r => .tup (nums r)) (by omega) (fun r hr => by simp_arith [idx r hr]; split <;> simp_all)]
      simp_arith
      rw [show (left.filter fun r => fn r pre.length != 0).map (fun r => D.tup (nums r)) = rws (left.filter fun r => fn r pre.length != 0) from rfl]
      have hcut : D.cut (rws (left.filter fun r => fn r pre.length != 0)) none (some 1) = rws (match left.findIdx? fun r => fn r pre.length != 0 with | some j => (left[j]?).toList | none => []) := by
        rw [cut_tk _ 1 (by decide), show (1 : Int).toNat = 1 from rfl]
        unfold rws
        rw [← List.map_take, filter_first]
        try (cases left.findIdx? fun r => fn r pre.length != 0 <;> rfl)
      rw [hcut]
      rw [show left.map (fun r => D.tup (nums r)) = rws left from rfl]
      cases q : left.findIdx? fun r => fn r pre.length != 0 with
      | none => simp_arith [forL, brA, bstep, br8, br9, q]
      | some j =>
        obtain ⟨hj, hq, _⟩ := List.findIdx?_eq_some_iff_getElem.mp q
        have hpl2 := place_first q
        have ej : left.getD j [] = left[j] := by simp_arith [List.getD, hj]
        rw [ej] at hpl2
        have hm : left[j] ∈ left := List.getElem_mem hj
        have vj := vl _ hm
        have hle : ∀ r, Vec p W r → r.length ≤ 2 ^ 24 := fun r h => by rw [h.l]; omega
        have hnum : ∀ c, (c * 0 + fn left[j] pre.length).natAbs < 2 ^ 64 := fun c => by simpa using small _ vj
        have hib := invp_b p (fn left[j] pre.length) hb.1
        simp_arith [forL, hj, M.must_true (eqOk_rw left[j] left), hpl2, idx _ hm, e_inverse _ p _ hb.1 hb.2 (small _ vj), e_times_row _ p (invp p (fn left[j] pre.length)) left[j] (by omega) (hle _ vj) (by omega)]
        have eer : (rws left).eraseIdx j = rws (left.eraseIdx j) := map_eraseIdx _ _ _
        have vlead := vj.scal (show 0 < p by omega) (invp p (fn left[j] pre.length))
        rw [eer, lcM_rws (fun r => .tup (nums (lessr p r (fn r pre.length) (scal p (invp p (fn left[j] pre.length)) left[j])))) (by rw [List.length_eraseIdx]; split <;> omega) (fun r hr => ?q1)]
        case q1 =>
          have hr' := List.mem_of_mem_eraseIdx hr
          simp_arith [idx r hr', e_without _ p (fn r pre.length) r _ (by omega) (hle _ (vl r hr')) (hle _ vlead) (small r (vl r hr'))]
        rw [show (left.eraseIdx j).map (fun r => D.tup (nums (lessr p r (fn r pre.length) (scal p (invp p (fn left[j] pre.length)) left[j])))) = rws ((left.eraseIdx j).map fun r => lessr p r (fn r pre.length) (scal p (invp p (fn left[j] pre.length)) left[j])) by simp_arith [rws, Function.comp_def]]
        simp_arith
        rw [lcM_rws (l := found) (fun r => .tup (nums (lessr p r (fn r pre.length) (scal p (invp p (fn left[j] pre.length)) left[j])))) (by omega) (fun r hr => ?q2)]
        case q2 =>
          simp_arith [idf r hr, e_without _ p (fn r pre.length) r _ (by omega) (hle _ (vf r hr)) (hle _ vlead) (small r (vf r hr))]
        have hplc : places.length + 1 ≤ 2 ^ 24 := by omega
        simp_arith [M.must_true (show places.length < sizeLine by show _ < 2 ^ 24; omega)]
        rw [bop_add_lst (by simp_arith; omega)]
        simp_arith [brA, bstep, br8, br9, q, rws, ixs, Function.comp_def, nums, hj]
  rw [iota_ixs, brA_fold, show (List.range w).foldl (bstep p (invp p)) (({ left := rows, found := [], places := [] }, Sl.no, Sl.no) : BS × Sl × Sl).1 = brS p (invp p) rows w from rfl]
  have hlen := brS_len p (invp p) rows w
  simp_arith
  rw [bop_add_lst (by simp_arith; omega), M.ret_bind, rws_app]
theorem e_lone_row (n : Nat) (w k : Nat) (hw : w ≤ 2 ^ 20) : (O (n+1)).call "lone_row" [.int w, .int k] = ret (.tup (nums ((List.range w).map fun i => if i = k then 1 else 0))) := by
  rw [g_lone_row]
  simp_arith [f_lone_row, b_lone_row, rngD1 (j := w) (by omega)]
  rw [lcM_nums (fun x => .int (if x = k then 1 else 0)) (by simp_arith; omega) (fun x hx => by simp_arith; split <;> simp_arith)]
  rw [iota_ixs]
  simp_arith [nums, ixs, Function.comp_def, Int.natCast_inj]
theorem e_some_answer (n : Nat) (p : Int) (rows : List Row) (rights : List Int) (R : D) (w : Nat) (hp : p ∈ PR) (hs : Sys p w rows rights) (hl : rows.length ≤ 2 ^ 10) (hw : w ≤ 1000)
    (hz : zipD [.lst (rws rows), R] = ret (List.zipWith (fun a b => D.tup [a, b]) (rws rows) (nums rights))) : (O (n+5)).call "some_answer" [.int p, .lst (rws rows), R, .int w] = ret (optL (some_answer p (invp p) rows rights w)) := by
  have hb := PR_b hp
  have hiv : ∀ a, 1 ≤ a ∧ a < p → (a * invp p a) % p = 1 := fun a ha => invp_mul hp ha
  have ok := brS_ok (W := w + 1) (w := w) (by omega) hiv (by omega) hs.told
  have hlen := brS_len p (invp p) (told rows rights) w
  have htl : (told rows rights).length = rows.length := by simp_arith [told, hs.l]
  rw [g_some_answer]
  simp_arith [f_some_answer, b_some_answer]
  rw [hz, show List.zipWith (fun a b => D.tup [a, b]) (rws rows) (nums rights) = (rows.zip rights).map fun q => D.tup [.tup (nums q.1), .int q.2] from zip_gen _ _ rows rights]
  rw [lcM_map _ (fun q => .tup (nums (q.1 ++ [q.2]))) (by simp_arith; omega) (fun q hq => ?h1)]
  case h1 =>
    have := (hs.v q.1 (List.of_mem_zip (a := q.1) (b := q.2) hq).1).l
    simp_arith [nums_app, M.must_true (show q.1.length + 1 ≤ sizeLine by show _ ≤ 2 ^ 24; omega)]
  rw [show (rows.zip rights).map (fun q => D.tup (nums (q.1 ++ [q.2]))) = rws (told rows rights) by
    unfold told rws
    rw [← List.map_uncurry_zip_eq_zipWith, List.map_map]; rfl]
  simp_arith [e_brought _ p (told rows rights) w (w + 1) hp (by omega) (by omega) (by omega) hs.told]
  unfold some_answer
  generalize brS p (invp p) (told rows rights) w = s at ok hlen
  have hP : (nums (ixs s.places)).length = s.found.length := by simp_arith [hlen.2]
  rw [hlen.2, cut_dp, rws_app, List.drop_append_of_le_length (by simp_arith), List.drop_of_length_le (by simp_arith), List.nil_append]
  have vl : ∀ r ∈ s.left, Vec p (w + 1) r := fun r hr => ok.vec r (List.mem_append_right _ hr)
  have vf : ∀ r ∈ s.found, Vec p (w + 1) r := fun r hr => ok.vec r (List.mem_append_left _ hr)
  rw [lcM_rws (l := s.left) (fun r => .bl (fn r w != 0)) (by omega) (fun r hr => by simp_arith [atI_fn (r := r) (j := w) (by rw [(vl r hr).l]; omega)])]
  simp_arith [asBls_map']
  by_cases hz : (s.left.any fun r => fn r w != 0) = true
  · have hz' := hz
    simp only [List.any_eq_true, bne_iff_ne, ne_eq] at hz'
    simp_arith [hz', hz, optL]
  · have hz' := hz
    simp only [List.any_eq_true, bne_iff_ne, ne_eq] at hz'
    simp_arith [hz', hz, optL]
    have hw' : (w : Int) ≤ 1000 := by omega
    rw [M.must_true hw', M.ret_bind, zipLL, show rws s.found ++ rws s.left = rws (s.found ++ s.left) from (rws_app _ _).symm, zip_rws, zip_left _ _ _ hlen.2, M.ret_bind]
    rw [forL_map (fun q : Row × Nat => D.tup [.tup (nums q.1), .int (q.2 : Int)]) (fun (a : Row × Sl × Sl) => [.val (.int p), .val (.lst (rws rows)), .val R, .val (.int w), .val (.lst (rws (told rows rights))), a.2.1, .no, .val (.lst (rws (s.found ++ s.left))), .val (.lst (nums (ixs s.places))), .own (nums a.1), a.2.2])
      (fun a q => (a.1.set q.2 (fn q.1 w), .val (.tup (nums q.1)), .val (.int (q.2 : Int)))) (fun a => a.1.length = w) (List.replicate w 0, .no, .no) ?e1 (by simp_arith) ?e2]
    case e1 => simp_arith [nums]
    case e2 =>
      intro q hq a ha
      obtain ⟨h1, h2⟩ := List.of_mem_zip (a := q.1) (b := q.2) hq
      have h3 := ok.lt _ h2
      refine ⟨by simp_arith [ha], _, rfl, ?_⟩
      have hset : (nums a.1).set q.2 (.int (fn q.1 w)) = nums (a.1.set q.2 (fn q.1 w)) := by unfold nums; rw [List.map_set]
      simp_arith [atI_fn (r := q.1) (j := w) (by rw [(vf _ h1).l]; omega), ixN_nat (m := a.1.length) (i := q.2) (by omega), hset]
    simp_arith
    unfold ansOf
    congr 4
    generalize List.replicate w (0 : Int) = a0
    generalize (Sl.no, Sl.no) = b0
    generalize s.found.zip s.places = l
    induction l generalizing a0 b0 with
    | nil => rfl
    | cons x l ih => exact ih _ _
theorem e_turned (n : Nat) (p : Int) (rows : List Row) (w : Nat) (hl : rows.length ≤ 2 ^ 20) (hw : w ≤ 2 ^ 20) (hv : ∀ r ∈ rows, Vec p w r) : (O (n+1)).call "turned" [.lst (rws rows), .int w] = ret (.lst (rws (cols rows w))) := by
  rw [g_turned]
  simp_arith [f_turned, b_turned, rngD1 (j := w) (by omega)]
  rw [lcM_nums (fun x => .tup (nums (rows.map fun r => fn r x.toNat))) (by simp_arith; omega) (fun x hx => ?h)]
  case h =>
    obtain ⟨h1, h2⟩ := mem_iota.mp hx
    obtain ⟨k, rfl⟩ := Int.eq_ofNat_of_zero_le h1
    have hk : k < w := by omega
    simp_arith
    rw [lcM_rws (l := rows) (fun r => .int (fn r k)) (by omega) (fun r hr => by simp_arith [atI_fn (r := r) (j := k) (by rw [(hv r hr).l]; omega)])]
    simp_arith [nums, Function.comp_def]
  rw [iota_ixs, rows_map]
  simp_arith
theorem e_weights_for (n : Nat) (p : Int) (rows : List Row) (goal : Row) (w : Nat) (hp : p ∈ PR) (hv : ∀ r ∈ rows, Vec p w r) (hg : Vec p w goal) (hl : rows.length ≤ 1000) (hw : w ≤ 2 ^ 10) :
    (O (n+6)).call "weights_for" [.int p, .lst (rws rows), .tup (nums goal)] = ret (optL (weights_for p (invp p) rows goal w)) := by
  have hb := PR_b hp
  rw [g_weights_for]
  simp_arith [f_weights_for, b_weights_for, hg.l, e_turned _ p rows w (by omega) (by omega) hv]
  rw [e_some_answer _ p (cols rows w) goal _ rows.length hp (sys_cols (by omega) hv hg) (by simp_arith [cols]; omega) hl (zipLT _ _)]
  rfl
theorem e_is_row_of (n : Nat) (p : Int) (r : Row) (w : Nat) (h : Vec p w r) (h1 : 1 ≤ w) (h2 : w ≤ 24) : (O (n+5)).call "is_row_of" [.int p, .tup (nums r)] = ret (.bl true) := by
  rw [g_is_row_of]
  have e1 : (1 : Int) ≤ w := by omega
  have e2 : (w : Int) ≤ 24 := by omega
  simp_arith [f_is_row_of, b_is_row_of, gl_MOST_WIDTH, h.l, e1, e2, e_are_numbers _ r w (p - 1) (by rw [h.l]) (by rw [h.l]; omega) (fun x hx => by have := h.b x hx; omega)]
theorem e_may_stand (n : Nat) (p : Int) (hs : List Str) (l : List HR) (q : HR) (w : Nat) (hq : q.1 ∈ hs) (hv : Vec p w q.2) (h1 : 1 ≤ w) (h2 : w ≤ 24) (hl : ∀ a, l.getLast? = some a → cs a.1 ≤ cs q.1 ∧ a.2.length = w) :
    (O (n+6)).call "may_stand" [.int p, .tup (nms hs), .tup (prows l), prow q] = ret (.bl true) := by
  rw [g_may_stand]
  have hp2 : (O (n + 5)).call "is_pair" [prow q] = ret (.bl true) := e_is_pair _ _ _
  simp_arith [f_may_stand, b_may_stand, hp2, e_is_one_of, hq, e_is_row_of _ p q.2 w hv h1 h2, prows_ne]
  cases e : l.getLast? with
  | none =>
    have : l = [] := List.getLast?_eq_none_iff.mp e
    subst this
    simp_arith
  | some a =>
    obtain ⟨h3, h4⟩ := hl a e
    have h0 : l.isEmpty = false := by cases l with
      | nil => cases e
      | cons _ _ => rfl
    have h5 : (prows l).getLast? = some (prow a) := by unfold prows; rw [List.getLast?_map, e]; rfl
    simp_arith [h0, atI_last, h5, cmp_le_str, h3, h4, hv.l]
theorem e_wrong_in_rows (n : Nat) (s : Sch) (w : Nat) (ok : s.Ok w) : (O (n+9)).call "wrong_in_rows" [.int s.p, .tup (nms s.hs), .tup (prows s.rs)] = ret (.lst []) := by
  rw [g_wrong_in_rows]
  simp_arith [f_wrong_in_rows, b_wrong_in_rows, caps, gl_MOST_ROWS]
  have r1 := ok.r1
  have r2 := ok.r2
  rw [e_wrong_in _ _ 1 _ _ _ _ (by rw [prows_length]; omega) (.inr ⟨_, rfl, by rw [prows_length]; omega⟩)]
  · exact M.noc_ret rfl
  · intro i d hd
    obtain ⟨q, hq, rfl⟩ := get_prows hd
    have hqm := List.mem_of_getElem? hq
    rw [take_prows, clo_of]
    have := e_may_stand n s.p s.hs (s.rs.take i) q w (ok.rh q hqm) (ok.rv q hqm) ok.w1 ok.w2 fun a ha => by
      rw [List.getLast?_eq_getElem?] at ha
      obtain ⟨h1, e1⟩ := List.getElem?_eq_some_iff.mp hq
      obtain ⟨h2, e2⟩ := List.getElem?_eq_some_iff.mp ha
      rw [List.getElem_take] at e2
      have h3 : (s.rs.take i).length = i := by rw [List.length_take]; omega
      have := List.pairwise_iff_getElem.mp ok.ra ((s.rs.take i).length - 1) i (by omega) h1 (by omega)
      rw [e2, e1] at this
      exact ⟨this, (ok.rv a (e2 ▸ List.getElem_mem _)).l⟩
    simp_arith [runLam, this]
theorem e_mkS (n : Nat) (s : Sch) (w : Nat) (ok : s.Ok w) : makeD (O (n+11)) "Scheme" [.int s.p, .tup (nms s.hs), .tup (prows s.rs)] = ret s.o := by
  show M.must _ ((O (n+9+2)).make "Scheme" _) = _
  rw [M.must_true (by simp_arith), gi_Scheme]
  have : runInit (O (n+9)) "Scheme" I_Scheme [.int s.p, .tup (nms s.hs), .tup (prows s.rs)] = ret s.o := by
    simp_arith [runInit, I_Scheme, bi_Scheme, ei_Scheme, e_check_prime _ _ ok.hp, e_check_holders _ _ ok.h1 ok.h2 ok.asc ok.nm, e_wrong_in_rows _ s w ok, forL, isSlf]
    rfl
  rw [this]
  exact M.noc_ret s.noc_o
theorem e_rows (n : Nat) (s : Sch) : propD (O (n+2)) "Scheme" "rows" s.o = ret (.tup (prows s.rs)) := by
  rw [prop_o, gp_Scheme_rows]
  simp_arith [fp_Scheme_rows, bp_Scheme_rows]
theorem e_prime (n : Nat) (s : Sch) : propD (O (n+2)) "Scheme" "prime" s.o = ret (.int s.p) := by
  rw [prop_o, gp_Scheme_prime]
  simp_arith [fp_Scheme_prime, bp_Scheme_prime]
theorem e_holders (n : Nat) (s : Sch) : propD (O (n+2)) "Scheme" "holders" s.o = ret (.tup (nms s.hs)) := by
  rw [prop_o, gp_Scheme_holders]
  simp_arith [fp_Scheme_holders, bp_Scheme_holders]
theorem e_width_of (n : Nat) (s : Sch) (w : Nat) (ok : s.Ok w) : (O (n+3)).call "width_of" [s.o] = ret (.int w) := by
  rw [g_width_of]
  obtain ⟨q, l, e, h0⟩ := head_prows ok.r1
  have := (ok.rv q (by rw [e]; exact List.mem_cons_self)).l
  simp_arith [f_width_of, b_width_of, e_rows, h0, this]
theorem e_key_row (n : Nat) (s : Sch) (w : Nat) (ok : s.Ok w) : (O (n+4)).call "key_row" [s.o] = ret (.tup (nums (keyr w))) := by
  rw [g_key_row]
  have hw := ok.w2
  have := e_lone_row (n + 2) w 0 (by omega)
  simp_arith [f_key_row, b_key_row, e_width_of _ s w ok]
  exact this
theorem e_all_rows (n : Nat) (s : Sch) (w : Nat) (ok : s.Ok w) : (O (n+3)).call "all_rows" [s.o] = ret (.lst (rws s.rows)) := by
  rw [g_all_rows]
  have h := ok.r2
  simp_arith [f_all_rows, b_all_rows, e_rows]
  rw [show prows s.rs = s.rs.map prow from rfl, lcM_map prow (fun q => .tup (nums q.2)) (by omega) (fun q hq => by simp_arith [prow])]
  simp_arith [rws, Sch.rows, Function.comp_def]
theorem e_spots_of (n : Nat) (s : Sch) (w : Nat) (ok : s.Ok w) (sm : List Str) : (O (n+3)).call "spots_of" [s.o, .tup (nms sm)] = ret (.lst (nums (ixs (s.spots sm)))) := by
  rw [g_spots_of]
  have h := ok.r2
  simp_arith [f_spots_of, b_spots_of, e_rows, enumD_tup]
  rw [show (prows s.rs).zipIdx.map (fun p => D.tup [.int p.2, p.1]) = s.rs.zipIdx.map (fun q => D.tup [.int (q.2 : Int), prow q.1]) by
    unfold prows
    rw [List.zipIdx_map, List.map_map]; rfl]
  rw [lcM_filt _ (fun q => decide (q.1.1 ∈ sm)) (fun q => .int (q.2 : Int)) (by simp_arith; omega) (fun q hq => ?g)]
  case g =>
    simp_arith [prow, cmp_inn, in_strs]
    split <;> rfl
  simp_arith [nums, ixs, Sch.spots, Function.comp_def]
theorem e_rows_of (n : Nat) (s : Sch) (w : Nat) (ok : s.Ok w) (sm : List Str) : (O (n+4)).call "rows_of" [s.o, .tup (nms sm)] = ret (.lst (rws (s.rof sm))) := by
  rw [g_rows_of]
  have h := ok.r2
  simp_arith [f_rows_of, b_rows_of, e_rows, e_spots_of _ s w ok sm]
  rw [show nums (ixs (s.spots sm)) = (s.rs.zipIdx.filter fun q => decide (q.1.1 ∈ sm)).map fun q => D.int (q.2 : Int) by simp_arith [nums, ixs, Sch.spots, Function.comp_def]]
  rw [lcM_map _ (fun q => .tup (nums q.1.2)) (by have := List.length_filter_le (fun q : HR × Nat => decide (q.1.1 ∈ sm)) s.rs.zipIdx; simp_arith at this; omega) (fun q hq => ?g)]
  case g =>
    have := zipIdx_mem (List.mem_filter.mp hq).1
    simp_arith [e_rows, atI_nat, prows, this]
  have e : (s.rs.zipIdx.filter fun q => decide (q.1.1 ∈ sm)).map (fun q => q.1) = s.rs.filter fun q => decide (q.1 ∈ sm) := by
    have : ∀ (l : List HR) (k : Nat), ((l.zipIdx k).filter fun q => decide (q.1.1 ∈ sm)).map (fun q => q.1) = l.filter fun q => decide (q.1 ∈ sm) := by
      intro l
      induction l with
      | nil => intro k; rfl
      | cons x l ih =>
        intro k
        rw [List.zipIdx_cons, List.filter_cons, List.filter_cons]
        by_cases h : x.1 ∈ sm
        · simp_arith [h, ih]
        · simp_arith [h, ih]
    exact this s.rs 0
  unfold Sch.rof rws
  rw [← e]
  simp_arith [Function.comp_def]
theorem e_spread_out (n : Nat) (s : Sch) (w : Nat) (ok : s.Ok w) (sp : List Nat) (ws : Row) (hn : sp.Nodup) (hl : sp.length ≤ 1000) (hlw : ws.length = sp.length) : (O (n+3)).call "spread_out" [s.o, .lst (nums (ixs sp)), .tup (nums ws)] = ret (.tup (nums (spread s.rs.length sp ws))) := by
  rw [g_spread_out]
  have h := ok.r2
  have hk : D.keysOk (nums (ixs sp)) := ⟨List.all_eq_true.mpr fun x hx => by obtain ⟨i, _, rfl⟩ := List.mem_map.mp hx; rfl, ixs_nodup hn, by rw [nums_length, ixs_length]; show _ ≤ 2 ^ 24; omega⟩
  have hd : dzipD [.lst (nums (ixs sp)), .tup (nums ws)] = ret (.dic (nums (ixs sp)) (nums ws)) := by
    show M.bind (ret _) _ = _
    rw [M.ret_bind]
    show M.bind (ret _) _ = _
    rw [M.ret_bind, M.must_true hk, List.take_of_length_le (by simp_arith; omega), List.take_of_length_le (by simp_arith; omega)]
  simp_arith [f_spread_out, b_spread_out, hd, e_rows, rngD1 (j := s.rs.length) (by omega)]
  rw [lcM_nums (fun x => .int (((sp.zip ws).lookup x.toNat).getD 0)) (by simp_arith; omega) (fun x hx => ?g)]
  case g =>
    obtain ⟨h1, h2⟩ := mem_iota.mp hx
    obtain ⟨k, rfl⟩ := Int.eq_ofNat_of_zero_le h1
    have : mthD .get (.dic (nums (ixs sp)) (nums ws)) [.int (k : Int), .int 0] = ret (.int (((sp.zip ws).lookup k).getD 0)) := by
      show M.must _ _ = _
      rw [M.must_true ⟨rfl, by simp_arith [hlw]⟩, look2_ixs]
    simp_arith [mtOk, this]
  rw [iota_ixs]
  simp_arith [spread, nums, ixs, Function.comp_def]
theorem e_weights_by (n : Nat) (s : Sch) (w : Nat) (ok : s.Ok w) (sm : List Str) : (O (n+7)).call "weights_by" [s.o, .tup (nms sm)] = ret (optL ((weights_for s.p (invp s.p) (s.rof sm) (keyr w) w).map (spread s.rs.length (s.spots sm)))) := by
  rw [g_weights_by]
  have hb := PR_b ok.hp
  have hr := ok.r2
  have hw := ok.w2
  have hl := s.rof_len sm
  simp_arith [f_weights_by, b_weights_by, e_prime, e_rows_of _ s w ok sm, e_key_row _ s w ok, e_weights_for _ s.p (s.rof sm) (keyr w) w ok.hp (ok.rof_v sm) (keyr_vec (by omega)) (by omega) (by omega)]
  cases e : weights_for s.p (invp s.p) (s.rof sm) (keyr w) w with
  | none => simp_arith [optL, lcM]
  | some a =>
    have ha := (wf_some (by omega) (fun a ha => invp_mul ok.hp ha) (ok.rof_v sm) (keyr_vec (by omega)) e).1.l
    simp_arith [optL, lcM, e_spots_of _ s w ok sm, e_spread_out _ s w ok (s.spots sm) a ((s.spots_asc sm).imp (fun h => Nat.ne_of_lt h)) (by rw [s.spots_len]; omega) (by rw [s.spots_len, ha])]
theorem e_is_dealing (n : Nat) (s : Sch) (w : Nat) (ok : s.Ok w) (dl : Row) (hd : Vec s.p w dl) : (O (n+5)).call "is_dealing" [s.o, .tup (nums dl)] = ret (.bl true) := by
  rw [g_is_dealing]
  have hw := ok.w2
  simp_arith [f_is_dealing, b_is_dealing, e_width_of _ s w ok, e_prime, e_are_numbers _ dl w (s.p - 1) (by rw [hd.l]) (by rw [hd.l]; omega) (fun x hx => by have := hd.b x hx; omega)]
theorem e_shares_by (n : Nat) (s : Sch) (w : Nat) (ok : s.Ok w) (dl : Row) (hd : Vec s.p w dl) : (O (n+4)).call "shares_by" [s.o, .tup (nums dl)] = ret (.tup (nums (s.shares dl))) := by
  rw [g_shares_by]
  have hb := PR_b ok.hp
  have hr := ok.r2
  have hw := ok.w2
  simp_arith [f_shares_by, b_shares_by, e_all_rows _ s w ok]
  rw [lcM_rws (l := s.rows) (fun r => .int (dt r dl % s.p)) (by simp_arith [Sch.rows]; omega) (fun r hr => ?g)]
  case g =>
    have hv := ok.rows_v r hr
    simp_arith [e_prime, e_product _ s.p r dl (by omega) (by rw [hv.l]; omega) (.inl (hv.small (by omega)))]
  simp_arith [Sch.shares, Sch.rows, nums, Function.comp_def]
theorem e_seen_of (n : Nat) (s : Sch) (w : Nat) (ok : s.Ok w) (dl : Row) (hd : Vec s.p w dl) (sm : List Str) : (O (n+5)).call "seen_of" [s.o, .tup (nums dl), .tup (nms sm)] = ret (.tup (ods (s.seen dl sm))) := by
  rw [g_seen_of]
  have hr := ok.r2
  simp_arith [f_seen_of, b_seen_of, e_shares_by _ s w ok dl hd, e_rows, zipTT]
  have e1 : List.zipWith (fun a b => D.tup [a, b]) (nums (s.shares dl)) (prows s.rs) = s.rs.map fun q => D.tup [.int (dt q.2 dl % s.p), prow q] := by
    unfold nums Sch.shares prows
    rw [List.map_map, List.zipWith_map, List.zipWith_self]; rfl
  rw [e1, lcM_map _ (fun q => od (if q.1 ∈ sm then Option.some (dt q.2 dl % s.p) else none)) (by omega) (fun q hq => ?g)]
  case g =>
    simp_arith [prow, cmp_inn, in_strs]
    by_cases h : q.1 ∈ sm <;> simp_arith [h, od]
  simp_arith [ods, Sch.seen, Function.comp_def]
theorem e_check_scheme (n : Nat) (s : Sch) : (O (n+1)).call "check_scheme" [s.o] = ret .non := by
  rw [g_check_scheme]
  simp_arith [f_check_scheme, b_check_scheme]
theorem e_check_some (n : Nat) (s : Sch) (sm : List Str) (ha : Asc sm) (hm : ∀ x ∈ sm, x ∈ s.hs) (hl : sm.length ≤ s.hs.length) : (O (n+6)).call "check_some" [s.o, .tup (nms sm)] = ret .non := by
  rw [g_check_some]
  simp_arith [f_check_some, b_check_some, e_check_scheme, e_holders, e_check_set _ s.hs sm ha hm hl]
theorem e_weights (n : Nat) (s : Sch) (w : Nat) (ok : s.Ok w) (sm : List Str) (ha : Asc sm) (hm : ∀ x ∈ sm, x ∈ s.hs) (hl : sm.length ≤ s.hs.length) : (O (n+8)).call "weights" [s.o, .tup (nms sm)] = ret (optN ((weights_for s.p (invp s.p) (s.rof sm) (keyr w) w).map (spread s.rs.length (s.spots sm)))) := by
  rw [g_weights]
  simp_arith [f_weights, b_weights, e_check_some _ s sm ha hm hl, e_weights_by _ s w ok sm]
  generalize weights_for s.p (invp s.p) (s.rof sm) (keyr w) w = o
  cases o with
  | none => simp_arith [optL, optN, cmp_ne_of (a := .lst []) (b := .lst []) ⟨1, 1, rfl, rfl, by decide⟩, D.eq, D.eqL]
  | some a =>
    have := optL_ne (some (spread s.rs.length (s.spots sm) a))
    simp_arith [optL] at this ⊢
    simp_arith [this, atI_0, optN]
theorem e_check_dealing (n : Nat) (s : Sch) (w : Nat) (ok : s.Ok w) (dl : Row) (hd : Vec s.p w dl) : (O (n+6)).call "check_dealing" [s.o, .tup (nums dl)] = ret .non := by
  rw [g_check_dealing]
  simp_arith [f_check_dealing, b_check_dealing, e_is_dealing _ s w ok dl hd]
theorem e_check_dealt (n : Nat) (s : Sch) (w : Nat) (ok : s.Ok w) (dl : Row) (hd : Vec s.p w dl) : (O (n+7)).call "check_dealt" [s.o, .tup (nums dl)] = ret .non := by
  rw [g_check_dealt]
  simp_arith [f_check_dealt, b_check_dealt, e_check_scheme, e_check_dealing _ s w ok dl hd]
theorem e_shares (n : Nat) (s : Sch) (w : Nat) (ok : s.Ok w) (dl : Row) (hd : Vec s.p w dl) : (O (n+8)).call "shares" [s.o, .tup (nums dl)] = ret (.tup (nums (s.shares dl))) := by
  rw [g_shares]
  simp_arith [f_shares, b_shares, e_check_dealt _ s w ok dl hd, e_shares_by _ s w ok dl hd]
theorem e_seen_by (n : Nat) (s : Sch) (w : Nat) (ok : s.Ok w) (dl : Row) (hd : Vec s.p w dl) (sm : List Str) (ha : Asc sm) (hm : ∀ x ∈ sm, x ∈ s.hs) (hl : sm.length ≤ s.hs.length) : (O (n+8)).call "seen_by" [s.o, .tup (nums dl), .tup (nms sm)] = ret (.tup (ods (s.seen dl sm))) := by
  rw [g_seen_by]
  simp_arith [f_seen_by, b_seen_by, e_check_dealt _ s w ok dl hd, e_check_some _ s sm ha hm hl, e_seen_of _ s w ok dl hd sm]
theorem e_added (n : Nat) (s : Sch) (w : Nat) (ok : s.Ok w) (u v : Row) (hu : Vec s.p w u) (hv : Vec s.p w v) : (O (n+8)).call "added" [s.o, .tup (nums u), .tup (nums v)] = ret (.tup (nums (List.zipWith (fun a b => (a + b) % s.p) u v))) := by
  rw [g_added]
  have hb := PR_b ok.hp
  have hw := ok.w2
  simp_arith [f_added, b_added, e_check_dealt _ s w ok u hu, e_check_dealing _ s w ok v hv, e_prime, e_plus_rows _ s.p u v (by omega) (by rw [hu.l]; omega)]
theorem e_times (n : Nat) (s : Sch) (w : Nat) (ok : s.Ok w) (u : Row) (c : Int) (hu : Vec s.p w u) (h1 : 0 ≤ c) (h2 : c ≤ s.p - 1) : (O (n+8)).call "times" [s.o, .tup (nums u), .int c] = ret (.tup (nums (scal s.p c u))) := by
  rw [g_times]
  have hb := PR_b ok.hp
  have hw := ok.w2
  simp_arith [f_times, b_times, e_check_dealt _ s w ok u hu, e_prime, e_check_number _ c 0 (s.p - 1) h1 h2, e_times_row _ s.p c u (by omega) (by rw [hu.l]; omega) (by omega)]
theorem e_hand (n : Nat) (ns : List Int) (lap : Nat) : (O (n+1)).call "_law_hand" [.lst (nums ns), .int lap] = ret .hnd := by
  rw [g__law_hand]
  have hp : bopD .pow (.int 10) (.int 16) = ret (.int (10 ^ 16)) := bop_pow_int (by decide)
  have hp2 : bopD .pow (.int 10) (.int 60) = ret (.int (10 ^ 60)) := bop_pow_int (by decide)
  have hm : ∀ a : Int, bopD .mod (.int a) (.int 1000000000000000000000000000000000000000000000000000000000000) = ret (.int (a % 1000000000000000000000000000000000000000000000000000000000000)) := fun a => bop_mod_int (by decide)
  by_cases hl : (lap : Int) < ns.length
  · have hl' : lap < ns.length := by omega
    have hx : L2.atI (nums ns) (lap : Int) = some (.int ns[lap]) := by rw [atI_nat]; simp_arith [nums, hl']
    simp_arith [f__law_hand, b__law_hand, hl', hx, bop_mul_l (a := 4871) lap (by decide), cut_nums _ 9 (by decide), bop_add_lst (xs := nums (ns.take 9)) (ys := [.int ns[lap]]) (by simp_arith; omega)]
    rw [show nums (ns.take 9) ++ [D.int ns[lap]] = nums (ns.take 9 ++ [ns[lap]]) from by rw [nums_app]; rfl]
    rw [forL_nums (fun a s => [.val (.lst (nums ns)), .val (.int lap), .val (.int ns[lap]), .val (.int a), s]) (fun a x => (a * 40529 + x % 2147482997 + 67) % 2147483137) (fun _ => True) _ .no ?e trivial ?h]
    case e => rfl
    case h =>
      intro x hx a s _
      refine ⟨trivial, _, rfl, ?_⟩
      simp_arith [fun a => bop_mul_r a (b := 40529) (by decide), fun a => bop_mod_int (a := a) (b := 2147482997) (by decide), fun a => bop_mod_int (a := a) (b := 2147483137) (by decide)]
    generalize List.foldl _ _ _ = a
    generalize lastSl _ _ = s
    by_cases h0 : ns[lap] < 0
    · simp_arith [h0, hp, hp2, hm, hnewD]
    · simp_arith [h0, hp, hp2, hm, hnewD]
      split <;> simp_arith [hnewD]
  · have hl' : ¬ lap < ns.length := by omega
    simp_arith [f__law_hand, b__law_hand, hl', bop_mul_l (a := 4871) lap (by decide), cut_nums _ 9 (by decide), bop_add_lst (xs := nums (ns.take 9)) (ys := [.int 0]) (by simp_arith; omega)]
    rw [show nums (ns.take 9) ++ [D.int 0] = nums (ns.take 9 ++ [0]) from by rw [nums_app]; rfl]
    rw [forL_nums (fun a s => [.val (.lst (nums ns)), .val (.int lap), .val (.int 0), .val (.int a), s]) (fun a x => (a * 40529 + x % 2147482997 + 67) % 2147483137) (fun _ => True) _ .no ?e trivial ?h]
    case e => rfl
    case h =>
      intro x hx a s _
      refine ⟨trivial, _, rfl, ?_⟩
      simp_arith [fun a => bop_mul_r a (b := 40529) (by decide), fun a => bop_mod_int (a := a) (b := 2147482997) (by decide), fun a => bop_mod_int (a := a) (b := 2147483137) (by decide)]
    simp_arith [hp, hnewD]
theorem e_turn (n : Nat) (m : Int) (hm : 0 < m ∧ m < 1000000) : ((O (n+1)).call "_law_turn" [.hnd, .int m]).w (fun d => ∃ i, d = .int i ∧ 0 ≤ i ∧ i < m) (fun _ => False) := by
  rw [g__law_turn]
  simp_arith [f__law_turn, b__law_turn]
  intro a
  by_cases h : 0 < a
  · simp_arith [h, q_divmod (show 0 < m ∧ m < 1073741824 by omega)]
    intro i
    exact ⟨Int.emod_nonneg _ (by omega), Int.emod_lt_of_pos _ hm.1⟩
  · simp_arith [h, fun a => bop_mul_l (a := 9973) a (by decide), fun a => bop_mod_int (a := a) (b := 3001) (by decide), fun a => bop_mod_int (a := a) (b := 2147483137) (by decide), fun a => bop_mod_int (a := a) (b := m) hm.1,
      fun a => bop_fdiv_int (a := a) (b := 379) (by decide), fun (a b : Int) => bop_mul_r a (b := b % 3001 + 24001) (by have := Int.emod_nonneg b (show (3001 : Int) ≠ 0 by decide); have := Int.emod_lt_of_pos b (show (0 : Int) < 3001 by decide); omega)]
    intros
    exact ⟨Int.emod_nonneg _ (by omega), Int.emod_lt_of_pos _ hm.1⟩
theorem e_of (n : Nat) (xs : List D) (h : xs ≠ []) (hl : xs.length < 1000000) : ((O (n+2)).call "_law_of" [.hnd, .lst xs]).w (fun d => d ∈ xs) (fun _ => False) := by
  rw [g__law_of]
  have hp := List.length_pos_iff.mpr h
  simp_arith [f__law_of, b__law_of]
  refine M.w_imp (e_turn n xs.length (by omega)) (fun d hd => ?_) fun _ hx => hx
  obtain ⟨i, rfl, h1, h2⟩ := hd
  obtain ⟨k, rfl⟩ := Int.eq_ofNat_of_zero_le h1
  have hk : k < xs.length := by omega
  simp_arith [atI_nat, hk]
theorem e_ofT (n : Nat) (xs : List D) (h : xs ≠ []) (hl : xs.length < 1000000) : ((O (n+2)).call "_law_of" [.hnd, .tup xs]).w (fun d => d ∈ xs) (fun _ => False) := by
  rw [g__law_of]
  have hp := List.length_pos_iff.mpr h
  simp_arith [f__law_of, b__law_of]
  refine M.w_imp (e_turn n xs.length (by omega)) (fun d hd => ?_) fun _ hx => hx
  obtain ⟨i, rfl, h1, h2⟩ := hd
  obtain ⟨k, rfl⟩ := Int.eq_ofNat_of_zero_le h1
  have hk : k < xs.length := by omega
  simp_arith [atI_nat, hk]
theorem e_ofS (n : Nat) (x : Str) (h : cs x ≠ []) (hl : (cs x).length < 1000000) : ((O (n+2)).call "_law_of" [.hnd, .str x]).w (fun d => ∃ c ∈ cs x, d = .str ⟨#[c]⟩) (fun _ => False) := by
  rw [g__law_of]
  have hp := List.length_pos_iff.mpr h
  have h1 : bltD .len [.str x] = ret (D.int (cs x).length) := by
    show M.must (x.length ≤ sizeLine) (ret (D.int x.length)) = _
    rw [cs_len, M.must_true (by show _ ≤ 2 ^ 24; omega)]
  simp_arith [f__law_of, b__law_of, h1]
  refine M.w_imp (e_turn n (cs x).length (by omega)) (fun d hd => ?_) fun _ hx => hx
  obtain ⟨i, rfl, h1, h2⟩ := hd
  obtain ⟨k, rfl⟩ := Int.eq_ofNat_of_zero_le h1
  have hk : k < (cs x).length := by omega
  have h3 : idxD (.str x) (.int (k : Int)) = ret (.str ⟨#[(cs x)[k]]⟩) := by
    show M.must (x.length ≤ sizeLine) (M.bind (M.ofO (L2.atI (cs x) k)) _) = _
    rw [cs_len, M.must_true (by show _ ≤ 2 ^ 24; omega), atI_nat, List.getElem?_eq_getElem hk]; rfl
  simp_arith [h3]
theorem e_same (n : Nat) : ∀ (k : Nat) (d : D), D.sm k d = true → (O (n+k+1)).call "_law_same" [d, d] = ret (.bl true) := by
  intro k
  induction k with
  | zero =>
    intro d hd
    rw [g__law_same]
    cases d with
    | non => simp_arith [f__law_same, b__law_same]
    | bl b => simp_arith [f__law_same, b__law_same, cmp_eq_of (eqOk_bl _ _), D.eq]
    | int i => simp_arith [f__law_same, b__law_same, cmp_eq_of (eqOk_bl _ _), D.eq]
    | str x => simp_arith [f__law_same, b__law_same, cmp_eq_str]
    | _ => cases hd
  | succ k ih =>
    intro d hd
    rw [g__law_same]
    have fin : ∀ xs : List D, D.asBls (xs.map fun _ => D.bl true) = some (xs.map fun _ => true) := fun xs => asBls_map' (fun _ => true) xs
    cases d with
    | non => simp_arith [f__law_same, b__law_same]
    | bl b => simp_arith [f__law_same, b__law_same, cmp_eq_of (eqOk_bl _ _), D.eq]
    | int i => simp_arith [f__law_same, b__law_same, cmp_eq_of (eqOk_bl _ _), D.eq]
    | str x => simp_arith [f__law_same, b__law_same, cmp_eq_str]
    | tup xs =>
      have hx : ∀ x ∈ xs, D.sm k x = true := fun x h => List.all_eq_true.mp (Bool.and_eq_true_iff.mp hd).2 x h
      have key : ∀ x ∈ xs, (O (n + (k + 1))).call "_law_same" [x, x] = ret (.bl true) := fun x h => ih x (hx x h)
      simp_arith [f__law_same, b__law_same, cmp_ne_of (eqOk_bl _ _), D.eq, zipTT]
      rw [lcM_map (fun x => D.tup [x, x]) (fun _ => .bl true) (by have := (Bool.and_eq_true_iff.mp hd).1; simpa using this) (fun x h => by simp_arith [key x h])]
      simp_arith [fin]
      rw [List.all_eq_true.mpr fun _ _ => rfl]
    | lst xs =>
      have hx : ∀ x ∈ xs, D.sm k x = true := fun x h => List.all_eq_true.mp (Bool.and_eq_true_iff.mp hd).2 x h
      have key : ∀ x ∈ xs, (O (n + (k + 1))).call "_law_same" [x, x] = ret (.bl true) := fun x h => ih x (hx x h)
      simp_arith [f__law_same, b__law_same, cmp_ne_of (eqOk_bl _ _), D.eq, zipLL]
      rw [lcM_map (fun x => D.tup [x, x]) (fun _ => .bl true) (by have := (Bool.and_eq_true_iff.mp hd).1; simpa using this) (fun x h => by simp_arith [key x h])]
      simp_arith [fin]
      rw [List.all_eq_true.mpr fun _ _ => rfl]
    | _ => cases hd
def frN (m : Int) (fs : List Str) (a b c : Sl) : En := [.val .hnd, .val (.int m), .val (.lst (nms WORDSl)), .own (nms fs), a, b, c, .no, .no]
theorem e_names (n : Nat) (m : Int) (h1 : 1 ≤ m) (h2 : m ≤ 8) : ((O (n+3)).call "_law_names" [.hnd, .int m]).w (fun d => ∃ l, d = .tup (nms l) ∧ (l.length : Int) = m ∧ Asc l ∧ ∀ x ∈ l, Nm x) (fun _ => False) := by
  rw [g__law_names]
  have hb : bopD .add (.lst (nms (WORDSl.take 22))) (.lst (nms (WORDSl.drop 22))) = ret (.lst (nms WORDSl)) := by
    rw [bop_add_lst (by decide), words_cat]
  simp_arith [f__law_names, b__law_names, split_1, split_2, mtok_split, hb, rngD1 (j := m) (by omega)]
  refine forL_all (fun pre ρ => ∃ fs a b c, ρ = frN m fs a b c ∧ fs.length = pre.length ∧ fs.Nodup ∧ ∀ x ∈ fs, Nm x) (nums (iota 0 m.toNat)) ⟨[], .no, .no, .no, rfl, rfl, List.nodup_nil, fun _ h => nomatch h⟩ ?hs ?hq
  case hs =>
    rintro pre d post ρ e ⟨fs, a, b, c, rfl, hl, nd, hn⟩
    have hlen : fs.length < 8 := by
      have := congrArg List.length e
      simp_arith at this; omega
    refine ⟨_, rfl, ?_⟩
    simp_arith [frN]
    refine M.w_imp (e_of _ [.int 0, .int 0, .int 1, .int 2, .int 7] (by simp_arith) (by simp_arith)) (fun k hk => ?_) fun _ hx => hx
    obtain ⟨k, rfl, hk1, hk2⟩ : ∃ i : Int, k = .int i ∧ 0 ≤ i ∧ i ≤ 7 := by
      simp_arith at hk
      rcases hk with rfl | rfl | rfl | rfl <;> exact ⟨_, rfl, by decide, by decide⟩
    simp_arith [rngD1 (j := 1 + k) (by omega)]
    refine forL_all (fun pre2 ρ => ∃ w c, ρ = frN m fs (.val d) (.val (.str w)) c ∧ (cs w).length = pre2.length ∧ ∀ x ∈ cs w, x ∈ cs azs) (nums (iota 0 (1 + k).toNat)) ⟨"", c, rfl, by decide +kernel, by decide +kernel⟩ ?hs2 ?hq2
    case hs2 =>
      rintro pre2 d2 post2 ρ2 e2 ⟨w, c2, rfl, hw, ha⟩
      have hlw : (cs w).length < 8 := by
        have := congrArg List.length e2
        simp_arith at this; omega
      refine ⟨_, rfl, ?_⟩
      simp_arith [frN]
      refine M.w_imp (e_ofS _ azs (by decide +kernel) (by decide +kernel)) (fun x hx => ?_) fun _ hx => hx
      obtain ⟨ch, hch, rfl⟩ := hx
      have hcs : cs (w ++ ⟨#[ch]⟩) = cs w ++ [ch] := cs_app w (sg ch)
      have hb2 : bopD .add (.str w) (.str ⟨#[ch]⟩) = ret (.str (w ++ ⟨#[ch]⟩)) := bop_add_str (by rw [show cs ⟨#[ch]⟩ = [ch] from rfl]; simp_arith; omega)
      simp_arith [hb2]
      refine ⟨by rw [hcs]; simp_arith [hw], fun x hx => ?_⟩
      rw [hcs] at hx
      rcases List.mem_append.mp hx with hx | hx
      · exact ha x hx
      · rw [List.mem_singleton.mp hx]; exact hch
    case hq2 =>
      rintro ρ2 ⟨w, c2, rfl, hw, ha⟩
      have hw8 : 1 ≤ (cs w).length ∧ (cs w).length ≤ 8 := by
        simp_arith at hw; omega
      have hwd : Wd w := ⟨List.length_pos_iff.mp (by omega), by omega, ha⟩
      simp_arith [frN]
      refine M.w_imp (e_of _ [.str "a", .str "b", .str "primes", .str w, .str w, .str w, .str w] (by simp_arith) (by simp_arith)) (fun x hx => ?_) fun _ hx => hx
      obtain ⟨w', rfl, hwd'⟩ : ∃ w', x = .str w' ∧ Wd w' := by
        simp_arith at hx
        rcases hx with rfl | rfl | rfl | rfl
        · exact ⟨_, rfl, by decide +kernel, by decide +kernel, by decide +kernel⟩
        · exact ⟨_, rfl, by decide +kernel, by decide +kernel, by decide +kernel⟩
        · exact ⟨_, rfl, by decide +kernel, by decide +kernel, by decide +kernel⟩
        · exact ⟨_, rfl, hwd⟩
      have hcut : slD (.str w') none (some 7) = ret (.str (L2.cutS w' none (some 7))) := sl_str w' 7 (by have := hwd'.le; omega)
      rw [show D.iter (.str (Str.ofString "abcdefghijklmnopqrstuvwxyz")) = ret ((cs azs).map fun c => D.str ⟨#[c]⟩) from rfl]
      rw [lcM_map (l := cs azs) (fun c => D.str ⟨#[c]⟩) (fun c => .str (L2.cutS w' none (some 7) ++ sg c)) (by decide +kernel) (fun c hc => ?h1)]
      case h1 =>
        have : bopD .add (.str (L2.cutS w' none (some 7))) (.str ⟨#[c]⟩) = ret (.str (L2.cutS w' none (some 7) ++ sg c)) := bop_add_str (by
          rw [show cs (L2.cutS w' none (some 7)) = (cs w').take 7 from cs_cut w' 7, show cs ⟨#[c]⟩ = [c] from rfl]
          have := hwd'.le
          simp_arith; omega)
        simp_arith [hcut, this]
      simp_arith
      rw [bop_add_lst (by simp_arith; decide +kernel), M.ret_bind, show [D.str w'] ++ (cs azs).map (fun c => D.str (L2.cutS w' none (some 7) ++ sg c)) = (cand w').map D.str by simp_arith [cand]]
      simp_arith
      have hbf : bopD .add (.lst (nms WORDSl)) (.lst (nms fs)) = ret (.lst (nms (WORDSl ++ fs))) := by
        rw [bop_add_lst (by simp_arith; have : WORDSl.length = 29 := by decide
                            omega), nms_app]
      rw [lcM_filt (l := cand w') D.str (fun x => decide (x ∉ WORDSl ++ fs)) D.str (by
        have : (cand w').length = 27 := by unfold cand; rw [List.length_cons, List.length_map]; decide +kernel
        omega) (fun x hx => ?h2)]
      case h2 =>
        simp_arith [hbf, cmp_nin, in_lstrs]
        split <;> simp_all
      obtain ⟨y, hy, hny⟩ := cand_free w' fs (by omega)
      cases hf : (cand w').filter fun x => decide (x ∉ WORDSl ++ fs) with
      | nil =>
        have := List.filter_eq_nil_iff.mp hf y hy
        simp_arith at this
        simp_arith at hny
        exact hny.2 (this hny.1)
      | cons z zs =>
        have hz : z ∈ (cand w').filter fun x => decide (x ∉ WORDSl ++ fs) := by rw [hf]; exact List.mem_cons_self
        obtain ⟨hz1, hz2⟩ := List.mem_filter.mp hz
        have hz2 := of_decide_eq_true hz2
        have hz3 : z ∉ WORDSl ∧ z ∉ fs := by simpa using hz2
        have hwz := cand_wd hwd' z hz1
        simp_arith [atI_0, M.must_true (show fs.length < sizeLine by show _ < 2 ^ 24; omega)]
        refine ⟨by show _ < 2 ^ 24; omega, fs ++ [z], by simp_arith [nms_app], by simp_arith [hl], List.nodup_append.mpr ⟨nd, by simp_arith, fun a ha b hb => ?_⟩, fun x hx => ?_⟩
        · rw [List.mem_singleton.mp hb]
          intro q
          exact hz3.2 (q ▸ ha)
        · rcases List.mem_append.mp hx with hx | hx
          · exact hn x hx
          · rw [List.mem_singleton.mp hx]; exact hwz.nm hz3.1
  case hq =>
    rintro ρ ⟨fs, a, b, c, rfl, hl, nd, hn⟩
    have hl' : (fs.length : Int) = m := by simp_arith at hl; omega
    obtain ⟨l', e, hp, hs⟩ := sort_nms fs
    simp_arith [frN, q_sorted (sortOk_nms (l := fs) (by omega)), e]
    refine ⟨l', rfl, by rw [hp.length_eq]; exact hl', asc_of hs (hp.nodup_iff.mpr nd), fun x hx => hn x (hp.mem_iff.mp hx)⟩
theorem e_drawn (n : Nat) (hs : List Str) (hl : hs.length ≤ 8) : ((O (n+3)).call "_law_drawn" [.hnd, .tup (nms hs)]).w (fun d => ∃ l, d = .tup (nms l) ∧ l.Sublist hs) (fun _ => False) := by
  rw [g__law_drawn]
  simp_arith [f__law_drawn, b__law_drawn]
  refine M.w_imp (e_of _ [.int 2, .int 2, .int 3] (by simp_arith) (by simp_arith)) (fun k hk => ?_) fun _ hx => hx
  obtain ⟨k, rfl, hk1, hk2⟩ : ∃ i : Int, k = .int i ∧ 2 ≤ i ∧ i ≤ 3 := by
    simp_arith at hk
    rcases hk with rfl | rfl <;> exact ⟨_, rfl, by decide, by decide⟩
  rw [show nms hs = hs.map D.str from rfl]
  refine lcM_w2 (P := fun x o => o = some (.str x) ∨ o = none) (by omega) (fun x hx => ?_) fun os ho => ?_
  · simp_arith
    refine M.w_imp (e_turn _ k (by omega)) (fun d hd => ?_) fun _ hx => hx
    obtain ⟨i, rfl, _, _⟩ := hd
    by_cases h : i = 0 <;> simp_arith [h]
  · have : ∀ (l : List Str) (os : List (Option D)), M.All2 (fun x o => o = some (.str x) ∨ o = none) l os → ∃ l', os.filterMap id = nms l' ∧ l'.Sublist l := by
      intro l
      induction l with
      | nil => intro os h; cases h; exact ⟨[], rfl, .slnil⟩
      | cons x l ih =>
        intro os h
        cases h with
        | cons h1 h2 =>
          obtain ⟨l', e, hs⟩ := ih _ h2
          rcases h1 with rfl | rfl
          · exact ⟨x :: l', by simp_arith [e], hs.cons_cons x⟩
          · exact ⟨l', by simp_arith [e], hs.cons x⟩
    obtain ⟨l', e, hs⟩ := this hs os ho
    exact ⟨l', by rw [e], hs⟩
theorem e_less (n : Nat) (p c : Int) (u v : Row) (hp : 0 < p) (hl : u.length ≤ 2 ^ 24) (h : c.natAbs < 2 ^ 64) : (O (n+1)).call "_law_less" [.int p, .tup (nums u), .int c, .tup (nums v)] = ret (.tup (nums (lessr p u c v))) := by
  rw [g__law_less]
  simp_arith [f__law_less, b__law_less, zip_nums]
  rw [lcM_map _ (fun q => .int ((q.1 - c * q.2) % p)) (by simp_arith; omega) (fun q hq => by simp_arith [bop_mul_int (a := c) (b := q.2) (.inl h), bop_mod_int (a := q.1 - c * q.2) hp])]
  have e : lessr p u c v = (u.zip v).map fun q => (q.1 - c * q.2) % p := by
    unfold lessr
    rw [← List.map_uncurry_zip_eq_zipWith]; rfl
  rw [e]
  simp_arith [nums, Function.comp_def]
theorem e_key (n : Nat) (w : Nat) (h1 : 1 ≤ w) (h2 : w ≤ 1000) : (O (n+1)).call "_law_key" [.int w] = ret (.tup (nums (keyr w))) := by
  rw [g__law_key]
  obtain ⟨k, rfl⟩ : ∃ k, w = k + 1 := ⟨w - 1, by omega⟩
  have e : ((k + 1 : Nat) : Int) - 1 = (k : Int) := by omega
  simp_arith [f__law_key, b__law_key]
  rw [bop_mul_tup (.int 0) k (by omega), M.ret_bind, bop_add_tup (by simp_arith; omega)]
  simp_arith [keyr, List.range_succ_eq_map, nums, Function.comp_def, List.map_const']
theorem e_width (n : Nat) (s : Sch) (w : Nat) (ok : s.Ok w) : (O (n+1)).call "_law_width" [s.t] = ret (.int w) := by
  rw [g__law_width]
  obtain ⟨q, l, e, h0⟩ := head_prows ok.r1
  have := (ok.rv q (by rw [e]; exact List.mem_cons_self)).l
  simp_arith [f__law_width, b__law_width, h0, this]
theorem e_made (n : Nat) (s : Sch) (w : Nat) (ok : s.Ok w) : (O (n+12)).call "_law_made" [s.t] = ret s.o := by
  rw [g__law_made]
  simp_arith [f__law_made, b__law_made, e_mkS _ s w ok]
theorem e_ltimes (n : Nat) (p : Int) (u v : Row) (hp : 0 < p) (hl : u.length ≤ 2 ^ 24) (h : (∀ x ∈ u, x.natAbs < 2 ^ 64) ∨ (∀ x ∈ v, x.natAbs < 2 ^ 64)) : (O (n+1)).call "_law_times" [.int p, .tup (nums u), .tup (nums v)] = ret (.int (dt u v % p)) := by
  rw [g__law_times]
  simp_arith [f__law_times, b__law_times, zip_nums]
  rw [lcM_map _ (fun q => .int (q.1 * q.2)) (by simp_arith; omega) (fun q hq => ?h)]
  case h =>
    obtain ⟨h1, h2⟩ := List.of_mem_zip (a := q.1) (b := q.2) hq
    rcases h with h | h
    · simp_arith [bop_mul_int (a := q.1) (b := q.2) (.inl (h _ h1))]
    · simp_arith [bop_mul_int (a := q.1) (b := q.2) (.inr (h _ h2))]
  rw [M.ret_bind, asInts_map]
  simp_arith [bop_mod_int (a := (List.map (fun q => q.1 * q.2) (u.zip v)).sum) hp, dt]
theorem e_dealing (n : Nat) (p : Int) (w : Nat) (hp : 2 ≤ p) (hp2 : p ≤ 97) (hw : w ≤ 1000) : ((O (n+2)).call "_law_dealing" [.hnd, .int p, .int w]).w (fun d => ∃ r, d = .tup (nums r) ∧ Vec p w r) (fun _ => False) := by
  rw [g__law_dealing]
  simp_arith [f__law_dealing, b__law_dealing, rngD1 (j := w) (by omega)]
  refine lcM_draw (P := fun i => 0 ≤ i ∧ i < p) (by simp_arith; omega) (fun x hx => ?_) fun ys hys hy => ?_
  · simp_arith
    exact M.w_imp (e_turn _ p (by omega)) (fun d ⟨i, h1, h2, h3⟩ => ⟨i, h1, h2, h3⟩) fun _ hx => hx
  · exact ⟨ys, rfl, by rw [hys]; simp_arith, hy⟩
theorem e_lshares (n : Nat) (s : Sch) (w : Nat) (ok : s.Ok w) (dl : Row) : (O (n+2)).call "_law_shares" [s.t, .tup (nums dl)] = ret (.tup (nums (s.shares dl))) := by
  rw [g__law_shares]
  have hb := PR_b ok.hp
  have hr := ok.r2
  have hw := ok.w2
  simp_arith [f__law_shares, b__law_shares]
  rw [show prows s.rs = s.rs.map prow from rfl, lcM_map prow (fun q => .int (dt q.2 dl % s.p)) (by omega) (fun q hq => ?g)]
  case g =>
    have hv := ok.rv q hq
    simp_arith [prow, e_ltimes _ s.p q.2 dl (by omega) (by rw [hv.l]; omega) (.inl (hv.small (by omega)))]
  simp_arith [Sch.shares, nums, Function.comp_def]
theorem e_lseen (n : Nat) (s : Sch) (w : Nat) (ok : s.Ok w) (dl : Row) (sm : List Str) : (O (n+2)).call "_law_seen" [s.t, .tup (nums dl), .tup (nms sm)] = ret (.tup (ods (s.seen dl sm))) := by
  rw [g__law_seen]
  have hb := PR_b ok.hp
  have hr := ok.r2
  have hw := ok.w2
  simp_arith [f__law_seen, b__law_seen]
  rw [show prows s.rs = s.rs.map prow from rfl, lcM_map prow (fun q => od (if q.1 ∈ sm then Option.some (dt q.2 dl % s.p) else none)) (by omega) (fun q hq => ?g)]
  case g =>
    have hv := ok.rv q hq
    simp_arith [prow, cmp_inn, in_strs]
    by_cases h : q.1 ∈ sm <;> simp_arith [h, od, e_ltimes _ s.p q.2 dl (by omega) (by rw [hv.l]; omega) (.inl (hv.small (by omega)))]
  simp_arith [ods, Sch.seen, Function.comp_def]
def frR (mo : Int) (ps : List Int) (p : Int) (hs : List Str) (w : Nat) (rs : List HR) (a b c d : Sl) : En := [.val .hnd, .val (.int mo), .val (.lst (nums ps)), .val (.int p), .val (.tup (nms hs)), .val (.int w), .own (prows rs), a, b, .no, c, d, .no]
theorem e_scheme (n : Nat) (mo : Int) (ps : List Int) (h0 : ps ≠ []) (hl : ps.length ≤ 1000) (hp : ∀ p ∈ ps, p ∈ PR) (h1 : 1 ≤ mo) (h2 : mo ≤ 8) : ((O (n+4)).call "_law_scheme" [.hnd, .int mo, .lst (nums ps)]).w (fun d => ∃ (s : Sch) (w : Nat), d = s.t ∧ s.Ok w ∧ s.p ∈ ps ∧ (s.hs.length : Int) ≤ mo ∧ w ≤ 4 ∧ s.rs.length ≤ 8) (fun _ => False) := by
  rw [g__law_scheme]
  simp_arith [f__law_scheme, b__law_scheme]
  refine M.w_imp (e_of _ (nums ps) (by simpa [nums] using h0) (by simp_arith; omega)) (fun d hd => ?_) fun _ hx => hx
  obtain ⟨p, hpm, rfl⟩ := List.mem_map.mp hd
  have hpr := hp p hpm
  have hb := PR_b hpr
  try simp_arith
  refine M.w_imp (e_turn _ mo (by omega)) (fun d hd => ?_) fun _ hx => hx
  obtain ⟨k, rfl, hk1, hk2⟩ := hd
  try simp_arith
  refine M.w_imp (e_names _ (1 + k) (by omega) (by omega)) (fun d hd => ?_) fun _ hx => hx
  obtain ⟨hs, rfl, hh1, hh2, hh3⟩ := hd
  try simp_arith
  refine M.w_imp (e_of _ [.int 1, .int 2, .int 0, .int 3] (by simp_arith) (by simp_arith)) (fun d hd => ?_) fun _ hx => hx
  obtain ⟨w, hdw, hw1, hw2⟩ : ∃ w : Nat, d = .int ((w : Int) - 1) ∧ 1 ≤ w ∧ w ≤ 4 := by
    simp_arith at hd
    rcases hd with rfl | rfl | rfl | rfl
    · exact ⟨2, rfl, by decide, by decide⟩
    · exact ⟨3, rfl, by decide, by decide⟩
    · exact ⟨1, rfl, by decide, by decide⟩
    · exact ⟨4, rfl, by decide, by decide⟩
  subst hdw
  try simp_arith
  rw [show (1 : Int) + ((w : Int) - 1) = w by omega]
  refine M.w_imp (e_of _ [.int 2, .int 3, .int 1, .int 4, .int 6] (by simp_arith) (by simp_arith)) (fun d hd => ?_) fun _ hx => hx
  obtain ⟨m, rfl, hm1, hm2⟩ : ∃ i : Int, d = .int i ∧ 1 ≤ i ∧ i ≤ 6 := by
    simp_arith at hd
    rcases hd with rfl | rfl | rfl | rfl | rfl <;> exact ⟨_, rfl, by decide, by decide⟩
  simp_arith [rngD1 (j := 1 + m) (by omega)]
  have hh0 : hs ≠ [] := fun e => by subst e; simp_arith at hh1; omega
  refine forL_all (fun pre ρ => ∃ rs a b, ρ = frR mo ps p hs w rs a b .no .no ∧ nosEn [a, b] = true ∧ rs.length = pre.length ∧ ∀ q ∈ rs, q.1 ∈ hs ∧ Vec p w q.2) (nums (iota 0 (1 + m).toNat)) ⟨[], .no, .no, rfl, rfl, rfl, fun _ h => nomatch h⟩ ?hs ?hq
  case hs =>
    rintro pre d post ρ e ⟨rs, a, b, rfl, hno, hl, hv⟩
    have hdn : d.nos = true := by
      have : d ∈ nums (iota 0 (1 + m).toNat) := by rw [e]; simp_arith
      obtain ⟨i, _, rfl⟩ := List.mem_map.mp this
      rfl
    have hlen : rs.length < 7 := by
      have := congrArg List.length e
      simp_arith at this; omega
    refine ⟨_, rfl, ?_⟩
    simp_arith [frR, rngD1 (j := w) (by omega)]
    refine lcM_draw (P := fun i => 0 ≤ i ∧ i < p) (by simp_arith; omega) (fun x hx => ?_) fun r hr hrv => ?_
    · simp_arith
      exact M.w_imp (e_turn _ p (by omega)) (fun d ⟨i, h1, h2, h3⟩ => ⟨i, h1, h2, h3⟩) fun _ hx => hx
    have vr : Vec p w r := ⟨by rw [hr]; simp_arith, hrv⟩
    try simp_arith
    refine M.w_imp (e_ofT _ (nms hs) (by simpa [nms] using hh0) (by simp_arith; omega)) (fun d hd => ?_) fun _ hx => hx
    obtain ⟨h, hhm, rfl⟩ := List.mem_map.mp hd
    simp_arith [bop_mul_tup (.int 0) w (by omega), prowsL_ne]
    have hz : Vec p w (List.replicate w 0) := ⟨by simp_arith, fun x hx => by rw [(List.mem_replicate.mp hx).2]; omega⟩
    have ez : (D.tup (List.replicate w (.int 0))) = .tup (nums (List.replicate w 0)) := by simp_arith [nums]
    have last : ∃ r', Vec p w r' ∧ (if rs = [] then (ret (D.tup (nums r)) : M D) else M.bind (M.ofO (L2.atI (prows rs) (-1))) fun a => idxD a (.int 1)) = ret (.tup (nums r')) := by
      by_cases hn : rs = []
      · exact ⟨r, vr, by rw [if_pos hn]⟩
      · have hne : (prows rs).getLast? = some (prow (rs.getLast hn)) := by unfold prows; rw [List.getLast?_map, List.getLast?_eq_some_getLast hn]; rfl
        exact ⟨(rs.getLast hn).2, (hv _ (List.getLast_mem hn)).2, by rw [if_neg hn, atI_last, hne]; simp_arith⟩
    obtain ⟨r', vr', er'⟩ := last
    rw [er', M.w_ret]
    refine M.w_imp (e_of _ [.tup (nums r), .tup (nums r), .tup (nums r), .tup (List.replicate w (.int 0)), .tup (nums r')] (by simp_arith) (by simp_arith)) (fun d2 hd2 => ?_) fun _ hx => hx
    obtain ⟨r2, rfl, vr2⟩ : ∃ r2, d2 = .tup (nums r2) ∧ Vec p w r2 := by
      rw [ez] at hd2
      simp only [List.mem_cons, List.not_mem_nil, or_false] at hd2
      rcases hd2 with rfl | rfl | rfl | rfl | rfl
      · exact ⟨_, rfl, vr⟩
      · exact ⟨_, rfl, vr⟩
      · exact ⟨_, rfl, vr⟩
      · exact ⟨_, rfl, hz⟩
      · exact ⟨_, rfl, vr'⟩
    simp_arith
    refine ⟨by show _ < 2 ^ 24; omega, rs ++ [(h, r2)], _, _, ⟨by simp_arith [prows, prow], rfl, rfl⟩, by simp_arith [nosEn, hdn], by simp_arith [hl], fun q1 q2 hq => ?_⟩
    rcases List.mem_append.mp hq with hq | hq
    · exact hv _ hq
    · have := List.mem_singleton.mp hq
      cases this
      exact ⟨hhm, vr2⟩
  case hq =>
    rintro ρ ⟨rs, a, b, rfl, hno, hl, hv⟩
    have hrl : 2 ≤ rs.length ∧ rs.length ≤ 7 := by simp_arith at hl; omega
    simp_arith [frR]
    refine M.w_imp (e_turn _ 4 (by omega)) (fun d hd => ?_) fun _ hx => hx
    obtain ⟨t4, rfl, _, _⟩ := hd
    -- what is told of some rows
    have hab : nosEn [a] = true ∧ nosEn [b] = true := by
      cases a <;> cases b <;> simp_arith [nosEn] at hno ⊢ <;> simp_arith [hno]
    obtain ⟨ha1, hb1⟩ := hab
    have hno2 : ∀ x : Row, nosEn [a, b, .no, .val (.tup (nums x)), .no, .no] = true := fun x => by
      cases a <;> cases b <;> simp_arith [nosEn] at ha1 hb1 ⊢ <;> simp_arith [ha1, hb1]
    have tail : ∀ (rs : List HR), 1 ≤ rs.length → rs.length ≤ 8 → (∀ q ∈ rs, q.1 ∈ hs ∧ Vec p w q.2) → ∃ s : Sch, s.p = p ∧ s.hs = hs ∧ s.Ok w ∧ s.rs.length ≤ 8 ∧ ∀ v7 v8 v10 v11 : Option D,
        lcM (Tg.tp [Tg.nm 11, Tg.nm 12]) [some D.hnd, some (D.int mo), some (D.lst (nums ps)), some (D.int p), some (D.tup (nms hs)), some (D.int w), some (D.lst (prows rs)), v7, v8, none, v10, v11, none]
          (M.bind (lcM (Tg.tp [Tg.nm 12, Tg.tp [Tg.nm 11, Tg.nm 8]]) [some D.hnd, some (D.int mo), some (D.lst (nums ps)), some (D.int p), some (D.tup (nms hs)), some (D.int w), some (D.lst (prows rs)), v7, v8, none, v10, v11, none]
              (enumD [D.lst (prows rs)]) (fun v => ret true) fun v => M.bind (look v 11) fun a => M.bind (look v 12) fun a_1 => ret (D.tup [a, a_1])) fun a => M.bind (bltD Bl.sorted [D.lst a]) D.iter)
          (fun v => ret true) (fun v => M.bind (look v 6) fun x => M.bind (look v 12) fun y => idxD x y) = ret (prows s.rs) := by
      intro rs h1 h2 hv
      obtain ⟨l', e1, e2, e3⟩ := sort_pk (rs.zipIdx.map fun q => (q.1.1, q.2))
      obtain ⟨rs', f1, f2, f3⟩ := sorted_rows e2 e3
      have hl' : l'.length = rs.length := by rw [e2.length_eq]; simp_arith
      refine ⟨⟨p, hs, rs'⟩, rfl, rfl, ⟨hpr, by show 1 ≤ hs.length; omega, by show hs.length ≤ 8; omega, hh2, hh3, by show 1 ≤ rs'.length; rw [f2.length_eq]; exact h1, by show rs'.length ≤ 40; rw [f2.length_eq]; omega, hw1, by omega, fun q hq => (hv q (f2.mem_iff.mp hq)).1, fun q hq => (hv q (f2.mem_iff.mp hq)).2, f3⟩, by show rs'.length ≤ 8; rw [f2.length_eq]; exact h2, fun v7 v8 v10 v11 => ?_⟩
      have en : enumD [.lst (prows rs)] = ret (rs.zipIdx.map fun q => D.tup [.int (q.2 : Int), prow q.1]) := by
        show ret ((prows rs).zipIdx.map _) = _
        unfold prows
        rw [List.zipIdx_map, List.map_map]; rfl
      rw [en, lcM_map (l := rs.zipIdx) (fun q => D.tup [.int (q.2 : Int), prow q.1]) (fun q => pk (q.1.1, q.2)) (by simp_arith; omega) (fun q hq => by simp_arith [prow, pk])]
      rw [M.ret_bind, show rs.zipIdx.map (fun q => pk (q.1.1, q.2)) = (rs.zipIdx.map fun q => (q.1.1, q.2)).map pk by rw [List.map_map]; rfl]
      rw [q_sorted (sortOk_pk (l := rs.zipIdx.map fun q => (q.1.1, q.2)) (by simp_arith; omega)), M.ret_bind, e1, i_lst]
      rw [lcM_gen (l := l') pk (fun q => (rs[q.2]?).map prow) (by omega) (fun q hq => ?g)]
      case g =>
        obtain ⟨x, hx, rfl⟩ := List.mem_map.mp (e2.mem_iff.mp hq)
        have := zipIdx_mem hx
        simp_arith [pk, atI_nat, prows, this]
      have : l'.filterMap (fun q => (rs[q.2]?).map prow) = prows rs' := by
        have h9 : ∀ l : List (Str × Nat), l.filterMap (fun q => (rs[q.2]?).map prow) = (l.map fun q => (rs[q.2]?).map prow).filterMap id := fun l => by rw [List.filterMap_map]; rfl
        rw [h9, f1, List.filterMap_map]
        exact List.filterMap_eq_map (f := prow) ▸ rfl
      rw [this]
    by_cases h4 : 0 < t4
    · simp_arith [h4, e_key _ w hw1 (by omega), M.must_true (hno2 _)]
      refine forL_all (fun pre ρ => ∃ x c d, ρ = [.val .hnd, .val (.int mo), .val (.lst (nums ps)), .val (.int p), .val (.tup (nms hs)), .val (.int w), .val .slf, a, d, .no, .val (.tup (nums x)), c, .no] ∧ Vec p w x ∧ nosEn [c, d] = true) (prows rs) ⟨keyr w, .no, b, rfl, keyr_vec hb.1, by cases b <;> simp_arith [nosEn] at hb1 ⊢ <;> simp_arith [hb1]⟩ ?hs3 ?hq3
      case hs3 =>
        rintro pre d post ρ e ⟨x, c, d', rfl, vx, hcd⟩
        have hdm : d ∈ prows rs := by rw [e]; simp_arith
        obtain ⟨q, hqm, rfl⟩ := List.mem_map.mp hdm
        refine ⟨_, rfl, ?_⟩
        simp_arith [prow]
        refine M.w_imp (e_turn _ p (by omega)) (fun d hd => ?_) fun _ hx => hx
        obtain ⟨i, rfl, hi1, hi2⟩ := hd
        try simp_arith
        refine M.w_imp (e_of _ [.int 1, .int 0, .int i] (by simp_arith) (by simp_arith)) (fun d hd => ?_) fun _ hx => hx
        obtain ⟨j, rfl, hj1, hj2⟩ : ∃ j : Int, d = .int j ∧ 0 ≤ j ∧ j < 100 := by
          simp_arith at hd
          rcases hd with rfl | rfl | rfl
          · exact ⟨_, rfl, by decide, by decide⟩
          · exact ⟨_, rfl, by decide, by decide⟩
          · exact ⟨_, rfl, by omega, by omega⟩
        have vq := (hv q hqm).2
        simp_arith [e_less _ p j x q.2 (by omega) (by rw [vx.l]; omega) (by omega)]
        exact ⟨_, _, _, ⟨rfl, rfl, rfl⟩, vx.lessr (by omega) vq.l j, by simp_arith [nosEn]⟩
      case hq3 =>
        rintro ρ ⟨x, c, d', rfl, vx, hcd⟩
        have hn3 : nosEn [a, d', .no, .val (.tup (nums x)), c, .no] = true := by
          cases a <;> cases c <;> cases d' <;> simp_arith [nosEn] at ha1 hcd ⊢ <;> simp_arith [ha1, hcd]
        simp_arith [hn3]
        refine M.w_imp (e_ofT _ (nms hs) (by simpa [nms] using hh0) (by simp_arith; omega)) (fun d hd => ?_) fun _ hx => hx
        obtain ⟨h, hhm, rfl⟩ := List.mem_map.mp hd
        obtain ⟨s, e1, e2, ok, f2, e⟩ := tail (rs ++ [(h, x)]) (by simp_arith) (by simp_arith; omega) fun q hq => by
          rcases List.mem_append.mp hq with hq | hq
          · exact hv q hq
          · rw [List.mem_singleton.mp hq]; exact ⟨hhm, vx⟩
        have ep : prows rs ++ [D.tup [D.str h, D.tup (nums x)]] = prows (rs ++ [(h, x)]) := by simp_arith [prows, prow]
        simp_arith [M.must_true (show rs.length < sizeLine by show _ < 2 ^ 24; omega), ep]
        rw [e, M.w_ret]
        exact ⟨by show _ < 2 ^ 24; omega, s, by rw [← e1, ← e2]; rfl, w, ok, by rw [e1]; exact hpm, by rw [e2]; omega, hw2, f2⟩
    · simp_arith [h4]
      obtain ⟨s, e1, e2, ok, f2, e⟩ := tail rs (by omega) (by omega) hv
      rw [e, M.w_ret]
      exact ⟨s, by rw [← e1, ← e2]; rfl, w, ok, by rw [e1]; exact hpm, by rw [e2]; omega, hw2, f2⟩
theorem e_right (n : Nat) : ((O (n+14)).call "_law_right" [.hnd]).w (fun d => d = .bl true) (fun _ => False) := by
  rw [g__law_right]
  simp_arith [f__law_right, b__law_right, rngD1 (j := 4) (by decide)]
  refine forL_all (fun pre ρ => ∃ s1 s2 s3 s4 s5 s6 s7 s8 s9 s10 s11 s12 s13 s14 s15 s16 s17 s18 s19 s20, ρ = [.val .hnd, s1, s2, s3, s4, s5, s6, s7, s8, s9, s10, s11, s12, s13, s14, s15, s16, s17, s18, s19, s20]) (nums (iota 0 4)) ⟨_, _, _, _, _, _, _, _, _, _, _, _, _, _, _, _, _, _, _, _, rfl⟩ ?hs ?hq
  case hq =>
    rintro ρ ⟨_, _, _, _, _, _, _, _, _, _, _, _, _, _, _, _, _, _, _, _, rfl⟩
    simp_arith
  case hs =>
    rintro pre d post ρ e ⟨s1, s2, s3, s4, s5, s6, s7, s8, s9, s10, s11, s12, s13, s14, s15, s16, s17, s18, s19, s20, rfl⟩
    refine ⟨_, rfl, ?_⟩
    simp_arith
    refine M.w_imp (e_scheme _ 6 [2, 3, 5, 7, 97] (by decide) (by decide) (by decide) (by decide) (by decide)) (fun d hd => ?_) fun _ hx => hx
    obtain ⟨s, w, rfl, ok, hp5, hh6, hw4, hr8⟩ := hd
    have hb := PR_b ok.hp
    have h1 := ok.h1
    have h2 := ok.h2
    have w1 := ok.w1
    have r1 := ok.r1
    have hm := e_made (n + 1) s w ok
    simp_arith [bind_t, hm, e_width _ s w ok]
    refine M.w_imp (e_drawn _ s.hs ok.h2) (fun d hd => ?_) fun _ hx => hx
    obtain ⟨sm, rfl, hsub⟩ := hd
    have hsa := ok.asc.sub hsub
    have hsm : ∀ x ∈ sm, x ∈ s.hs := fun x hx => hsub.subset hx
    have hsl := hsub.length_le
    try simp_arith
    refine M.w_imp (e_dealing _ s.p w hb.1 hb.2 (by omega)) (fun d hd => ?_) fun _ hx => hx
    obtain ⟨one, rfl, v1⟩ := hd
    try simp_arith
    refine M.w_imp (e_dealing _ s.p w hb.1 hb.2 (by omega)) (fun d hd => ?_) fun _ hx => hx
    obtain ⟨two, rfl, v2⟩ := hd
    try simp_arith
    refine M.w_imp (e_turn _ s.p (by omega)) (fun d hd => ?_) fun _ hx => hx
    obtain ⟨by_, rfl, b1, b2⟩ := hd
    have l1 := v1.l
    have l2 := v2.l
    have q1 : D.sm 1 (.tup (nums (s.shares one))) = true := D.sm_nums (by rw [(shares_vec ok one).l]; omega)
    have q2 : D.sm 1 (.tup (ods (s.seen one sm))) = true := D.sm_ods (by simp_arith [Sch.seen]; omega)
    have q3 : D.sm 1 (.tup (nums (plusr s.p one two))) = true := D.sm_nums (by rw [(plusr_vec (by omega) v1 v2).l]; omega)
    have q4 : D.sm 1 (.tup (nums (scal s.p by_ one))) = true := D.sm_nums (by rw [(v1.scal (by omega) by_).l]; omega)
    have v3 := plusr_vec (show 0 < s.p by omega) v1 v2
    have v4 := v1.scal (show 0 < s.p by omega) by_
    have ea := e_added (n + 5) s w ok one two v1 v2
    rw [show List.zipWith (fun a b => (a + b) % s.p) one two = plusr s.p one two from rfl] at ea
    have et := e_times (n + 5) s w ok one by_ v1 b1 (by omega)
    have sml : ∀ (r : Row), Vec s.p w r → ∀ x ∈ r, x.natAbs < 2 ^ 64 := fun r h => h.small (by omega)
    have c1 : ∀ (t : Tg) (v : Vw) (mc : Vw → M Bool) (me : Vw → M D) (a b : Row), a.length ≤ 2 ^ 20 → (∀ x y, lcStep t v mc me (.tup [.int x, .int y]) = ret (some (.int ((x + y) % s.p)))) → lcM t v (ret ((a.zip b).map fun q => D.tup [.int q.1, .int q.2])) mc me = ret (nums (plusr s.p a b)) := fun t v mc me a b h1 h2 => by
      rw [lcM_map _ (fun q => .int ((q.1 + q.2) % s.p)) (by simp_arith; omega) (fun q _ => h2 q.1 q.2), plusr_zip]; simp_arith [nums, Function.comp_def]
    have c2 : ∀ (t : Tg) (v : Vw) (mc : Vw → M Bool) (me : Vw → M D) (a : Row), a.length ≤ 2 ^ 20 → (∀ x, lcStep t v mc me (.int x) = ret (some (.int ((x * by_) % s.p)))) → lcM t v (ret (nums a)) mc me = ret (nums (scal s.p by_ a)) := fun t v mc me a h1 h2 => by
      rw [lcM_nums (fun x => .int ((x * by_) % s.p)) (by omega) (fun x _ => h2 x), scal_comm]; simp_arith [nums, Function.comp_def]
    simp_arith [e_lshares _ s w ok, e_lseen _ s w ok, permV, e_shares _ s w ok one v1, e_same _ 2 _ (sm_tt q1 q1), e_seen_by _ s w ok one v1 sm hsa hsm hsl, e_same _ 2 _ (sm_tt q2 q2), zip_nums]
    have modp : ∀ a : Int, bopD .mod (.int a) (.int s.p) = ret (.int (a % s.p)) := fun a => bop_mod_int (by omega)
    have mulb : ∀ a : Int, bopD .mul (.int a) (.int by_) = ret (.int (a * by_)) := fun a => bop_mul_r a (by omega)
    rw [c1 _ _ _ _ one two (by omega) (fun x y => by simp_arith [modp]), M.w_ret]
    simp_arith
    rw [c2 _ _ _ _ one (by omega) (fun x => by simp_arith [modp, mulb]), M.w_ret]
    simp_arith [ea, et, permV, e_same _ 2 _ (sm_tt q3 q3), e_same _ 2 _ (sm_tt q4 q4), zip_nums, e_lshares _ s w ok]
    rw [c1 _ _ _ _ (s.shares one) (s.shares two) (by rw [(shares_vec ok one).l]; omega) (fun x y => by simp_arith [modp]), M.w_ret]
    simp_arith [e_shares _ s w ok (plusr s.p one two) v3, e_shares _ s w ok (scal s.p by_ one) v4, shares_plus ok v1 v2, shares_scal ok by_ v1]
    rw [c2 _ _ _ _ (s.shares one) (by rw [(shares_vec ok one).l]; omega) (fun x => by simp_arith [modp, mulb]), M.w_ret]
    have q5 : D.sm 1 (.tup (nums (plusr s.p (s.shares one) (s.shares two)))) = true := D.sm_nums (by rw [(plusr_vec (by omega) (shares_vec ok one) (shares_vec ok two)).l]; omega)
    have q6 : D.sm 1 (.tup (nums (scal s.p by_ (s.shares one)))) = true := D.sm_nums (by rw [((shares_vec ok one).scal (by omega) by_).l]; omega)
    simp_arith [e_same _ 2 _ (sm_tt q5 q6), e_weights _ s w ok s.hs ok.asc (fun x hx => hx) (Nat.le_refl _)]
    cases ew : weights_for s.p (invp s.p) (s.rof s.hs) (keyr w) w with
    | none => simp_arith [optN]
    | some ws =>
      have o1 := opens_number ok s.hs ew v1
      have o2 := opens_number ok s.hs ew v3
      rw [shares_plus ok v1 v2] at o2
      have hwl : (spread s.rs.length (s.spots s.hs) ws).length = s.rs.length := by simp_arith [spread]
      have lt1 := e_ltimes (n + 12) s.p (spread s.rs.length (s.spots s.hs) ws) (s.shares one) (by omega) (by omega) (.inr ((shares_vec ok one).small (by omega)))
      have lt2 := e_ltimes (n + 12) s.p (spread s.rs.length (s.spots s.hs) ws) (plusr s.p (s.shares one) (s.shares two)) (by omega) (by omega) (.inr ((plusr_vec (by omega) (shares_vec ok one) (shares_vec ok two)).small (by omega)))
      rw [o1] at lt1
      rw [o2] at lt2
      simp_arith [optN, lt1, lt2, head_fn (r := one) (by omega), head_fn (r := plusr s.p one two) (by rw [v3.l]; omega), e_same _ 1 _ (sm_tt (D.sm_int 0 (fn one 0)) (D.sm_int 0 (fn (plusr s.p one two) 0)))]
theorem law_meansN (n : Nat) (ns : List Int) (h1 : ns.length ≤ 63) : ((O (n + 15)).call "law" [.lst (nums ns)]).w (fun d => d = .bl true) (fun _ => False) := by
  rw [g_law]
  simp_arith [f_law, b_law]
  have hm : 1 ≤ max 1 (min (ns.length : Int) 3) ∧ max 1 (min (ns.length : Int) 3) ≤ 3 := by omega
  generalize max 1 (min (ns.length : Int) 3) = m at hm
  simp_arith [rngD1 (j := m) (by omega)]
  refine lcM_w (P := fun _ o => o = some (.bl true)) (by simp_arith; show m ≤ ((2 ^ 24 : Nat) : Int); omega) (fun d hd => ?_) fun os ho => ?_
  · obtain ⟨k, hk, rfl⟩ := List.mem_map.mp hd
    have hk := mem_iota.mp hk
    obtain ⟨j, rfl⟩ := Int.eq_ofNat_of_zero_le hk.1
    simp_arith [e_hand]
    exact M.w_imp (e_right n) (fun d h => by rw [h]) fun _ hx => hx
  · obtain ⟨cs, rfl, e, _⟩ := M.All2.map (g := fun (_ : Unit) => some (D.bl true)) (Q := fun _ => True) (fun _ _ h => ⟨(), h, trivial⟩) ho
    have : (cs.map fun _ => some (D.bl true)).filterMap id = cs.map fun _ => D.bl true := by
      rw [List.filterMap_map]
      exact List.filterMap_eq_map (f := fun _ : Unit => D.bl true) ▸ rfl
    rw [this]
    simp_arith [asBls_map' (fun _ : Unit => true)]
theorem law_means (ns : List Int) (h1 : ns.length ≤ 63) (_ : ∀ z ∈ ns, Builtin.Int.intBits z ≤ 1048576) : ((LC.prg.ora 60).call "law" [.lst (ns.map D.int)]).w (fun d => d = .bl true) (fun _ => False) :=
  law_meansN 45 ns h1
end Lawk12
open PySem PySem.W PySem.Calls PyProof.Rows
set_option maxRecDepth 100000 in
set_option maxHeartbeats 0 in
theorem PySem.Challenge.cw_dealtkeys_k12_whole_shares_of_dealings_holds : PySem.Challenge.rw_dealtkeys_k12_whole_shares_of_dealings.Holds := by
  w_on; o_law
  refine HandSHeadRun.head_any (r := OpenLaw.row PySem.Challenge.rw_dealtkeys_k12_whole_shares_of_dealings) (q := view (OpenLaw.row PySem.Challenge.rw_dealtkeys_k12_whole_shares_of_dealings).prog [91]) (H := Lawk12.hk) (ob := Lawk12.ob) (M := 40000) (loose := Lawk12.loose) (d := HandSHeadRun.topDef (OpenLaw.row PySem.Challenge.rw_dealtkeys_k12_whole_shares_of_dealings).prog 91) (kwd := []) Lawk12.ob_eq
    (by kernel_rfl) (fun s => by kernel_rfl) Lawk12.run (by kernel_rfl) (by kernel_rfl) (by kernel_rfl) (by rfl) (by first | assumption | decide +kernel) (by decide +kernel) ⟨rfl, rfl, rfl, rfl, rfl, by decide +kernel⟩ ?hw ?hc
  case hw => w_witness2
  case hc =>
    refine LamX.walk_ofTsE (l := PySem.Challenge.rw_dealtkeys_k12_whole_shares_of_dealings) (n := 63) (k := 60) (x := "script") (CX := fun w => L2.CX (PySem.Challenge.rw_dealtkeys_k12_whole_shares_of_dealings).prog w) rfl (by decide) (by kernel_rfl) ⟨rfl, by decide, by decide⟩ ?F (fun w H s e s' z => ?z)
    case z => exact Ev.cx_none z
    case F =>
      intro w mg fa h Y G hmg0
      obtain ⟨K, KX, c⟩ := Y
      have hmg : mg ("law" : PySem.Str) = some (.ref fa) := by
        have e : (HandSHeadRun.topDef (OpenLaw.row PySem.Challenge.rw_dealtkeys_k12_whole_shares_of_dealings).prog 91).name = ("law" : PySem.Str) := by kernel_rfl
        rw [← e]
        exact hmg0
      exact ⟨K, KX, Ev.law_at c KX G hmg Lawk12.cD Lawk12.cI Lawk12.cG Lawk12.cK Lawk12.cL fun ns h1 h2 => Lawk12.law_means ns h1 h2⟩
