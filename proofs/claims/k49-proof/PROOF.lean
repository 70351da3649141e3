import PyProof.Rows.All
import Wide.All
import OpenK.AllK
import Wide.FinOn
import HandS.Zip
import HandS.Exc
import PyProof.Draws
import HandS.TupMul
import HandS.Style
import HandS.TupAny
import HandS.List
import PyProof.WalkInts
import HandS.Call
import PyProof.ReprRoads
import HandS.ForMost
import HandS.ExcOwn
import HandS.WordsExc
import HandS.Defaults
import HandS.ExcIs
import HandS.ExcValue
import HandS.IsInst
import HandS.MakeKwOnly
import HandS.SetFor
import HandS.HeadWalk
import KE.KDictZip
import HandS.Wide
import HandS.CallLocal
import HandS.More
import HandS.Ends
import HandS.HeadEnd
import HandS.HeadHook1
import HandS.HeadHook2
import HandS.HeadHook3
import HandS.HeadHook4
import PyProof.ReprLen
import KE.KStateDown
import Lean
import HandS.Head0
import HandS.Head1
import HandS.Head2
import PySem.Challenge.RW_laidroads_k49_one_place_more
set_option Elab.async false
set_option linter.all false
set_option maxRecDepth 100000
set_option maxHeartbeats 1600000
/-! X1: zip(a, b, strict=True) of two tuples of one length. -/
namespace ZS
open PySem
open PySem.Sem (wp)
section
variable {prog : Program} {w : World} {A : Around} {E : Value → Shared → Prop} {s : Shared}
theorem tyKw {T newId : String} {Bn : Builtin} {args : List Value} {kw : List (Str × Value)} {S : Spec} {Q : Value → Shared → Prop} (ft : TypeCalled T newId "object.__init__")
    (hne : (some newId != some "object.__new__") = true) (hct : checkTypeCall T ⟨args, kw⟩ = pure ()) (hcn : checkBuiltinCall newId ⟨.type T :: args, kw⟩ = pure ())
    (entryN : entryFor table newId = some Bn) (g : Meets (Bn ⟨.type T :: args, kw⟩) S)
    (hok : ∀ obj, argsOk "object.__init__" ⟨obj :: args, kw⟩) (gi : ∀ obj, Meets (Builtin.«object.__init__» ⟨obj :: args, kw⟩) (fun _ R s => s.TypeIs obj T ∧ R (.ok (.ret .none)) s))
    (h : S A.in1 (wants (fun obj s₁ => s₁.TypeIs obj T ∧ Q obj s₁) E) s) : wpAny (model prog w) A (call (.type T) args kw) Q E s := by
  obtain ⟨c, tl, hmro⟩ := ft.mro
  have hmade := ft.made
  have hsub := ft.sub
  refine wpAny_call (codeAny_of_tree ?_)
  show wpAny _ _ (callAny (.type T) _) _ _ _
  refine wpAny_pure ⟨Code.quiet_builtin _ (by decide +kernel), codeAny_builtin F.entry_type_call ?_⟩
  rw [Around.under_plain (weight_type_call_type T args kw) (units_type_call_type T args kw)]
  have h1 := ft.notType
  have h2 := ft.canCreate
  repeat (any_goals (first | assumption | wp_step))
  refine codeAny_mono (codeAny_call_builtin ft.plain entryN (wpAny_of_eq hcn (g prog w A.in1 _ s h))) fun r s₁ hr => ?_
  cases r with
  | error e => exact hr
  | ok fl =>
    cases fl with
    | ret obj =>
      obtain ⟨hT, hq⟩ := hr
      have hli := ft.init.lookup
      have hbi := ft.init.bind obj
      repeat (any_goals (first | assumption | wp_step))
      refine codeAny_mono (codeAny_call_builtin ft.init.plain F.entry_object_init (ft.init.check _ _ _ _ _ _ _ _ hT (hok obj) (gi obj prog w A.in1 (wants (fun r s₂ => r = .none ∧ Q obj s₂) E) s₁ ⟨hT, rfl, hq⟩))) fun r₂ s₂ hr₂ => ?_
      cases r₂ with
      | error e => exact hr₂
      | ok fl₂ =>
        cases fl₂ with
        | ret r =>
          obtain ⟨rfl, hq⟩ := hr₂
          repeat (any_goals (first | assumption | wp_step))
        | _ => exact hr₂.elim
    | _ => exact hr.elim
end
theorem typeCall_zipS (a b c : Value) : checkTypeCall "zip" ⟨[a, b], [("strict", c)]⟩ = pure () := by kernel_rfl
theorem newCall_zipS (a b c : Value) : checkBuiltinCall "zip.__new__" ⟨[.type "zip", a, b], [("strict", c)]⟩ = pure () := by kernel_rfl
theorem args_object_initS (a b c d : Value) : argsOk "object.__init__" ⟨[a, b, c], [("strict", d)]⟩ := by
  unfold argsOk; rw [signature?_of (id := "object.__init__") (n := ['_', '_', 't', 'i', 'n', 'i', '_', '_']) (o := ['t', 'c', 'e', 'j', 'b', 'o']) (by kernel_rfl) PySem.F.owner_object]; kernel_rfl
theorem initS {T newId : String} {self a : Value} {rest : List Value} {kw : List (Str × Value)} (hl : typeLookup (.type T) "__init__" = pure (some (.builtin "object.__init__")))
    (hm : Bind.madeBy (.type T) = pure (some newId)) (hne : (some newId != some "object.__new__") = true) :
    Meets (Builtin.«object.__init__» ⟨self :: a :: rest, kw⟩) (fun _ R s => s.TypeIs self T ∧ R (.ok (.ret .none)) s) := by
  refine Meets.of_wp fun prog w A R s hs => ?_
  obtain ⟨hT, hq⟩ := hs
  repeat (any_goals (first | assumption | wp_step))
  exact ⟨_, rfl, hq⟩
abbrev IsZipS (h : Heap) (z TI TO : Addr) (f0 : Value) : Prop :=
  h.get? z = some { cls := .type "zip", dict := none, data := .fields #[f0, .bool false, .bool true, .ref TI, .ref TO], slots := #[] }
section
variable {prog : Program} {w : World} {A : Around} {E : Value → Shared → Prop} {s : Shared}
open Builtin.SmallTypes in
theorem draw_item {it l : Addr} {i : Nat} {items} {x : Value} {Q : Option Value → Shared → Prop} (hit : s.heap.IsTupleIter it l i)
    (hl : s.heap.IsTuple l items) (hx : items[i]? = some x)
    (hQ : ∀ h', h'.IsTupleIter it l (i + 1) → Heap.SameBut it s.heap h' → Q (some x) { s with heap := h' }) : wpAny (model prog w) A (nextOrEnd (.ref it)) Q E s := by
  unfold nextOrEnd
  exact wpAny_bind (wpAny_attempt (RZ.nextOf_tuple_item hit hl hx fun h' h1 h2 => wpAny_pure (hQ h' h1 h2)))
open Builtin.SmallTypes in
theorem draw_end {it l : Addr} {i : Nat} {items} {Q : Option Value → Shared → Prop} (hh : A.handled = none) (hit : s.heap.IsTupleIter it l i)
    (hl : s.heap.IsTuple l items) (hx : items[i]? = none)
    (hQ : ∀ h', Heap.ExtBut it s.heap h' → Q none { s with heap := h' }) : wpAny (model prog w) A (nextOrEnd (.ref it)) Q E s := by
  unfold nextOrEnd
  refine wpAny_bind (wpAny_attempt (RZ.nextOf_tuple_end hh hit hl hx fun h' e h1 he => ?_))
  obtain ⟨o, ho, hc⟩ := he
  refine wpAny_bind (wpAny_isInstance (T := "StopIteration") (b := true) ⟨o, ho, hc⟩ isSubtype_stop ?_)
  exact wpAny_pure (hQ _ h1)
open Builtin.SmallTypes in
theorem stops {Q : Fin → Shared → Prop} (hh : A.handled = none) (hE : ∀ h' e, (∀ c o, s.heap.get? c = some o → h'.get? c = some o) → (∃ o, h'.get? e = some o ∧ o.cls = .type "StopIteration") → E (.ref e) { s with heap := h' }) : wpAny (model prog w) A (stopIteration : Sem Fin) Q E s := by
  unfold stopIteration
  refine wpAny_bind ?_
  simp only [newExc, newTuple]
  refine wpAny_bind (wpAny_newObj_type ?_ (by size_fits))
  refine wpAny_bind (m := firstArgMember _ _) (wpAny_of_eq (a := Value.none) (by first | rfl | (simp only [firstArgMember]; rfl)) ?_)
  refine wpAny_newObj_type ?_ (by size_fits)
  simp only [raiseNew]
  refine wpAny_bind (wpAny_handled ?_)
  rw [hh]
  refine wpAny_bind (wpAny_pure (wpAny_throw ?_))
  exact hE _ _ (fun c o e => Heap.get?_push_of_some _ (Heap.get?_push_of_some _ e)) ⟨_, Heap.get?_push_size _ rfl, rfl⟩
end
end ZS

set_option Elab.async false
set_option linter.all false
set_option maxRecDepth 100000
set_option maxHeartbeats 1600000
/-! X2: zip(a, b, strict=True) of two tuples of one length: a turn, the end, the call, the walk. -/
namespace ZS
open PySem
open PySem.Sem (wp)
section
variable {prog : Program} {w : World} {A : Around} {E : Value → Shared → Prop} {s : Shared}
theorem next_item {z TI TO i1 i2 l1 l2 : Addr} {k1 k2 : Nat} {xs ys : Array Value} {x y a b : Value} {Q : Value → Shared → Prop} (D : ZipApart z TI TO i1 i2 l1 l2)
    (hz : IsZipS s.heap z TI TO .none) (hTI : IsPair s.heap TI (.ref i1) (.ref i2)) (hTO : IsPair s.heap TO a b)
    (h1 : s.heap.IsTupleIter i1 l1 k1) (h2 : s.heap.IsTupleIter i2 l2 k2) (hl1 : s.heap.IsTuple l1 xs) (hl2 : s.heap.IsTuple l2 ys) (hx : xs[k1]? = some x) (hy : ys[k2]? = some y)
    (hQ : ∀ h', IsZipS h' z TI TO (rawInt s.heap.objs.size) → IsPair h' TO x y → h'.IsTupleIter i1 l1 (k1 + 1) → h'.IsTupleIter i2 l2 (k2 + 1) → IsPair h' s.heap.objs.size x y → h'.objs.size = s.heap.objs.size + 1 →
      (∀ c o, c ≠ z → c ≠ TO → c ≠ i1 → c ≠ i2 → s.heap.get? c = some o → h'.get? c = some o) → Q (.ref s.heap.objs.size) { s with heap := h' }) :
    wpAny (model prog w) A (Builtin.«zip.__next__» ⟨[.ref z], []⟩) (fun fin s' => ∃ v, fin = .done (.ret v) ∧ Q v s') E s := by
  show wpAny _ _ (field (.ref z) 2 >>= _) _ _ _
  refine wpAny_bind (wpAny_field hz rfl (x := .bool true) rfl ?_)
  show wpAny _ _ (field (.ref z) 3 >>= _) _ _ _
  refine wpAny_bind (wpAny_field hz rfl (x := .ref TI) rfl ?_)
  refine wpAny_bind (wpAny_seqItems hTI rfl ?_)
  show wpAny _ _ (Builtin.SmallTypes.ownedTupleIsFree (.ref z) >>= _) _ _ _
  refine wpAny_bind ?_
  unfold Builtin.SmallTypes.ownedTupleIsFree
  refine wpAny_bind (wpAny_field hz rfl (x := .none) rfl (wpAny_pure ?_))
  simp only [if_true]
  refine wpAny_bind (wpAny_rule ?_)
  refine wpAny_bind (wpAny_field hz rfl (x := .ref TO) rfl ?_)
  refine wpAny_bind (wpAny_setField_rec hz (by simp) fun h₁ hz₁ hs₁ => ?_)
  replace hz₁ : IsZipS h₁ z TI TO .ellipsis := hz₁
  refine wpAny_bind ?_
  simp only [List.zipIdx_cons, List.zipIdx_nil, List.forIn_cons, List.forIn_nil]
  refine wpAny_bind (wpAny_bind (wpAny_onRaise ?_))
  show wpAny _ _ (Builtin.SmallTypes.nextOrEnd (.ref i1)) _ _ _
  refine draw_item (h1.extBut hs₁.extBut D.i1z) (hl1.extBut hs₁.extBut D.l1z) hx fun h₂ h1₂ hs₂ => ?_
  have hTO₂ : IsPair h₂ TO a b := hs₂.extBut _ _ D.TOi1 (hs₁.extBut _ _ D.TOz hTO)
  refine wpAny_bind (wpAny_seqItems hTO₂ rfl ?_)
  refine wpAny_bind (wpAny_updateSeq_pair hTO₂ fun h₃ hTO₃ hs₃ => ?_)
  replace hTO₃ : IsPair h₃ TO x b := hTO₃
  refine wpAny_bind (wpAny_letGo (wpAny_pure ?_))
  refine wpAny_bind (wpAny_bind (wpAny_onRaise ?_))
  show wpAny _ _ (Builtin.SmallTypes.nextOrEnd (.ref i2)) _ _ _
  refine draw_item (((h2.extBut hs₁.extBut D.i2z).extBut hs₂.extBut D.i12.symm).extBut hs₃.extBut D.TOi2.symm)
    (((hl2.extBut hs₁.extBut D.l2z).extBut hs₂.extBut D.l2i1).extBut hs₃.extBut D.l2TO) hy fun h₄ h2₄ hs₄ => ?_
  have hTO₄ : IsPair h₄ TO x b := hs₄.extBut _ _ D.TOi2 hTO₃
  refine wpAny_bind (wpAny_seqItems hTO₄ rfl ?_)
  refine wpAny_bind (wpAny_updateSeq_pair hTO₄ fun h₅ hTO₅ hs₅ => ?_)
  replace hTO₅ : IsPair h₅ TO x y := hTO₅
  refine wpAny_bind (wpAny_letGo (wpAny_pure (wpAny_pure ?_)))
  refine wpAny_bind (wpAny_seqItems hTO₅ rfl ?_)
  refine wpAny_bind (wpAny_newTuple ?_)
  have hsz : h₅.objs.size = s.heap.objs.size := by rw [hs₅.1, hs₄.1, hs₃.1, hs₂.1, hs₁.1]
  have hz₅ : IsZipS h₅ z TI TO .ellipsis := hs₅.extBut _ _ D.TOz.symm (hs₄.extBut _ _ D.i2z.symm (hs₃.extBut _ _ D.TOz.symm (hs₂.extBut _ _ D.i1z.symm hz₁)))
  have hk₅ : ∀ c o, c ≠ z → c ≠ TO → c ≠ i1 → c ≠ i2 → s.heap.get? c = some o → h₅.get? c = some o := fun c o c1 c2 c3 c4 e =>
    hs₅.extBut _ _ c2 (hs₄.extBut _ _ c4 (hs₃.extBut _ _ c2 (hs₂.extBut _ _ c3 (hs₁.extBut _ _ c1 e))))
  have h1₅ : h₅.IsTupleIter i1 l1 (k1 + 1) := ((h1₂.extBut hs₃.extBut D.TOi1.symm).extBut hs₄.extBut D.i12).extBut hs₅.extBut D.TOi1.symm
  have h2₅ : h₅.IsTupleIter i2 l2 (k2 + 1) := h2₄.extBut hs₅.extBut D.TOi2.symm
  have hzlt : z < h₅.objs.size := Heap.lt_size hz₅
  have hTOlt : TO < h₅.objs.size := Heap.lt_size hTO₅
  show wpAny _ _ (Builtin.SmallTypes.ownedTupleHandOut (.ref z) (.ref h₅.objs.size) >>= _) _ _ _
  refine wpAny_bind ?_
  unfold Builtin.SmallTypes.ownedTupleHandOut
  have hz₆ : IsZipS (h₅.push { cls := .type "tuple", data := .seq #[x, y] }) z TI TO .ellipsis := Heap.get?_push_of_some _ hz₅
  refine wpAny_bind (wpAny_setField_rec hz₆ (by simp) fun h₇ hz₇ hs₇ => ?_)
  replace hz₇ : IsZipS h₇ z TI TO (rawInt h₅.objs.size) := hz₇
  refine wpAny_setField_rec hz₇ (by simp) fun h₈ hz₈ hs₈ => ?_
  replace hz₈ : IsZipS h₈ z TI TO (rawInt h₅.objs.size) := hz₈
  have up : ∀ c o, c ≠ z → h₅.get? c = some o → h₈.get? c = some o := fun c o c1 e => hs₈.extBut _ _ c1 (hs₇.extBut _ _ c1 (Heap.get?_push_of_some _ e))
  have hT₈ : IsPair h₈ h₅.objs.size x y := hs₈.extBut _ _ (Nat.ne_of_gt hzlt) (hs₇.extBut _ _ (Nat.ne_of_gt hzlt) (Heap.get?_push_size _ rfl))
  have hz8 : h₈.objs.size = h₅.objs.size + 1 := by rw [hs₈.1, hs₇.1, Heap.size_push]
  rw [hsz] at hz₈ hT₈ hz8
  refine wpAny_pure ⟨_, rfl, ?_⟩
  show Q (.ref h₅.objs.size) _
  rw [hsz]
  exact hQ h₈ hz₈ (up _ _ D.TOz hTO₅) (h1₅.at fun o e => up _ o D.i1z e) (h2₅.at fun o e => up _ o D.i2z e) hT₈ hz8 fun c o c1 c2 c3 c4 e => up c o c1 (hk₅ c o c1 c2 c3 c4 e)
theorem next_end {z TI TO i1 i2 l1 l2 : Addr} {k1 k2 : Nat} {xs ys : Array Value} {a b : Value} {Q : Fin → Shared → Prop} (hh : A.handled = none) (D : ZipApart z TI TO i1 i2 l1 l2)
    (hz : IsZipS s.heap z TI TO .none) (hTI : IsPair s.heap TI (.ref i1) (.ref i2)) (hTO : IsPair s.heap TO a b)
    (h1 : s.heap.IsTupleIter i1 l1 k1) (h2 : s.heap.IsTupleIter i2 l2 k2) (hl1 : s.heap.IsTuple l1 xs) (hl2 : s.heap.IsTuple l2 ys) (hx : xs[k1]? = none) (hy : ys[k2]? = none)
    (hE : ∀ h' e, (∀ c o, c ≠ z → c ≠ TO → c ≠ i1 → c ≠ i2 → s.heap.get? c = some o → h'.get? c = some o) → (∃ o, h'.get? e = some o ∧ o.cls = .type "StopIteration") → E (.ref e) { s with heap := h' }) :
    wpAny (model prog w) A (Builtin.«zip.__next__» ⟨[.ref z], []⟩) Q E s := by
  show wpAny _ _ (field (.ref z) 2 >>= _) _ _ _
  refine wpAny_bind (wpAny_field hz rfl (x := .bool true) rfl ?_)
  show wpAny _ _ (field (.ref z) 3 >>= _) _ _ _
  refine wpAny_bind (wpAny_field hz rfl (x := .ref TI) rfl ?_)
  refine wpAny_bind (wpAny_seqItems hTI rfl ?_)
  show wpAny _ _ (Builtin.SmallTypes.ownedTupleIsFree (.ref z) >>= _) _ _ _
  refine wpAny_bind ?_
  unfold Builtin.SmallTypes.ownedTupleIsFree
  refine wpAny_bind (wpAny_field hz rfl (x := .none) rfl (wpAny_pure ?_))
  simp only [if_true]
  refine wpAny_bind (wpAny_rule ?_)
  refine wpAny_bind (wpAny_field hz rfl (x := .ref TO) rfl ?_)
  refine wpAny_bind (wpAny_setField_rec hz (by simp) fun h₁ hz₁ hs₁ => ?_)
  replace hz₁ : IsZipS h₁ z TI TO .ellipsis := hz₁
  refine wpAny_bind ?_
  simp only [List.zipIdx_cons, List.zipIdx_nil, List.forIn_cons, List.forIn_nil]
  refine wpAny_bind (wpAny_bind (wpAny_onRaise ?_))
  show wpAny _ _ (Builtin.SmallTypes.nextOrEnd (.ref i1)) _ _ _
  refine draw_end hh (h1.extBut hs₁.extBut D.i1z) (hl1.extBut hs₁.extBut D.l1z) hx fun h₂ hs₂ => ?_
  have hz₂ : IsZipS h₂ z TI TO .ellipsis := hs₂ _ _ D.i1z.symm hz₁
  refine wpAny_bind (wpAny_setField_rec hz₂ (by simp) fun h₃ hz₃ hs₃ => ?_)
  refine wpAny_bind ?_
  show wpAny _ _ (forIn (([Value.ref i1, Value.ref i2].drop 1).zipIdx 1) PUnit.unit _ >>= _) _ _ _
  simp only [List.drop_succ_cons, List.drop_zero, List.zipIdx_cons, List.zipIdx_nil, List.forIn_cons, List.forIn_nil]
  refine wpAny_bind (wpAny_bind (wpAny_bind ?_))
  have hk₃ : ∀ c o, c ≠ z → c ≠ i1 → s.heap.get? c = some o → h₃.get? c = some o := fun c o c1 c3 e => hs₃.extBut _ _ c1 (hs₂ _ _ c3 (hs₁.extBut _ _ c1 e))
  refine draw_end hh (h2.at fun o e => hk₃ _ o D.i2z D.i12.symm e) (by
    obtain ⟨o, ho, hr⟩ := hl2
    exact ⟨o, hk₃ _ o D.l2z D.l2i1 ho, hr⟩) hy fun h₄ hs₄ => ?_
  rw [if_neg (by decide)]
  refine wpAny_pure (wpAny_pure (wpAny_bind (wpAny_rule (stops hh fun h₅ e up he => hE h₅ e (fun c o c1 c2 c3 c4 x => up c o (hs₄ _ _ c4 (hk₃ c o c1 c3 x))) he))))
theorem pyNext_item {z TI TO i1 i2 l1 l2 : Addr} {k1 k2 : Nat} {xs ys : Array Value} {x y a b : Value} {Q : Option Value → Shared → Prop} (D : ZipApart z TI TO i1 i2 l1 l2)
    (hz : IsZipS s.heap z TI TO .none) (hTI : IsPair s.heap TI (.ref i1) (.ref i2)) (hTO : IsPair s.heap TO a b)
    (h1 : s.heap.IsTupleIter i1 l1 k1) (h2 : s.heap.IsTupleIter i2 l2 k2) (hl1 : s.heap.IsTuple l1 xs) (hl2 : s.heap.IsTuple l2 ys) (hx : xs[k1]? = some x) (hy : ys[k2]? = some y)
    (hQ : ∀ h', IsZipS h' z TI TO (rawInt s.heap.objs.size) → IsPair h' TO x y → h'.IsTupleIter i1 l1 (k1 + 1) → h'.IsTupleIter i2 l2 (k2 + 1) → IsPair h' s.heap.objs.size x y → h'.objs.size = s.heap.objs.size + 1 →
      (∀ c o, c ≠ z → c ≠ TO → c ≠ i1 → c ≠ i2 → s.heap.get? c = some o → h'.get? c = some o) → Q (some (.ref s.heap.objs.size)) { s with heap := h' }) :
    wpAny (model prog w) A (pyNext (.ref z)) Q E s := by
  have hT : s.TypeIs (.ref z) "zip" := ⟨_, hz, rfl⟩
  unfold pyNext
  exact wpAny_bind (wpAny_attempt (wpAny_callSpecial?_slot (name := Str.ofString "__next__") hT F.slot_zip_next
    (wpAny_call_entry F.slot_zip_next hT F.entry_zip_next
      (next_item D hz hTI hTO h1 h2 hl1 hl2 hx hy fun h' a1 a2 a3 a4 a5 a6 a7 => wpAny_pure (hQ h' a1 a2 a3 a4 a5 a6 a7)) (F.args_zip_next_1 _))))
theorem pyNext_end {z TI TO i1 i2 l1 l2 : Addr} {k1 k2 : Nat} {xs ys : Array Value} {a b : Value} {Q : Option Value → Shared → Prop} (hh : A.handled = none) (D : ZipApart z TI TO i1 i2 l1 l2)
    (hz : IsZipS s.heap z TI TO .none) (hTI : IsPair s.heap TI (.ref i1) (.ref i2)) (hTO : IsPair s.heap TO a b)
    (h1 : s.heap.IsTupleIter i1 l1 k1) (h2 : s.heap.IsTupleIter i2 l2 k2) (hl1 : s.heap.IsTuple l1 xs) (hl2 : s.heap.IsTuple l2 ys) (hx : xs[k1]? = none) (hy : ys[k2]? = none)
    (hQ : ∀ h', (∀ c o, c ≠ z → c ≠ TO → c ≠ i1 → c ≠ i2 → s.heap.get? c = some o → h'.get? c = some o) → Q none { s with heap := h' }) : wpAny (model prog w) A (pyNext (.ref z)) Q E s := by
  have hT : s.TypeIs (.ref z) "zip" := ⟨_, hz, rfl⟩
  unfold pyNext
  refine wpAny_bind (wpAny_attempt (wpAny_callSpecial?_slot (name := Str.ofString "__next__") hT F.slot_zip_next
    (wpAny_call_entry F.slot_zip_next hT F.entry_zip_next (next_end hh D hz hTI hTO h1 h2 hl1 hl2 hx hy fun h' e hk he => ?_) (F.args_zip_next_1 _))))
  obtain ⟨o, ho, hc⟩ := he
  refine wpAny_bind (wpAny_isInstance (T := "StopIteration") (b := true) ⟨o, ho, hc⟩ isSubtype_stop ?_)
  exact wpAny_pure (hQ _ hk)
end
open RZ in
abbrev zipSH5 (h : Heap) (l1 l2 : Addr) : Heap := (zipTH4 h l1 l2).push { cls := .type "zip", data := .fields #[.none, .bool false, .bool true, .ref (zipTH2 h l1 l2).objs.size, .ref (zipTH3 h l1 l2).objs.size] }
open RZ in
theorem meets_new (l1 l2 : Addr) (xs ys : Array Value) :
    Meets (Builtin.«zip.__new__» ⟨[.type "zip", .ref l1, .ref l2], [("strict", .bool true)]⟩) (fun _ R s => s.heap.IsTuple l1 xs ∧ s.heap.IsTuple l2 ys ∧
      R (.ok (.ret (.ref (zipTH4 s.heap l1 l2).objs.size))) { s with heap := zipSH5 s.heap l1 l2 }) :=
  .of_wp fun prog w A R s h => by
    obtain ⟨hp, g, d, tk, os⟩ := s; obtain ⟨hl1, hl2, h⟩ := h
    have hsub := sub_zip
    have hL1 : Heap.IsTuple (Shared.heap ⟨hp, g, d, tk, os⟩) l1 xs := hl1
    have hL2 : Heap.IsTuple (Shared.heap ⟨hp.push { cls := .type "tuple_iterator", data := .fields #[.ref l1, .int 0 0] }, g, d, tk, os⟩) l2 ys := Heap.IsTuple.push hl2 _
    wp_walk using wpAny_pyIter_tuple hL1, wpAny_pyIter_tuple hL2, wpAny_truthy_bool
    exact ⟨_, rfl, h⟩
end ZS

set_option Elab.async false
set_option linter.all false
set_option maxRecDepth 100000
set_option maxHeartbeats 1600000
/-! X3: zip(a, b, strict=True): the call, the walk, the rule. -/
namespace ZS
open PySem PySem.Spec PyProof.Rows L2 RZ
section
variable {prog : Program} {w : World} {A : Around} {E : Value → Shared → Prop} {s : Shared}
theorem call_zipS {l1 l2 : Addr} {xs ys : Array Value} {Q : Value → Shared → Prop} (hl1 : s.heap.IsTuple l1 xs) (hl2 : s.heap.IsTuple l2 ys)
    (h : ∀ h', IsZipS h' (s.heap.objs.size + 4) (s.heap.objs.size + 2) (s.heap.objs.size + 3) .none → IsPair h' (s.heap.objs.size + 2) (.ref s.heap.objs.size) (.ref (s.heap.objs.size + 1)) →
      IsPair h' (s.heap.objs.size + 3) .none .none → h'.IsTupleIter s.heap.objs.size l1 0 → h'.IsTupleIter (s.heap.objs.size + 1) l2 0 → h'.objs.size = s.heap.objs.size + 5 →
      (∀ c o, s.heap.get? c = some o → h'.get? c = some o) → Q (.ref (s.heap.objs.size + 4)) { s with heap := h' }) :
    wpAny (model prog w) A (call (.type "zip") [.ref l1, .ref l2] [("strict", .bool true)]) Q E s := by
  refine tyKw F.called_zip (by decide) (typeCall_zipS _ _ _) (newCall_zipS _ _ _) F.entry_zip_new (meets_new l1 l2 xs ys) (fun obj => args_object_initS obj _ _ _) (fun obj => initS F.called_zip.init.lookup F.called_zip.made (by decide)) ⟨hl1, hl2, ?_⟩
  have z1 : (zipTH1 s.heap l1).objs.size = s.heap.objs.size + 1 := Heap.size_push ..
  have z2 : (zipTH2 s.heap l1 l2).objs.size = s.heap.objs.size + 2 := by rw [Heap.size_push, z1]
  have z3 : (zipTH3 s.heap l1 l2).objs.size = s.heap.objs.size + 3 := by rw [Heap.size_push, z2]
  have z4 : (zipTH4 s.heap l1 l2).objs.size = s.heap.objs.size + 4 := by rw [Heap.size_push, z3]
  have z5 : (zipSH5 s.heap l1 l2).objs.size = s.heap.objs.size + 5 := by rw [Heap.size_push, z4]
  have g5 : (zipSH5 s.heap l1 l2).get? (zipTH4 s.heap l1 l2).objs.size = some _ := Heap.get?_push_size _ rfl
  have g4 : (zipSH5 s.heap l1 l2).get? (zipTH3 s.heap l1 l2).objs.size = some _ := Heap.get?_push_of_some _ (Heap.get?_push_size _ rfl)
  have g3 : (zipSH5 s.heap l1 l2).get? (zipTH2 s.heap l1 l2).objs.size = some _ := Heap.get?_push_of_some _ (Heap.get?_push_of_some _ (Heap.get?_push_size _ rfl))
  have g2 : (zipSH5 s.heap l1 l2).get? (zipTH1 s.heap l1).objs.size = some _ := Heap.get?_push_of_some _ (Heap.get?_push_of_some _ (Heap.get?_push_of_some _ (Heap.get?_push_size _ rfl)))
  have g1 : (zipSH5 s.heap l1 l2).get? s.heap.objs.size = some _ := Heap.get?_push_of_some _ (Heap.get?_push_of_some _ (Heap.get?_push_of_some _ (Heap.get?_push_of_some _ (Heap.get?_push_size _ rfl))))
  show _ ∧ _
  rw [z2, z3, z4] at g5
  rw [z1, z2] at g3
  rw [z3] at g4
  rw [z1] at g2
  rw [z4]
  exact ⟨⟨_, g5, rfl⟩, h _ g5 g3 g4 ⟨_, g1, rfl, rfl⟩ ⟨_, g2, rfl, rfl⟩ z5 fun c o x =>
    Heap.get?_push_of_some _ (Heap.get?_push_of_some _ (Heap.get?_push_of_some _ (Heap.get?_push_of_some _ (Heap.get?_push_of_some _ x))))⟩
end
/-- as ItzT, the two of one length -/
def ItzS (K : PySem.W.Frag) (a b : Addr) : It :=
  ⟨(ItzT K a b).go, (ItzT K a b).yld, fun i H => ∃ xs ys : List V, SqT K H a xs ∧ SqT K H b ys ∧ xs.length ≤ i ∧ ys.length ≤ i⟩
theorem iter_zipS {P : Program} {w : World} {A : Around} {E : Value → Shared → Prop} {s : Shared} {z TI TO : Addr} {f0 : Value} {Q : Value → Shared → Prop} (hz : IsZipS s.heap z TI TO f0) (h : Q (.ref z) s) : wpAny (model P w) A (pyIter (.ref z)) Q E s := by
  have hT : s.TypeIs (.ref z) "zip" := ⟨_, hz, rfl⟩
  refine wpAny_pyIter_slot hT F.slot_zip_iter (wpAny_call_entry F.slot_zip_iter hT F.entry_zip_iter ?_ (F.args_zip_iter_1 _))
  show wpAny _ _ (ret (.ref z)) _ _ s
  exact wpAny_pure ⟨_, rfl, "zip", _, hT, F.slot_zip_next.lookup, h⟩
theorem letGo_zipS {P : Program} {w : World} {A : Around} {E : Value → Shared → Prop} {s : Shared} {elts : List Expr} {x1} {pos : Pos} {z TI TO T : Addr} {Q : Unit → Shared → Prop} (hz : IsZipS s.heap z TI TO (rawInt T))
    (hQ : ∀ h', IsZipS h' z TI TO .none → Heap.SameBut z s.heap h' → Q () { s with heap := h' }) :
    wpAny (model P w) A (letOwnedTupleGo (.Tuple elts x1 pos) (.ref z) (.ref T)) Q E s := by
  unfold letOwnedTupleGo
  refine wpAny_bind (wpAny_load hz ?_)
  show wpAny _ _ (if (["enumerate", "zip", "dict_itemiterator", "dict_reverseitemiterator", "odict_iterator", "itertools.zip_longest", "itertools.pairwise"].contains "zip" &&
      (#[rawInt T, .bool false, .bool true, .ref TI, .ref TO] : Array Value)[0]? == some (rawInt T)) = true then _ else _) Q E s
  rw [if_pos (by simp)]
  refine wpAny_bind (wpAny_rule ?_)
  show wpAny _ _ (setField (.ref z) 0 .none) Q E s
  exact wpAny_setField_rec hz (by simp) fun h' hz' hs' => hQ h' hz' hs'
theorem turn_zipS {P : Program} {w : World} {K : PySem.W.Frag} {elts : List Expr} {kk : Nat} {tpos : Pos} {a b z TI TO i1 i2 : Addr} (D : ZipApart z TI TO i1 i2 a b) :
    Turn P w K (.Tuple elts kk tpos) (ItzS K a b) [z, TI, TO, i1, i2] z (fun i h => IsZipS h z TI TO .none ∧ IsPair h TI (.ref i1) (.ref i2) ∧ (∃ x y, IsPair h TO x y) ∧ h.IsTupleIter i1 a i ∧ h.IsTupleIter i2 b i) where
  mem := by simp
  obj := fun i h st c hc => by
    obtain ⟨hz, hTI, ⟨x, y, hTO⟩, ⟨o1, e1, _, d1⟩, ⟨o2, e2, _, d2⟩⟩ := st
    have e' : c = z ∨ c = TI ∨ c = TO ∨ c = i1 ∨ c = i2 := by simpa using hc
    rcases e' with q | q | q | q | q
    · rw [q]; exact ⟨_, hz, fun v q => nomatch q⟩
    · rw [q]; exact ⟨_, hTI, fun v q => nomatch q⟩
    · rw [q]; exact ⟨_, hTO, fun v q => nomatch q⟩
    · rw [q]; exact ⟨o1, e1, fun v q => by rw [d1] at q; cases q⟩
    · rw [q]; exact ⟨o2, e2, fun v q => by rw [d2] at q; cases q⟩
  keep := fun i h h' st k => by
    obtain ⟨hz, hTI, ⟨x, y, hTO⟩, h1, h2⟩ := st
    exact ⟨k z (by simp) _ hz, k TI (by simp) _ hTI, ⟨x, y, k TO (by simp) _ hTO⟩, h1.at fun o q => k i1 (by simp) o q, h2.at fun o q => k i2 (by simp) o q⟩
  item := by
    intro X hP hw hK hc i pins s σ H E I hf st hg
    subst hP hw hK
    obtain ⟨hz, hTI, ⟨x0, y0, hTO⟩, h1, h2⟩ := st
    obtain ⟨xs, ys, x, y, hqx, hqy, hx, hy⟩ := hg
    obtain ⟨its, rv, p, _⟩ := I.tuple hqx
    obtain ⟨its2, rv2, p2, _⟩ := I.tuple hqy
    obtain ⟨u, hu, ru⟩ := rv.get hx
    obtain ⟨u2, hu2, ru2⟩ := rv2.get hy
    have hzl : z < s.heap.objs.size := Heap.lt_size hz
    refine pyNext_item D hz hTI hTO h1 h2 p p2 (x := u) (y := u2) (by simpa using hu) (by simpa using hu2) fun h' z' TO' h1' h2' hT hsz hk => ?_
    refine ⟨_, rfl, letGo_zipS (s := { s with heap := h' }) z' fun h'' z'' sb => ?_⟩
    have hT2 : h''.get? s.heap.objs.size = some { cls := .type "tuple", data := .seq #[u, u2] } := (sb.2 _ (Nat.ne_of_gt hzl)).trans hT
    have new : ObjOk X.prog X.w (upd H s.heap.objs.size (.tup [x, y])) h'' s.heap.objs.size (.tup [x, y]) :=
      ⟨by show 2 ≤ sizeLine; decide, [u, u2], .cons ru (.cons ru2 .nil), ⟨_, hT2, rfl, _, rfl⟩⟩
    have I1 : Inv X pins σ (upd H s.heap.objs.size (.tup [x, y])) { s with heap := h'' } :=
      I.turnedNew (t' := s.toks) (ch := [z, TI, TO, i1, i2]) (fun c o hb q => (sb.2 c (fun q' => hb (by simp [q']))).trans (hk c o (fun q' => hb (by simp [q'])) (fun q' => hb (by simp [q'])) (fun q' => hb (by simp [q'])) (fun q' => hb (by simp [q'])) q)) hf (Nat.le_refl _) new
    refine ⟨.ref s.heap.objs.size, _, I1, rfl, ⟨_, x, y, rfl, I.hok.fresh (Nat.le_refl _), rfl, fun l hl => by rw [I.tuple_inj hl hqx]; exact hx, fun l hl => by rw [I.tuple_inj hl hqy]; exact hy⟩, ⟨z'', ?_, ⟨u, u2, ?_⟩, ?_, ?_⟩, fun c hcm => ?_⟩
    · exact (sb.2 _ D.TIz).trans (hk _ _ D.TIz D.TITO D.TIi1 D.TIi2 hTI)
    · exact (sb.2 _ D.TOz).trans TO'
    · exact h1'.at fun o q => (sb.2 _ D.i1z).trans q
    · exact h2'.at fun o q => (sb.2 _ D.i2z).trans q
    · have hlt : c < s.heap.objs.size := by
        have e' : c = z ∨ c = TI ∨ c = TO ∨ c = i1 ∨ c = i2 := by simpa using hcm
        rcases e' with q | q | q | q | q
        · rw [q]; exact hzl
        · rw [q]; exact Heap.lt_size hTI
        · rw [q]; exact Heap.lt_size hTO
        · rw [q]; obtain ⟨_, e1, _⟩ := h1; exact Heap.lt_size e1
        · rw [q]; obtain ⟨_, e2, _⟩ := h2; exact Heap.lt_size e2
      rw [upd_ne (Nat.ne_of_lt hlt)]
      exact (hf c hcm).1
  done := by
    intro X hP hw hK hc i pins s σ H E I hf st hg
    subst hP hw hK
    obtain ⟨hz, hTI, ⟨x0, y0, hTO⟩, h1, h2⟩ := st
    obtain ⟨xs, ys, hqx, hqy, hend1, hend2⟩ := hg
    obtain ⟨its, rv, p, _⟩ := I.tuple hqx
    obtain ⟨its2, rv2, p2, _⟩ := I.tuple hqy
    have l1 := rv.length
    have l2 := rv2.length
    exact pyNext_end (I.ok.hd hc) D hz hTI hTO h1 h2 p p2 (by simp; omega) (by simp; omega) fun h' hk => ⟨rfl, I.turnedL (t' := s.toks) (ch := [z, TI, TO, i1, i2]) (fun c o hb q =>
      hk c o (fun q' => hb (by simp [q'])) (fun q' => hb (by simp [q'])) (fun q' => hb (by simp [q'])) (fun q' => hb (by simp [q'])) q) hf⟩
  self := fun A i s Q E st h => iter_zipS st.1 h
theorem callWith_tyKw {M : Model} {A : Around} {E : Value → Shared → Prop} {s : Shared} {pos : Pos} {T : String} {first : List Value} {args : List (Bool × Sem Value)} {keywords : List (Option Str × Sem Value)} {Q : Value → Shared → Prop}
    (hplain : args.any (·.1) = false) (hkw : keywords.any (·.1.isNone) = false)
    (h : wpAny M A (evalArgs (.type T) true args keywords) (fun a s₁ => wpAny M A (call (.type T) (first ++ a.pos) a.kw) Q E s₁) E s) :
    wpAny M A (callWith pos (.type T) first args keywords) Q E s := by
  unfold callWith
  refine wpAny_bind (wpAny_holding (wpAny_mono h (fun a s₁ h₁ => wpAny_bind (wpAny_standAt ?_)) fun _ _ x => x))
  simp only [hplain, hkw, Bool.or_false]
  refine wpAny_bind (wpAny_pure ?_)
  exact wpAny_bind (wpAny_mono h₁ (fun r s₂ hr => wpAny_bind (wpAny_holding (wpAny_point (wpAny_pure hr)))) fun _ _ x => x)
def iZipS (K : PySem.W.Frag) (ta : TA) : TI := fun σ H R => ta σ H fun vs H1 => ∃ a b xs ys, vs = [.ref a, .ref b] ∧ SqT K H1 a xs ∧ SqT K H1 b ys ∧ R (ItzS K a b) H1
theorem pi_zipS {X : Cx} {e e2 : Expr} {ta : TA} {p pos tpos cp kp : Pos} {j} {elts : List Expr} {kk : Nat} (hg : Gl X "zip") (hm : X.mg "zip" = none) (ha : PA X [e, e2] ta)
    (hs : starEach [e, e2] X.env = (false, eval e X.env) :: starEach [e2] X.env := by rfl) (hpl : (backTo pos (starEach [e2] X.env)).any (·.1) = false := by rfl) :
    PI X (.Tuple elts kk tpos) (.Call (.Name "zip" p) [e, e2] [⟨some "strict", .Constant (.bool true) j cp, kp⟩] pos) (iZipS X.K ta) := by
  refine ⟨fun pins s σ H R I h => ?_⟩
  refine wpAny_Call_Name_kw (ld_blt I hg hm PyProof.Rows.boot_zip ?_)
  refine callWith_tyKw (by rw [hs]; show (false || (backTo pos (starEach [e2] X.env)).any (·.1)) = false; rw [hpl]; rfl) rfl ?_
  have hA := ha.run pos pins s σ H _ I h
  rw [hs] at hA ⊢
  refine evalArgs_kw rfl (thn hA fun us s1 ⟨vs, H1, I1, r1, q1⟩ => ?_)
  refine wpAny_evalAll_cons (wpAny_bind (Constant_bool (wpAny_bind (wpAny_standAt (wpAny_pure (wpAny_evalAll_nil ?_))))))
  obtain ⟨a, b, xs, ys, ex, hqx, hqy, q⟩ := q1
  subst ex
  cases r1 with
  | cons r rr =>
    cases rr with
    | cons r' rr =>
      cases rr
      cases r
      cases r'
      have fresh5 : ∀ c, c ∈ [s1.heap.objs.size + 4, s1.heap.objs.size + 2, s1.heap.objs.size + 3, s1.heap.objs.size, s1.heap.objs.size + 1] → FpOk X pins H1 c := fun c hcm => by
        have e' : c = s1.heap.objs.size + 4 ∨ c = s1.heap.objs.size + 2 ∨ c = s1.heap.objs.size + 3 ∨ c = s1.heap.objs.size ∨ c = s1.heap.objs.size + 1 := by simpa using hcm
        have hle : s1.heap.objs.size ≤ c := by
          rcases e' with z | z | z | z | z
          · rw [z]; exact Nat.le_add_right _ _
          · rw [z]; exact Nat.le_add_right _ _
          · rw [z]; exact Nat.le_add_right _ _
          · rw [z]; exact Nat.le_refl _
          · rw [z]; exact Nat.le_add_right _ _
        exact I1.fpOk hle (I1.hok.fresh hle)
      obtain ⟨its, rv, p1, _⟩ := I1.tuple hqx
      obtain ⟨its2, rv2, p2, _⟩ := I1.tuple hqy
      obtain ⟨o1, ho1, _⟩ := id p1
      obtain ⟨o2, ho2, _⟩ := id p2
      refine call_zipS (show s1.heap.IsTuple a its.toArray from p1) (show s1.heap.IsTuple b its2.toArray from p2) fun h' hz hTI hTO h1 h2 hsz hk => iter_zipS hz ?_
      have I2 : Inv X pins σ H1 { s1 with heap := h' } := I1.kept (t' := s1.toks) hk
      exact ⟨s1.heap.objs.size + 4, [s1.heap.objs.size + 4, s1.heap.objs.size + 2, s1.heap.objs.size + 3, s1.heap.objs.size, s1.heap.objs.size + 1], _, _, H1, rfl, I2, turn_zipS (PySem.W.ktu_apart s1.heap.objs.size a b (Heap.lt_size ho1) (Heap.lt_size ho2)), ⟨hz, hTI, ⟨_, _, hTO⟩, h1, h2⟩, fresh5, q⟩
end ZS

set_option Elab.async false
set_option linter.all false
set_option maxRecDepth 100000
set_option maxHeartbeats 1600000
/-! X4: enumerate of a tuple. -/
namespace ZS
open PySem PySem.Spec PyProof.Rows L2 RZ
theorem drawsT {P : Program} {w : World} {A : Around} (hh : A.handled = none) (it l : Addr) (hne : l ≠ it) (xs : Array Value) :
    Draws P w A it [it, l] xs.size (fun i v => xs[i]? = some v) (fun i h => h.IsTupleIter it l i ∧ h.IsTuple l xs) where
  live := fun _ _ z => z.1.imp fun _ q => q.1
  frame := fun _ _ _ z k => ⟨z.1.at fun o e => k it (by simp) o e, let ⟨o, q, r⟩ := z.2; ⟨o, k l (by simp) o q, r⟩⟩
  item := fun i s Q E hi z hQ => nextOf_tuple_item z.1 z.2 (Array.getElem?_eq_getElem hi) fun h' a b => hQ _ h' s.toks (Array.getElem?_eq_getElem hi) ⟨a, z.2.extBut b.extBut hne⟩ b
  done := fun s Q E z hE => nextOf_tuple_end hh z.1 z.2 (Array.getElem?_eq_none (Nat.le_refl _)) hE
abbrev enT1 (h : Heap) (l : Addr) : Heap := h.push { cls := .type "tuple_iterator", data := .fields #[.ref l, .int 0 0] }
abbrev enT2 (h : Heap) (l : Addr) : Heap := (enT1 h l).push { cls := .type "enumerate", data := .fields #[.none, .bool false, .ref h.objs.size, rawInt 0, .none, .none] }
theorem newT (l : Addr) (xs : Array Value) (o : Obj) : Meets (Builtin.«enumerate.__new__» ⟨[.type "enumerate", .ref l], []⟩) (fun _ R s => s.heap.get? l = some o ∧ o.cls = .type "tuple" ∧ (∃ n, o.data = .seq xs n) ∧
      R (.ok (.ret (.ref (enT1 s.heap l).objs.size))) { s with heap := enT2 s.heap l }) :=
  .of_wp fun prog w A R s h => by
    obtain ⟨hp, g, d, tk, os⟩ := s
    obtain ⟨hl, hc, ⟨n, hd⟩, h⟩ := h
    obtain ⟨oc, od, dt, osl⟩ := o
    simp only at hc hd
    subst hc hd
    have hsub := sub_enumerate
    have hL : Heap.IsTuple (Shared.heap ⟨hp, g, d, tk, os⟩) l xs := ⟨_, hl, rfl, n, rfl⟩
    wp_walk using AutoSeq1.wpAny_loadPart' hl
    refine wpAny_stack_any fun st => wpAny_pure ?_
    split
    · rename_i c _ _ _ _ _
      cases (c == Value.type "enumerate") <;> (wp_walk using AutoSeq1.wpAny_loadPart' hl, wpAny_pyIter_tuple hL; exact ⟨_, rfl, h⟩)
    · wp_walk using AutoSeq1.wpAny_loadPart' hl, wpAny_pyIter_tuple hL
      exact ⟨_, rfl, h⟩
theorem call_enT {P : Program} {w : World} {A : Around} {E : Value → Shared → Prop} {s : Shared} {l : Addr} {xs : Array Value} {Q : Value → Shared → Prop} (hL : s.heap.IsTuple l xs)
    (h : ∀ h', IsEnum h' (s.heap.objs.size + 1) s.heap.objs.size 0 .none → h'.IsTupleIter s.heap.objs.size l 0 → (∀ b o, s.heap.get? b = some o → h'.get? b = some o) → Q (.ref (s.heap.objs.size + 1)) { s with heap := h' }) :
    wpAny (model P w) A (call (.type "enumerate") [.ref l]) Q E s := by
  obtain ⟨o, hl, hc, hd⟩ := hL
  refine callType_new F.called_enumerate (by decide) (F.typeCall_enumerate_1 _) (F.newCall_enumerate_1 _) (fun obj => F.args_object_init_2 obj _) F.entry_enumerate_new (newT l xs o) ⟨hl, hc, hd, ?_⟩
  have hz : (enT1 s.heap l).objs.size = s.heap.objs.size + 1 := Heap.size_push ..
  have he := Heap.get?_push_size (enT1 s.heap l) (o := { cls := .type "enumerate", data := .fields #[.none, .bool false, .ref s.heap.objs.size, rawInt 0, .none, .none] }) rfl
  show _ ∧ _
  rw [hz] at he ⊢
  exact ⟨⟨_, he, rfl⟩, h _ he ⟨_, Heap.get?_push_of_some _ (Heap.get?_push_size _ rfl), rfl, rfl⟩ fun b o x => Heap.get?_push_of_some _ (Heap.get?_push_of_some _ x)⟩
/-- as Ite, over a tuple -/
def IteT (K : PySem.W.Frag) (a : Addr) : It :=
  ⟨fun i H => ∃ (xs : List V) (x : V), SqT K H a xs ∧ xs[i]? = some x, fun i H v H' => ∃ T x, v = .ref T ∧ H T = none ∧ H' = upd H T (.tup [.int (i : Nat), x]) ∧ ∀ xs, SqT K H a xs → xs[i]? = some x, fun i H => ∃ xs : List V, SqT K H a xs ∧ xs.length = i⟩
theorem turn_enT {P : Program} {w : World} {K : PySem.W.Frag} {elts : List Expr} {kk : Nat} {tpos : Pos} (a e it : Addr) :
    Turn P w K (.Tuple elts kk tpos) (IteT K a) [e, it] e (fun i h => (∃ old, IsEnum h e it ((i : Nat) : Int) old) ∧ h.IsTupleIter it a i ∧ e ≠ it ∧ e ≠ a ∧ it ≠ a) where
  mem := List.mem_cons_self
  obj := fun i h st b hb => by
    obtain ⟨⟨old, he⟩, ⟨o, ho, _, hd⟩, _⟩ := st
    rcases List.mem_cons.mp hb with z | z
    · exact ⟨_, by rw [z]; exact he, by intro v q; cases q⟩
    · exact ⟨o, by rw [List.mem_singleton.mp z]; exact ho, fun v q => by rw [hd] at q; cases q⟩
  keep := fun i h h' ⟨⟨old, he⟩, hi, hne⟩ k => ⟨⟨old, k e (by simp) _ he⟩, hi.at fun o q => k it (by simp) o q, hne⟩
  item := by
    intro X hP hw hK hc i pins s σ H E I hf st ⟨xs, x, hq, hx⟩
    subst hP hw hK
    obtain ⟨⟨old, he⟩, hit, hne, hea, hia⟩ := st
    obtain ⟨its, rv, p, _⟩ := I.tuple hq
    obtain ⟨u, hu, ru⟩ := rv.get hx
    have hel := Heap.lt_size he
    have hil : it < s.heap.objs.size := by obtain ⟨_, q, _⟩ := hit; exact Heap.lt_size q
    refine wpAny_pyNext_enum_itemD (drawsT (A := X.A.in1) (I.ok.hd hc) it a (Ne.symm hia) its.toArray) he ⟨hit, p⟩ (by
      have := (List.getElem?_eq_some_iff.mp hu).1
      simpa using this) hne (by simp [hne, hea]) fun x' h' tk hx' ho hit' hT hsz hk => ?_
    have : x' = u := by
      have hx' : its.toArray[i]? = some x' := hx'
      rw [List.getElem?_toArray, hu] at hx'
      exact (Option.some.inj hx').symm
    subst this
    refine ⟨_, rfl, wpAny_letOwnedTupleGo_enum (s := { s with heap := h', toks := tk + 1 }) ho fun h'' he' sb => ?_⟩
    have hT2 := (sb.2 _ (Nat.ne_of_gt hel)).trans hT
    have new : ObjOk X.prog X.w (upd H s.heap.objs.size (.tup [.int (i : Nat), x])) h'' s.heap.objs.size (.tup [.int (i : Nat), x]) := ⟨by show 2 ≤ sizeLine; decide, [.int i tk, x'], .cons ⟨_, rfl⟩ (.cons ru .nil), ⟨_, hT2, rfl, _, rfl⟩⟩
    have I1 : Inv X pins σ (upd H s.heap.objs.size (.tup [.int (i : Nat), x])) { s with heap := h'', toks := tk + 1 } :=
      I.turnedNew (ch := [e, it]) (fun b ob hb q => (sb.2 b fun z => hb (by rw [z]; exact List.mem_cons_self)).trans (hk b ob (fun z => hb (by rw [z]; exact List.mem_cons_self)) (fun z => hb (by rw [z]; simp)) q)) hf (Nat.le_refl _) new
    refine ⟨.ref s.heap.objs.size, _, I1, rfl, ⟨_, x, rfl, I.hok.fresh (Nat.le_refl _), rfl, fun ys hy => by rw [I.tuple_inj hy hq]; exact hx⟩, ⟨⟨x', ?_⟩, hit'.1.at fun o q => (sb.2 it (Ne.symm hne)).trans q, hne, hea, hia⟩, fun b hb => ?_⟩
    · have e1 : ((i + 1 : Nat) : Int) = (i : Int) + 1 := Int.natCast_succ i
      rw [e1]; exact he'
    · have hb' : b < s.heap.objs.size := by
        rcases List.mem_cons.mp hb with z | z
        · exact z ▸ hel
        · exact List.mem_singleton.mp z ▸ hil
      rw [upd_ne (Nat.ne_of_lt hb')]
      exact (hf b hb).1
  done := by
    intro X hP hw hK hc i pins s σ H E I hf st ⟨xs, hq, hx⟩
    subst hP hw hK
    obtain ⟨⟨old, he⟩, hit, hne, hea, hia⟩ := st
    obtain ⟨its, rv, p, _⟩ := I.tuple hq
    obtain ⟨f0, f1, f2, f3, f4, f5⟩ := hf it (List.mem_cons_of_mem _ List.mem_cons_self)
    have hl : its.toArray.size = i := by rw [List.size_toArray, ← rv.length]; exact hx
    refine wpAny_pyNext_enum_endD (drawsT (A := X.A.in1) (I.ok.hd hc) it a (Ne.symm hia) its.toArray) he ⟨by rw [hl]; exact hit, p⟩ fun h' eb => ⟨rfl, I.turned (t' := s.toks) (fun b o hb q => eb b o hb q) f0 f1 f3 f4 f5⟩
  self := fun A i s Q E ⟨⟨_, he⟩, _⟩ h => wpAny_pyIter_enum he h
def iEnT (K : PySem.W.Frag) (ta : TA) : TI := fun σ H R => ta σ H fun vs H1 => ∃ a xs, vs = [.ref a] ∧ SqT K H1 a xs ∧ R (IteT K a) H1
theorem pi_enT {X : Cx} {e : Expr} {ta : TA} {p pos tpos : Pos} {elts : List Expr} {kk : Nat} (hg : Gl X "enumerate") (hm : X.mg "enumerate" = none) (ha : PA X [e] ta) (hs : starEach [e] X.env = [(false, eval e X.env)] := by rfl) :
    PI X (.Tuple elts kk tpos) (.Call (.Name "enumerate" p) [e] [] pos) (iEnT X.K ta) := by
  refine ⟨fun pins s σ H R I h => Call_ (ld_blt I hg hm boot_enumerate (PyProof.Rows.callWith_type1 (thn (ha.run pos pins s σ H _ I h) fun us s1 ⟨vs, H1, I1, r1, a, xs, ex, hq, q⟩ => ?_) hs rfl))⟩
  subst ex
  cases r1 with
  | cons r rr =>
    cases rr
    cases r
    obtain ⟨its, rv, p', _⟩ := I1.tuple hq
    have hal : a < s1.heap.objs.size := by obtain ⟨o, ho, _⟩ := id p'; exact Heap.lt_size ho
    refine call_enT (show s1.heap.IsTuple a its.toArray from p') fun h' he hit hk => wpAny_pyIter_enum he ?_
    refine ⟨_, [s1.heap.objs.size + 1, s1.heap.objs.size], _, _, H1, rfl, I1.kept (t' := s1.toks) hk, turn_enT a (s1.heap.objs.size + 1) s1.heap.objs.size, ⟨⟨.none, he⟩, hit, Nat.succ_ne_self _, Nat.ne_of_gt (Nat.lt_succ_of_lt hal), Nat.ne_of_gt hal⟩, fun b hb => ?_, q⟩
    have hle : s1.heap.objs.size ≤ b := by
      rcases List.mem_cons.mp hb with z | z
      · rw [z]; exact Nat.le_succ _
      · rw [List.mem_singleton.mp z]; exact Nat.le_refl _
    exact I1.fpOk hle (I1.hok.fresh hle)
end ZS

set_option Elab.async false
set_option linter.all false
set_option maxRecDepth 100000
set_option maxHeartbeats 4000000
/-! X5: tuple * 1. -/
namespace ZS
open PySem PySem.Spec PyProof.Rows L2
theorem mul1 (l : Addr) (xs : Array Value) (n : Nat) (dd : Option Addr) (sl : Array (Option Value)) (u : Tok) :
    Meets (Builtin.«tuple.__mul__» ⟨[.ref l, .int 1 u], []⟩) (fun _ R s => s.heap.get? l = some { cls := .type "tuple", dict := dd, data := .seq xs n, slots := sl } ∧ R (.ok (.ret (.ref l))) s) :=
  .of_wp fun prog w A R s h => by
    obtain ⟨hp, g, d, tk, os⟩ := s
    obtain ⟨hl, h⟩ := h
    have f1 := AutoSeq1.idx_int
    wp_walk using wpAny_loadPart' hl
    exact ⟨_, rfl, h⟩
def rRep1 (K : PySem.W.Frag) : R2 := fun x y H Q => ∃ l xs, x = .ref l ∧ y = .int 1 ∧ SqT K H l xs ∧ Q x H
theorem op_rep1 {X : Cx} : OpR X (binaryOp .Mult) (rRep1 X.K) := by
  intro pins s σ H x y v u Q I rx ry ⟨l, xs, ex, ey, hT, q⟩
  subst ex ey
  cases rx
  obtain ⟨t, rfl⟩ := ry
  obtain ⟨its, r, ⟨o, ho, hc, n, hd⟩, _⟩ := I.tuple hT
  obtain ⟨oc, od, dt, osl⟩ := o
  simp only at hc hd
  subst hc hd
  refine wpAny_binaryOp_repeat_ref (U := "int") (by decide) ⟨_, ho, rfl⟩ (fun s' => typeIs_int s' 1 t) noFill_tuple_mul F.fills_int_mul F.slot_int_rmul repeat_tuple F.slot_int_index.lookup
    (call_meets F.slot_int_rmul (typeIs_int s 1 t) F.entry_int_rmul (F.args_int_rmul_2 _ _) (int_rmul_tuple 1 t l its.toArray n od osl) ⟨ho, rfl, ?_⟩)
  refine ⟨⟨_, ho, rfl⟩, call_meets F.slot_tuple_mul ⟨_, ho, rfl⟩ F.entry_tuple_mul (F.args_tuple_mul_2 _ _) (mul1 l its.toArray n od osl t) ⟨ho, ?_⟩⟩
  exact ⟨.ref l, H, I, rfl, q⟩
end ZS

set_option Elab.async false
set_option linter.all false
set_option maxRecDepth 100000
set_option maxHeartbeats 2000000
/-! X6: t[::-1] of a tuple. -/
namespace ZS
open PySem PySem.Spec PyProof.Rows L2 HT
theorem pickAll {α : Type} : ∀ l : List α, (List.range l.length).filterMap (fun k => l[k]?) = l
  | [] => rfl
  | x :: l => by
    rw [List.length_cons, List.range_succ_eq_map, List.filterMap_cons]
    simp only [List.getElem?_cons_zero, List.filterMap_map]
    exact congrArg (x :: ·) (pickAll l)
theorem fmCongr {α β : Type} {f g : α → Option β} : ∀ {l : List α}, (∀ x, x ∈ l → f x = g x) → l.filterMap f = l.filterMap g
  | [], _ => rfl
  | x :: l, h => by rw [List.filterMap_cons, List.filterMap_cons, h x List.mem_cons_self, fmCongr fun y hy => h y (List.mem_cons_of_mem _ hy)]
theorem pickRev {α : Type} (l : List α) : (List.range l.length).filterMap (fun (k : Nat) => l[(((l.length : Int) - 1) + (k : Int) * (-1)).toNat]?) = l.reverse := by
  refine Eq.trans (fmCongr fun k hk => ?_) ((congrArg (fun n => (List.range n).filterMap fun k => l.reverse[k]?) l.length_reverse.symm).trans (pickAll l.reverse))
  have hk := List.mem_range.mp hk
  have e : (((l.length : Int) - 1) + (k : Int) * (-1)).toNat = l.length - 1 - k := by omega
  rw [e, List.getElem?_reverse hk]
theorem appliedRev {P : Program} {w : World} {A : Around} {E : Value → Shared → Prop} {s : Shared} {sl : Addr} {vl vu vs : Value} {n : Nat} {Q : Int × Int × Nat → Shared → Prop} (hs : s.heap.IsSliceOf sl vl vu vs) (pl : IsPart vl none) (pu : IsPart vu none) (ps : IsPart vs (some (-1)))
    (h : Q ((n : Int) - 1, -1, n) s) : wpAny (model P w) A (Builtin.Slice.sliceApplied (.ref sl) (pure (n : Int))) Q E s := by
  obtain ⟨os, hos, hcs, hds⟩ := id hs
  unfold Builtin.Slice.sliceApplied Builtin.Slice.sliceFields
  refine wpAny_bind (wpAny_bind (wpAny_field hos hds (x := vl) rfl (wpAny_bind (wpAny_field hos hds (x := vu) rfl (wpAny_bind (wpAny_field hos hds (x := vs) rfl (wpAny_pure ?_)))))))
  refine wpAny_bind (slicePart_ ps ?_)
  show wpAny _ _ (if ((-1 : Int) == 0) = true then _ else _) _ _ s
  rw [if_neg (by decide)]
  refine wpAny_bind (slicePart_ pl (wpAny_bind (slicePart_ pu (wpAny_bind (wpAny_pure (wpAny_pure ?_))))))
  show Q ((n : Int) - 1, -1, Builtin.Slice.slicePlaces ((n : Int) - 1) (-1) (-1)) s
  have e : Builtin.Slice.slicePlaces ((n : Int) - 1) (-1) (-1) = n := by
    unfold Builtin.Slice.slicePlaces
    rw [if_neg (by decide)]
    simp only [Int.neg_neg, Int.ediv_one]
    split <;> omega
  rw [e]; exact h
theorem getRev {P : Program} {w : World} {A : Around} {E : Value → Shared → Prop} {s : Shared} {t sl : Addr} {its : List Value} {vl vu vs : Value} {Q : Value → Shared → Prop} (ht : IsTup s.heap t its.toArray) (hs : s.heap.IsSliceOf sl vl vu vs) (pl : IsPart vl none) (pu : IsPart vu none) (ps : IsPart vs (some (-1))) (hz : its.length ≤ sizeLine)
    (h : Q (.ref s.heap.objs.size) { s with heap := s.heap.push { cls := .type "tuple", data := .seq its.reverse.toArray } }) : wpAny (model P w) A (getItem (.ref t) (.ref sl)) Q E s := by
  obtain ⟨os, hos, hcs, hds⟩ := id hs
  have hTs : s.TypeIs (.ref sl) "slice" := ⟨os, hos, hcs⟩
  unfold getItem
  try with_reducible refine wpAny_holding ?_
  first | refine wpAny_bind (wpAny_pure ?_) | skip
  refine wpAny_bind (wpAny_sequenceKey ht.typeIs (by decide) ?_)
  refine wpAny_bind (wpAny_callSpecial?_slot (name := Str.ofString "__getitem__") ht.typeIs PyProof.Rows.slot_tuple_getitem (wpAny_call_entry PyProof.Rows.slot_tuple_getitem ht.typeIs entry_tuple_getitem ?_ (args_tuple_getitem _ _)))
  show wpAny _ _ (Builtin.Tuple.tupleItemsOf (.ref t) >>= _) _ _ s
  refine wpAny_bind (tupleItemsOf_ ht (wpAny_bind (wpAny_typeOf hTs ?_)))
  rw [if_pos (by decide)]
  refine wpAny_bind ?_
  rw [List.size_toArray]
  refine appliedRev hs pl pu ps ?_
  show wpAny _ _ (if (((its.length : Int) - 1 == 0) && (-1 : Int) == 1 && its.length == its.length) = true then _ else _) _ _ s
  rw [if_neg (by simp)]
  show wpAny _ _ (newObj (.type "tuple") (.seq (List.filterMap (fun (k : Nat) => its.toArray[(((its.length : Int) - 1) + (k : Int) * (-1)).toNat]?) (List.range its.length)).toArray) >>= _) _ _ s
  simp only [List.getElem?_toArray]
  rw [pickRev]
  refine wpAny_bind (wpAny_newObj_type (wpAny_pure ⟨_, rfl, wpAny_pure h⟩) (by show its.reverse.toArray.size ≤ sizeLine; rw [List.size_toArray, List.length_reverse]; exact hz))
/-- t[::-1] -/
def tRevT (K : PySem.W.Frag) (te : TE) : TE := fun σ H Q => te σ H fun x H1 => ∃ a xs, x = .ref a ∧ SqT K H1 a xs ∧ ∀ p, H1 p = none → Q (.ref p) (upd H1 p (.tup xs.reverse))
theorem pe_revT {X : Cx} {e : Expr} {te : TE} {k : Nat} {p1 p2 p3 pos : Pos} (he : PE X e te) : PE X (.Subscript e (.Slice none none (some (.UnaryOp .USub (.Constant (.int 1) k p1) p2)) p3) pos) (tRevT X.K te) := by
  refine ⟨fun pins s σ H Q I h => Subscript_ (thn (he.run pins s σ H _ I h) fun v s1 ⟨x, H1, I1, r1, a, xs, ex, hx, q⟩ => ?_)⟩
  subst ex
  cases r1
  have part : PO X (some (.UnaryOp .USub (.Constant (.int 1) k p1) p2)) (tPart (tUn (rU fun i => .int (-i)) (tC (.int 1)))) := po_some (pe_un un_neg pe_int)
  refine wpAny_Slice (thn (po_none.run pins s1 σ H1 (fun o H2 => o = none ∧ H2 = H1) I1 ⟨rfl, rfl⟩) fun vl s2 ⟨l, H2, I2, pl, el, e2⟩ => thn (po_none.run pins s2 σ H2 (fun o H3 => o = none ∧ H3 = H2) I2 ⟨rfl, rfl⟩) fun vu s3 ⟨u, H3, I3, pu, eu, e3⟩ =>
    thn (part.run pins s3 σ H3 (fun o H4 => o = some (-1) ∧ H4 = H3) I3 ⟨1, rfl, -1, rfl, rfl, rfl⟩) fun vs s4 ⟨o, H4, I4, ps, eo, e4⟩ => ?_)
  subst el e2 eu e3 eo e4
  have J : Inv X pins σ H4 { s4 with heap := s4.heap.push { cls := .type "slice", data := .fields #[vl, vu, vs] } } := I4.kept (t' := s4.toks) fun b ob q => Heap.get?_push_of_some _ q
  obtain ⟨its, r, ht, hz⟩ := J.tuple hx
  show wpAny (model X.prog X.w) X.A (subscriptTail e (.Slice none none (some (.UnaryOp .USub (.Constant (.int 1) k p1) p2)) p3) (.ref a) (.ref s4.heap.objs.size)) (EP X pins σ Q) X.xe { s4 with heap := s4.heap.push { cls := .type "slice", data := .fields #[vl, vu, vs] } }
  refine tail_any (ops := [.ref a, .ref s4.heap.objs.size]) ht.typeIs PyProof.Rows.slot_tuple_getitem.lookup (getRev ht (Heap.IsSliceOf.new _ vl vu vs) pl pu ps (by rw [← r.length]; exact hz) ?_) (by with_unfolding_all rfl)
  exact ⟨.ref _, _, J.laid (t' := s4.toks) (o := .tup xs.reverse) (fun b ob q => Heap.get?_push_of_some _ q) (Nat.le_refl _) ⟨by rw [List.length_reverse]; exact hz, _, r.reverse, IsTup.new _ _⟩, rfl, q _ (J.hok.fresh (Nat.le_refl _))⟩
end ZS

set_option Elab.async false
set_option linter.all false
set_option maxRecDepth 100000
set_option maxHeartbeats 2000000
/-! X7: min of a tuple of ints. -/
namespace ZS
open PySem PySem.Spec PyProof.Rows L2
theorem minT0 {P : Program} {w : World} {A : Around} {E : Value → Shared → Prop} {s : Shared} {l : Addr} {xs : Array (Int × Tok)} {Q : Value → Shared → Prop} (hh : A.handled = none) (hl : s.heap.IsTuple l (intItems xs)) (hne : 0 < xs.size)
    (h : ∀ v h' tk, (intItems xs)[argBest (fun i j => decide (numAt xs i < numAt xs j)) (xs.size - 1)]? = some v → (∀ b o, s.heap.get? b = some o → h'.get? b = some o) → Q v { s with heap := h', toks := tk }) :
    wpAny (model P w) A (call (.builtin "min") [.ref l]) Q E s := by
  have hlt : l < s.heap.objs.size := by obtain ⟨_, e, _⟩ := hl; exact Heap.lt_size e
  refine call_min_walk (wpAny_pyIter_tuple hl ?_)
  refine ⟨_, [s.heap.objs.size, l], [s.heap.objs.size], _, _, _, _, rfl, Walks.tuple (A := A.in1) hh _ l (Nat.ne_of_lt hlt) (intItems xs), ⟨⟨_, Heap.get?_push_size _ rfl, rfl, rfl⟩, hl.push _⟩, fun c hc => ?_, by simpa [intItems] using hne, CmpOf.ints_lt (numAt xs) (fun _ _ => intItems_at), fun v h' tk hP hk => ?_⟩
  · show c < (s.heap.push _).objs.size
    rw [Heap.size_push]
    simp only [List.mem_cons, List.not_mem_nil, or_false] at hc
    rcases hc with z | z
    · rw [z]; exact Nat.lt_succ_self _
    · rw [z]; exact Nat.lt_succ_of_lt hlt
  · refine h v h' tk (by simpa [intItems] using hP) fun b o e => hk b o (fun hm => ?_) (Heap.get?_push_of_some _ e)
    have := Heap.lt_size e
    rw [List.mem_singleton.mp hm] at this
    exact Nat.lt_irrefl _ this
theorem minT1 {P : Program} {w : World} {A : Around} {E : Value → Shared → Prop} {s : Shared} {l : Addr} {its : List Value} {ns : List Int} {Q : Value → Shared → Prop} (hh : A.handled = none) (hl : s.heap.IsTuple l its.toArray) (hi : IntsAre its ns) (hne : 0 < ns.length)
    (h : ∀ h' tk M t', (∀ b o, s.heap.get? b = some o → h'.get? b = some o) → M ∈ ns → (∀ a, a ∈ ns → M ≤ a) → Q (.int M t') { s with heap := h', toks := tk }) : wpAny (model P w) A (call (.builtin "min") [.ref l]) Q E s := by
  obtain ⟨xs, e⟩ := hi.allInts.items
  have hn : numsOf (intItems xs).toList = ns := by rw [← e]; exact hi.numsOf
  rw [nums_intItems] at hn
  subst hn
  rw [e] at hl
  refine minT0 hh hl (by simpa using hne) fun v h' tk hv hk => ?_
  obtain ⟨t, rfl⟩ := intItems_at hv
  have hb := argBest_lt (numAt xs) (xs.size - 1)
  have hx : 0 < xs.size := by simpa using hne
  refine h h' tk _ t hk ?_ fun a ha => ?_
  · rw [numAt_eq]; exact PySem.getD_mem (by rw [List.length_map, Array.length_toList]; omega)
  · obtain ⟨j, hj, rfl⟩ := mem_getD ha
    rw [List.length_map, Array.length_toList] at hj
    rw [← numAt_eq]; exact hb.2 j (by omega)
/-- min(t) -/
def rMinT (K : PySem.W.Frag) : List V → Hp → VK → Prop := fun vs H Q => ∃ (a : Addr) (ns : List Int), vs = [V.ref a] ∧ SqT K H a (ns.map V.int) ∧ 0 < ns.length ∧ ∀ m, m ∈ ns → (∀ y, y ∈ ns → m ≤ y) → Q (.int m) H
theorem cr_minT {X : Cx} (hc : X.calm = true) : CallR X (.builtin "min") (rMinT X.K) := by
  intro pins s σ H vs us Q I r ⟨a, ns, ex, hs, hne, q⟩
  subst ex
  obtain ⟨its, rv, hl, _⟩ := I.tuple hs
  rw [Vals.ref1 r]
  exact minT1 (I.ok.hd hc) (show s.heap.IsTuple a its.toArray from hl) rv.ints hne fun h' tk m t' hk h1 h2 => ⟨.int _, H, I.kept hk, ⟨_, rfl⟩, q m h1 h2⟩
end ZS

set_option Elab.async false
set_option linter.all false
set_option maxRecDepth 100000
set_option maxHeartbeats 2000000
/-! X8: repr of a tuple, of a list. -/
namespace ZS
open PySem PySem.Spec PyProof.Rows L2
theorem call_repr {X : Cx} (hg : X.A.guards = some []) (hu : X.A.units + 64 < cLine) : CallR X (.builtin "repr") (fun xs H Q => ∃ a d, xs = [.ref a] ∧ Dp X.K H (.ref a) d ∧ d.showable = true ∧ d.depth ≤ 40 ∧ d.hasDict = false ∧ d.shown.length ≤ sizeLine ∧ Q (.str d.shown) H) := by
  intro pins s σ H xs us Q I r h
  obtain ⟨a, d, rfl, hd, h1, h2, h3, h4, q⟩ := h
  obtain ⟨u, rfl, ru⟩ := vals1 r
  obtain ⟨as, rd⟩ := Dp.reads I d _ u hd ru
  cases ru
  exact repr_of_reads' rd h1 (PyData.noDict_hsm h3) hg (by omega) (fun _ _ e => e) (fun h' u tk hk => ⟨.str d.shown, H, I.kept hk, ⟨u, rfl⟩, q⟩) h4
end ZS

set_option Elab.async false
set_option linter.all false
set_option maxRecDepth 100000
set_option maxHeartbeats 2000000
/-! X9: a def's promise where no repr is under way. -/
namespace ZG
open PySem PySem.Spec PyProof.Rows L2
structure FnG (P : Program) (w : World) (K : PySem.W.Frag) (mg : Str → Option Value) (base : Heap) (k : Nat) (f : Addr) (fd : FuncData) (ps : List Str) (sp : Sp) : Prop where
  len : ∀ vs H Q E, sp vs H Q E → vs.length = ps.length
  go : ∀ (A : Around), Room k A → A.guards = some [] → ∀ (fr : List Env) (s : Shared) (H : Hp) (args : Args) (us : List Value) (vs : List V) (Q : VK) (E : XK), sp vs H Q E → Vals vs us → BindsTo s fd args (ps.zip us) → Env0 P w K mg base A fr s H →
    codeAny (model P w) A (.call (.ref f) args) (fun r s' => CR (L2.CX P w) fr P w H s Q E r s') s
theorem FnG.mono {P : Program} {w : World} {K : PySem.W.Frag} {mg : Str → Option Value} {base : Heap} {j k : Nat} {f : Addr} {fd : FuncData} {ps : List Str} {sp : Sp} (F : FnG P w K mg base j f fd ps sp) (h : j ≤ k) : FnG P w K mg base k f fd ps sp :=
  ⟨F.len, fun A hr => F.go A (hr.mono h)⟩
section
variable {X : Cx} {k : Nat} {f : Addr} {fd : FuncData} {ps : List Str} {sp : Sp} {W : WX} {x : Str} {p pos : Pos} {e : Expr} {es : List Expr} {t : TA}
theorem runG {pins : List (Addr × Obj)} {σ : L2.St} {H : Hp} {s : Shared} {Q : VK} {us : List Value} {vs : List V} (F : FnG X.prog X.w X.K X.mg X.base k f fd ps sp) (hr : Room k X.A) (gu : X.A.guards = some []) (hb : Binds X.K fd ps []) (tk : Takes X W)
    (I : Inv X pins σ H s) (rv : Vals vs us) (h : sp vs H Q (WE W σ)) : wpAny (model X.prog X.w) X.A (call (.ref f) us) (EP X pins σ Q) X.xe s := by
  have b := hb s us I.kIn (by simpa using (rv.length.symm.trans (F.len _ _ _ _ h)))
  simp only [List.append_nil] at b
  refine wpAny_call (codeAny_mono (F.go X.A hr gu X.stack s H ⟨us, []⟩ us vs Q (WE W σ) h rv b I.env0) fun res s' z => ?_)
  cases res with
  | error er => exact passAt tk σ pins H s er s' I z
  | ok fl => cases fl <;> first | exact I.after z | exact z.elim
theorem pe_callG (F : FnG X.prog X.w X.K X.mg X.base k f fd ps sp) (hr : Room k X.A) (gu : X.A.guards = some []) (hg : Gl X x) (hm : X.mg x = some (.ref f)) (hk : PySem.W.keepIn X.K (.ref f) = true) (hb : Binds X.K fd ps []) (tk : Takes X W)
    (ha : PA X (e :: es) t) (hdb : (x == ("__debug__" : Str)) = false) (he : starEach (e :: es) X.env = (false, eval e X.env) :: starEach es X.env) (hpl : (backTo pos (starEach es X.env)).any (·.1) = false) :
    PE X (.Call (.Name x p) (e :: es) [] pos) (fun σ H Q => t σ H fun vs H1 => sp vs H1 Q (WE W σ)) :=
  ⟨fun pins s σ H Q I h => wpAny_Call_Name_kw (ld_glob I hg hm (PySem.W.callWith_K (h₀ := X.base) I.ok.mod.kin hk (thn (ha.run pos pins s σ H _ I h) fun us s1 ⟨vs, H1, I1, rv, q⟩ => ⟨I1.kIn, runG F hr gu hb tk I1 rv q⟩) he hpl) hdb)⟩
/-- a local that holds the def -/
theorem pe_callLG {i : Nat} (hN : X.N[i]? = some x) (hv : Vis X.env.scope x) (hdb : (x == ("__debug__" : Str)) = false) (hcd : (x == ("__classdict__" : Str)) = false) {hold : Addr → (List V → Hp → VK → XK → Prop) → Prop}
    (hh : ∀ f sp, hold f sp → ∃ k fd ps, FnG X.prog X.w X.K X.mg X.base k f fd ps sp ∧ Room k X.A ∧ PySem.W.keepIn X.K (.ref f) = true ∧ Binds X.K fd ps []) (gu : X.A.guards = some []) (tk : Takes X W)
    (ha : PA X (e :: es) t) (he : starEach (e :: es) X.env = (false, eval e X.env) :: starEach es X.env) (hpl : (backTo pos (starEach es X.env)).any (·.1) = false) :
    PE X (.Call (.Name x p) (e :: es) [] pos) (fun σ H Q => ∃ f sp, hold f sp ∧ σ[i]? = some (some (.ref f)) ∧ t σ H fun vs H1 => sp vs H1 Q (WE W σ)) := by
  refine ⟨fun pins s σ H Q I h => ?_⟩
  obtain ⟨f, sp, hf, hs, ht⟩ := h
  obtain ⟨k, fd, ps, F, hr, hk, hb⟩ := hh f sp hf
  refine wpAny_Call_Name_kw (thn ((pe_var (pos := p) hN hv hdb hcd).run pins s σ H (fun v H1 => v = .ref f ∧ H1 = H) I ⟨_, hs, rfl, rfl⟩) fun u s1 ⟨v, H1, I1, r1, q1⟩ => ?_)
  obtain ⟨rfl, rfl⟩ := q1
  cases r1
  exact PySem.W.callWith_K (h₀ := X.base) I.ok.mod.kin hk (thn (ha.run pos pins s1 σ _ _ I1 ht) fun us s2 ⟨vs, H2, I2, rv, q⟩ => ⟨I2.kIn, runG F hr gu hb tk I2 rv q⟩) he hpl
end
/-- the rule for a def -/
theorem fnG_of {P : Program} {w : World} {K : PySem.W.Frag} {mg : Str → Option Value} {base : Heap} {k : Nat} {x qual : Str} {params : Arguments} {body : List Stmt} {scope : Scope} {dvs : List V} {kws : List (Str × V)} {f : Addr} {fd : FuncData} {N ps : List Str} {sp : Sp}
    (F : FunD K x qual params body scope dvs kws f fd) (S : FnScope N ps scope) (len : ∀ vs H Q E, sp vs H Q E → vs.length = ps.length)
    (hbody : ∀ (cdv : Value) (A : Around) (fr : List Env) (s : Shared) (H : Hp) (vs : List V) (Q : VK) (E : XK), A.guards = some [] → Room k (A.deeper (envOfC qual scope s.heap.objs.size f cdv)) → sp vs H Q E →
      ∃ t, PSs (cxOf (L2.CX P w) P w K mg base N qual scope f cdv A fr s H E) body t ∧ t { nx := fun _ H' => Q .non H', rt := Q } (start N vs) H) : FnG P w K mg base (k + 1) f fd ps sp := by
  obtain ⟨oc, od, dV, kV, doc, pm, an, cdv, ct, osl, rfl, lk, hcd, _, _⟩ := F.ex
  refine ⟨len, fun A hr gu fr s H args us vs Q E hsp rv hb e0 => ?_⟩
  have kp : ∀ b o, base.get? b = some o → s.heap.get? b = some o := fun b o e => (e0.bs b o e).1
  have lv := len _ _ _ _ hsp
  have par : ∀ y ∈ ps.zip us, scope.names.lookup y.1 = some .local ∨ (scope.names.lookup y.1 = some .cell ∧ ((cellsFrom (s.heap.objs.size + 1) scope.names []).lookup y.1).isSome = true) := by
    rintro ⟨n, v⟩ hy
    exact (S.par n (List.of_mem_zip hy).1).imp id fun q => ⟨q, PySem.W.cellsFrom_some _ _ _ (.inl q)⟩
  have KX := e0.mod.kin.keeps kp
  refine codeAny_call_function hr.depth (KX _ _ lk) rfl S.co S.gen rfl (PySem.W.codeRec_of KX hcd) (hb _ _ _ _ (wpAny_newFunctionEnv_cells S.kind par fun env he s1 ic => ?_))
  subst he
  obtain ⟨t, ht, hq⟩ := hbody cdv A fr s H vs Q E gu (hr.deeper _) hsp
  refine ⟨(e0.mod.nolimit.keeps kp).keeps ic.toInCall.keep, codeAny_func (wpAny_mono (ht.run [] s1 (start N vs) H _ (inv_start S hr.hd e0 lv rv ic) hq) (fun fl s' z => ?_) fun er s' z => z)⟩
  cases fl with
  | ret u => obtain ⟨v, σ', H', J, r, q⟩ := z; exact ⟨v, H', J.os, J.bare, J.base, J.hok, r, q⟩
  | next => obtain ⟨σ', H', J, q⟩ := z; exact ⟨.non, H', J.os, J.bare, J.base, J.hok, rfl, q⟩
  | brk => obtain ⟨_, _, _, q⟩ := z; exact q.elim
  | cont => obtain ⟨_, _, _, q⟩ := z; exact q.elim
end ZG

set_option Elab.async false
set_option linter.all false
set_option maxRecDepth 100000
set_option maxHeartbeats 4000000
/-! X11: a caught error, held behind its suite. -/
namespace ZC
open PySem PySem.Spec PyProof.Rows L2
/-- an error object of the class cls that was caught -/
def ExC (cls : Value) (d : Option Addr) (a : Addr) : HO := .ext fun h => ∃ (oe : Obj) (vs : Array Value), h.get? a = some oe ∧ Zc cls d oe ∧ oe.data = .fields vs
section
variable {X : Cx} {pins : List (Addr × Obj)} {σ : L2.St} {H : Hp} {s : Shared}
/-- a pinned object of ours is tracked from here on -/
theorem track {a : Addr} {oe : Obj} {vs : Array Value} {cls : Value} {d : Option Addr} (I : Inv X (pins ++ [(a, oe)]) σ H s) (n0 : X.s_0.heap.get? a = none) (z : Zc cls d oe) (hd : oe.data = .fields vs) (np : ∀ p ∈ X.pn ++ pins, p.1 ≠ a) : Inv X pins σ (upd H a (ExC cls d a)) s := by
  obtain ⟨g, na, nL, nF, nc⟩ := I.pin (a, oe) (List.mem_append_right _ (List.mem_append_right _ (List.mem_singleton.mpr rfl)))
  dsimp only at g na nL nF nc
  have ne : ∀ b, (∃ o, X.s_0.heap.get? b = some o) → b ≠ a := fun b ⟨o, e⟩ q => by rw [q, n0] at e; cases e
  refine ⟨I.ok, I.os, I.bare, ⟨I.base.keep, I.base.slot, fun b o e n hb => ?_, I.base.there, fun b xs e => ?_, fun b o u e => ?_, fun b ps e => ?_⟩, I.loc, I.cell, ?_, fun x c e => ?_, fun p hp => ?_, ?_, I.len⟩
  · rw [upd_ne (ne b ⟨o, e⟩)]; exact I.base.free b o e n hb
  · have q := I.base.tups b xs e
    rw [upd_ne (fun w => by rw [w, na] at q; cases q)]; exact q
  · have q := I.base.frzs b o u e
    rw [upd_ne (fun w => by rw [w, na] at q; cases q)]; exact q
  · obtain ⟨m, q⟩ := I.base.tbls b ps e
    exact ⟨m, by rw [upd_ne (fun w => by rw [w, na] at q; cases q)]; exact q⟩
  · rw [upd_ne (Ne.symm nL)]; exact I.free
  · obtain ⟨v, o, ho, hv⟩ := I.cell x c e
    rw [upd_ne (fun w => by
      rw [w, g] at ho
      cases ho
      exact nc v hv)]
    exact I.freeC x c e
  · have hp' : p ∈ X.pn ++ (pins ++ [(a, oe)]) := by
      rcases List.mem_append.mp hp with q | q
      · exact List.mem_append_left _ q
      · exact List.mem_append_right _ (List.mem_append_left _ q)
    obtain ⟨p1, p2, p3⟩ := I.pin p hp'
    exact ⟨p1, by rw [upd_ne (np p hp)]; exact p2, p3⟩
  · exact I.hok.laidN (fun _ _ q => q) na ⟨⟨oe, vs, g, z, hd⟩, ⟨oe, g⟩, fun _ _ ⟨o, v, q, r⟩ k => ⟨o, v, k o q, r⟩⟩
/-- isinstance of it -/
def rIsC (K : PySem.W.Frag) : List V → Hp → VK → Prop := fun xs H Q => ∃ (a D : Addr) (c : V) (cv : Value) (b : Bool), xs = [.ref a, c] ∧ H a = some (ExC (.ref D) none a) ∧ ExcC K D ∧ (∀ u, RelV c u → u = cv) ∧ PySem.W.kitOne K (.ref D) cv = some b ∧ Q (.bl b) H
def rIsCT (K : PySem.W.Frag) : List V → Hp → VK → Prop := fun xs H Q => ∃ (a D p : Addr) (cs : List V) (ws : List Value) (b : Bool), xs = [.ref a, .ref p] ∧ H a = some (ExC (.ref D) none a) ∧ ExcC K D ∧ H p = some (.tup cs) ∧ (∀ its, Vals cs its → its = ws) ∧ PySem.W.kitAny K (.ref D) ws = some b ∧ Q (.bl b) H
theorem inst_of {a D : Addr} (I : Inv X pins σ H s) (h : H a = some (ExC (.ref D) none a)) : ∃ oe, PySem.W.InstAt s.heap a oe D none := by
  obtain ⟨⟨oe, vs, g, ⟨z1, z2⟩, hv⟩, _⟩ := I.hok a _ h
  obtain ⟨oc, od, oda, osl⟩ := oe
  dsimp only at z1 z2 hv
  subst z1 z2 hv
  exact ⟨_, g, rfl, rfl, trivial⟩
theorem call_isC : CallR X (.builtin "isinstance") (rIsC X.K) := by
  rintro pins s σ H xs us Q I r ⟨a, D, c, cv, b, rfl, ha, C, hcv, e, q⟩
  obtain ⟨u1, u2, rfl, r1, r2⟩ := vals2 r
  cases r1
  have ec := hcv _ r2
  subst ec
  obtain ⟨oe, J⟩ := inst_of I ha
  exact PySem.W.kia_one (PySem.W.handS_kitx_exc C.hg C.hk C.hs C.hd C.ha C.hn C.ht C.hm) I.kIn J e (fun z => nomatch z) fun tk => ⟨.bl b, H, I.tok tk, rfl, q⟩
theorem call_isCT : CallR X (.builtin "isinstance") (rIsCT X.K) := by
  rintro pins s σ H xs us Q I r ⟨a, D, p, cs, ws, b, rfl, ha, C, hp, hws, e, q⟩
  obtain ⟨u1, u2, rfl, r1, r2⟩ := vals2 r
  cases r1
  cases r2
  obtain ⟨oe, J⟩ := inst_of I ha
  obtain ⟨_, its, rv, o, h1, h2, n, h3⟩ := (show ObjOk X.prog X.w H s.heap p (.tup cs) from I.hok p _ hp)
  have e3 := hws _ rv
  subst e3
  obtain ⟨oc, od, dt, sl⟩ := o
  dsimp only at h2 h3
  subst h2 h3
  exact PySem.W.kia_tup (PySem.W.handS_kitx_exc C.hg C.hk C.hs C.hd C.ha C.hn C.ht C.hm) I.kIn J h1 e (fun z => nomatch z) fun tk => ⟨.bl b, H, I.tok tk, rfl, q⟩
end
/-! ### try: .. except X as n: m = n -/
/-- what the clause wishes: n is slot i, m slot j -/
def wGot (K : PySem.W.Frag) (c : Value) (i j : Nat) (Wout : WX) (D : Ends) : WX := fun cls d σ H =>
  ∃ b, PySem.W.exmOne K cls c = some b ∧ (b = true → ∀ a, H a = none → D.nx ((σ.set j (some (.ref a))).set i none) (upd H a (ExC cls d a))) ∧ (b = false → Wout cls d σ H)
theorem ps_try_got {X : Cx} {x n m : Str} {c : Value} {i j : Nat} {body : List Stmt} {np p1 p2 p3 pos pos' : Pos} {tb : WX → TS} {Wout : WX} (hs : X.stack = X.env :: X.outer) (hf : X.env.frame = some X.env.locals) (hex : X.ex = []) (hN : X.N.Nodup) (hi : X.N[i]? = some n) (hln : X.env.kindOf n = some .local)
    (hj : X.N[j]? = some m) (hlm : X.env.kindOf m = some .local) (hij : i ≠ j) (hdb : (n == ("__debug__" : Str)) = false) (hcd : (n == ("__classdict__" : Str)) = false) (hc : Names X x c) (tk : Takes X Wout)
    (hb : ∀ (W : WX) (pn : List (Addr × Obj)) (xe : Value → Shared → Prop), Takes (X.tr pn xe) W → PassesOwn (model X.prog X.w) X.A X.env xe → PSs (X.tr pn xe) body (tb W)) :
    PS X (.Try body [.ExceptHandler (some (.Name x np)) (some n) [.Assign [.Name m p1] (.Name n p2) p3] pos'] [] [] pos) (fun D σ H => tb (wGot X.K c i j Wout D) D σ H) := by
  refine ⟨fun pins s σ H D I h => ?_⟩
  have ok := I.ok
  have hfr : X.A.frames = some (X.env :: X.outer) := by rw [ok.frames, hs]
  refine wpAny_Try_except (wpAny_mono ((hb (wGot X.K c i j Wout D) (X.pn ++ pins) (fun e s₁ => wpAny (model X.prog X.w) X.A (noteFrame e X.env) (fun _ s₂ => wpAny (model X.prog X.w) X.A (setFlight e none) (fun _ s₃ =>
    wpAny (model X.prog X.w) X.A (handleBy e X.env [.ExceptHandler (some (.Name x np)) (some n) [.Assign [.Name m p1] (.Name n p2) p3] pos']) (SP X pins D) X.xe s₃) X.xe s₂) X.xe s₁) (fun u s' xx => ?_) PassesOwn.looking).run [] s σ H D (I.toTry _) h) (fun f s1 hsp => ?_) fun e s1 he => he)
  · obtain ⟨a, B, sI, pins', σ', H', cls, d, rfl, J', nb, up, sky, na, os, ag, b, hb1, hyes, hno⟩ := xx
    have J : Inv X pins σ' H' sI := J'.ofTry ok
    have sky' : Sky B (X.env :: X.outer) a (Zc cls d) X.env.locals s'.heap := by rw [← hs]; exact sky
    show wpAny (model X.prog X.w) X.A (noteFrame (.ref a) X.env) _ _ _
    refine Sky.land Zc.steady hfr hf sky' fun h3 fl3 up3 => ?_
    have J3 : Inv X pins σ' H' { s' with heap := h3 } := J.landed nb fl3.1 (up.trans up3) os ag
    obtain ⟨oe3, vs3, he3, hz3, hd3⟩ := fl3.there
    have nfr : a ∉ frs (X.env :: X.outer) := fun hm => by
      obtain ⟨_, o', e', hnf⟩ := fl3.2.2.1.mem hm
      rw [he3] at e'
      cases e'
      exact hnf _ hd3
    have nL : a ≠ X.env.locals := fun z => nfr (List.mem_filterMap.mpr ⟨X.env, List.mem_cons_self, by rw [hf, z]⟩)
    have nF : a ∉ X.fs := fun hm => by
      obtain ⟨e, he, q⟩ := List.mem_filterMap.mp hm
      exact nfr (List.mem_filterMap.mpr ⟨e, List.mem_cons_of_mem _ he, q⟩)
    -- a is new: what stood at the entry, and what is pinned, stands elsewhere
    have Ba : B.get? a = none := fl3.2.1
    have sIa : sI.heap.get? a = none := by
      cases q : sI.heap.get? a with
      | none => rfl
      | some o =>
        have := nb a o q (by rw [hs]; exact nfr)
        rw [Ba] at this; cases this
    have n0 : X.s_0.heap.get? a = none := by
      cases q : X.s_0.heap.get? a with
      | none => rfl
      | some o =>
        obtain ⟨o', q'⟩ := J.base.there a o q (by rw [hex]; exact fun z => nomatch z)
        rw [sIa] at q'; cases q'
    have np_ : ∀ p ∈ X.pn ++ pins, p.1 ≠ a := fun p hp e => by
      have := (J.pin p hp).1
      rw [e, sIa] at this; cases this
    have S3 := J3.suite he3 hd3 na nL nF
    refine wpAny_handleBy_cons (codeAny_handlers_test ?_) (by intro q; cases q)
    have LT : PySem.W.Looks (model X.prog X.w) h3 (typeOf (.ref a)) cls := fun A Q E s k q => wpAny_typeOf_ref (k _ _ he3) (by rw [hz3.1]; exact q)
    have LM := PySem.W.exm_one (M := model X.prog X.w) (J3.kIn) LT hb1
    have test : ∀ {Q : Value → Shared → Prop} {E : Value → Shared → Prop}, Q c { s' with heap := h3 } → wpAny (model X.prog X.w) (X.A.mark (some (.ref a))) (eval (.Name x np) X.env) Q E { s' with heap := h3 } := by
      intro Q E q
      obtain ⟨hg, hdbg, hm | ⟨hm, hv, hnn⟩⟩ := hc
      · exact ld_glob (X := X.suite a ((a, oe3) :: (X.pn ++ pins))) S3 hg hm q hdbg
      · exact ld_blt (X := X.suite a ((a, oe3) :: (X.pn ++ pins))) S3 hg hm hv q hnn hdbg
    refine test (LM.here ?_)
    cases b with
    | true =>
      refine codeAny_handlers_suite_as (HandSPX.lands_againZ fl3 fun h4 fl4 up4 => ?_)
      have J4 : Inv X pins σ' H' { s' with heap := h4 } := J.landed nb fl4.1 ((up.trans up3).trans up4) os ag
      obtain ⟨oe4, vs4, he4, hz4, hd4⟩ := fl4.there
      have S4 := J4.suite he4 hd4 na nL nF
      refine store_ok (X := X.suite a ((a, oe4) :: (X.pn ++ pins))) (v := .ref a) S4 hN hi (.inl hln) rfl (fun s5 S5 => ?_) (.inr hln)
      have il : i < σ'.length := by rw [J.len]; exact (List.getElem?_eq_some_iff.mp hi).1
      have pn_ : PE (X.suite a ((a, oe4) :: (X.pn ++ pins))) (.Name n p2) (tVar i) := pe_var hi (.inl hln) hdb hcd
      have ps_ : PSs (X.suite a ((a, oe4) :: (X.pn ++ pins))) [.Assign [.Name m p1] (.Name n p2) p3] (tAsg (tVar i) (gName j)) := pss_one (ps_set (i := j) hN hj (.inl hlm) pn_ (hf := .inr hlm))
      refine wpAny_mono (ps_.run [] s5 _ H' { nx := fun σ6 H6 => σ6 = (σ'.set i (some (.ref a))).set j (some (.ref a)) ∧ H6 = H', rt := fun _ _ => False, bk := fun _ _ => False, ct := fun _ _ => False } S5 ⟨.ref a, by rw [List.getElem?_set_self il], rfl, rfl⟩) (fun f s6 hsp => ?_) (fun _ _ z => False.elim z)
      cases f with
      | next =>
        obtain ⟨σ6, H6, S6, rfl, rfl⟩ := hsp
        have P6 : Inv X (pins ++ [(a, oe4)]) ((σ'.set i (some (.ref a))).set j (some (.ref a))) H6 s6 := ⟨ok, S6.os, S6.bare, S6.base, S6.loc, S6.cell, S6.free, S6.freeC, fun p hp => by
          refine S6.pin p ?_
          rw [List.append_nil]
          rcases List.mem_append.mp hp with q | q
          · exact List.mem_cons_of_mem _ (List.mem_append_left _ q)
          · rcases List.mem_append.mp q with q | q
            · exact List.mem_cons_of_mem _ (List.mem_append_right _ q)
            · rw [List.mem_singleton.mp q]; exact List.mem_cons_self, S6.hok, S6.len⟩
        refine gone_ok P6 hN hi hln fun s7 J7 => ?_
        refine ⟨_, _, track J7 n0 hz4 hd4 np_, ?_⟩
        have := hyes rfl a na
        have e : (((σ'.set i (some (V.ref a))).set j (some (.ref a))).set i none : L2.St) = (σ'.set j (some (.ref a))).set i none := by
          rw [List.set_comm _ _ (Ne.symm hij), List.set_set]
          try rw [List.set_comm _ _ hij]
        rw [e]
        exact this
      | brk => obtain ⟨_, _, _, q⟩ := hsp; exact q.elim
      | cont => obtain ⟨_, _, _, q⟩ := hsp; exact q.elim
      | ret u => obtain ⟨_, _, _, _, _, q⟩ := hsp; exact q.elim
    | false =>
      show wpAny _ X.A (handleBy (.ref a) X.env []) _ _ _
      refine wpAny_handleBy_nil ?_
      obtain ⟨k1, k2, k3, oe, vs, T, oT, ts', he, hz, hd, h1, hr⟩ := id fl3
      unfold PySem.passOn
      refine wpAny_bind (wpAny_field he hd h1 ?_)
      rw [if_neg (show ¬ ((Value.ref T == Value.none) = true) from by simp)]
      have fin : wpAny (model X.prog X.w) X.A (setFlight (.ref a) X.env.frame) (fun _ s4 => wpAny (model X.prog X.w) X.A (throw (.ref a) : Sem Flow) (SP X pins D) X.xe s4) X.xe { s' with heap := h3 } := by
        rw [hf]
        exact HandSPX.setFlight_upZ fl3 fun h4 hh4 up4 => wpAny_throw (tk _ _ ⟨a, B, sI, pins, σ', H', cls, d, rfl, J, nb, (up.trans up3).trans up4, .inr (.inr (by rw [hs]; exact hh4)), na, os, ag, hno rfl⟩)
      first
        | exact wpAny_bind (wpAny_pure (wpAny_bind fin))
        | exact wpAny_bind fin
  · cases f with
    | next => obtain ⟨σ', H', J', q⟩ := hsp; exact wpAny_execs_nil ⟨σ', H', J'.ofTry ok, q⟩
    | brk => obtain ⟨σ', H', J', q⟩ := hsp; exact ⟨σ', H', J'.ofTry ok, q⟩
    | cont => obtain ⟨σ', H', J', q⟩ := hsp; exact ⟨σ', H', J'.ofTry ok, q⟩
    | ret u => obtain ⟨v, σ', H', J', r, q⟩ := hsp; exact ⟨v, σ', H', J'.ofTry ok, r, q⟩
end ZC

set_option Elab.async false
set_option linter.all false
set_option maxRecDepth 100000
set_option maxHeartbeats 4000000
/-! X12: instances: made, their methods, by promises where no repr is under way; count of truths. -/
namespace ZG
open PySem PySem.Spec PyProof.Rows L2
theorem ev_meth {o : Expr} {m : Str} {apos pos : Pos} {es : List Expr} {kws : List Keyword} {env : Env} (hbase : attributeBase o m env (eval o env) = eval o env) (hform : methodCallForm (es.length + kws.length) (backTo pos (starEach es env)) (backToKw pos (keywordEach kws env)) = true)
    (hl : (apos.endLine == pos.line) = true) : eval (.Call (.Attribute o m apos) es kws pos) env = (do
      let ov ← eval o env
      standAt apos.atName
      let (f, first) ← holding [ov] (getMethod ov m (plainOf o env))
      callWith pos f first (backTo pos (starEach es env)) (backToKw pos (keywordEach kws env))) := by
  rw [arm_eval_Call, hbase]
  simp only [mcall_line hform hl]
/-- how the values bind: ks the keywords' names, behind the places -/
def BindG (K : PySem.W.Frag) (fd : FuncData) (ps ks : List Str) (n : Nat) : Prop := ∀ (s : Shared) (us ws : List Value), K.In s.heap → us.length = n → ws.length = ks.length → BindsTo s fd ⟨us, ks.zip ws⟩ (ps.zip (us ++ ws))
section
variable {X : Cx} {k n : Nat} {C g : Addr} {fd : FuncData} {ps ks : List Str} {sp : Sp} {W : WX} {x m : Str} {p pos apos : Pos} {o e : Expr} {es : List Expr} {kws : List Keyword} {ta : TE} {t tk : TA}
theorem runK {pins : List (Addr × Obj)} {σ : L2.St} {H : Hp} {s : Shared} {Q : VK} {us ws : List Value} {vs zs : List V} (F : FnG X.prog X.w X.K X.mg X.base k g fd ps sp) (hr : Room k X.A) (gu : X.A.guards = some []) (hb : BindG X.K fd ps ks n) (tk : Takes X W)
    (I : Inv X pins σ H s) (rv : Vals vs us) (rz : Vals zs ws) (l1 : vs.length = n) (l2 : zs.length = ks.length) (h : sp (vs ++ zs) H Q (WE W σ)) : wpAny (model X.prog X.w) X.A (call (.ref g) us (ks.zip ws)) (EP X pins σ Q) X.xe s := by
  have b := hb s us ws I.kIn (rv.length.symm.trans l1) (rz.length.symm.trans l2)
  refine wpAny_call (codeAny_mono (F.go X.A hr gu X.stack s H ⟨us, ks.zip ws⟩ (us ++ ws) (vs ++ zs) Q (WE W σ) h (rv.append rz) b I.env0) fun res s' z => ?_)
  cases res with
  | error er => exact passAt tk σ pins H s er s' I z
  | ok fl => cases fl <;> first | exact I.after z | exact z.elim
def tMethG (C : Addr) (m : Str) (sp : Sp) (W : WX) (n j : Nat) (ta : TE) (t tk : TA) : TE := fun σ H Q => ta σ H fun x H1 => ∃ a dx fs, x = .ref a ∧ H1 a = some (.ins C dx fs) ∧ fs.lookup m = none ∧ t σ H1 fun vs H2 => tk σ H2 fun zs H3 => vs.length + 1 = n ∧ zs.length = j ∧ sp (.ref a :: vs ++ zs) H3 Q (WE W σ)
theorem meth_rest {pins : List (Addr × Obj)} {σ : L2.St} {Q : VK} {a : Addr} (F : FnG X.prog X.w X.K X.mg X.base k g fd ps sp) (hr : Room k X.A) (gu : X.A.guards = some []) (hb : BindG X.K fd ps ks n) (tk' : Takes X W) (hk : PK X kws tk)
    (hks : (backToKw pos (keywordEach kws X.env)).filterMap (·.1) = ks) (us : List Value) (s2 : Shared) (vs : List V) (H2 : Hp) (I2 : Inv X pins σ H2 s2) (rv : Vals vs us) (q2 : tk σ H2 (fun zs H3 => vs.length + 1 = n ∧ zs.length = ks.length ∧ sp (.ref a :: vs ++ zs) H3 Q (WE W σ))) :
    wpAny (model X.prog X.w) X.A (evalAll ((backToKw pos (keywordEach kws X.env)).map (·.2)))
      (fun kv s3 => X.K.In s3.heap ∧ wpAny (model X.prog X.w) X.A (call (.ref g) ([.ref a] ++ us) (((backToKw pos (keywordEach kws X.env)).filterMap (·.1)).zip kv)) (EP X pins σ Q) X.xe s3) X.xe s2 :=
  thn (hk.run pos pins s2 σ H2 _ I2 q2) fun ws s3 ⟨zs, H3, I3, rz, l1, l2, q3⟩ => ⟨I3.kIn, by
    rw [hks]
    exact runK (us := .ref a :: us) (vs := .ref a :: vs) F hr gu hb tk' I3 (.cons rfl rv) rz l1 l2 q3⟩
/-- o.m(e, .., k = v, ..) -/
theorem pe_methG (he : PE X o ta) (c : Cls X.K C) (hm : Meth X.K C m g) (F : FnG X.prog X.w X.K X.mg X.base k g fd ps sp) (hr : Room k X.A) (gu : X.A.guards = some []) (hb : BindG X.K fd ps ks n) (tk' : Takes X W) (ha : PA X (e :: es) t) (hk : PK X kws tk)
    (hks : (backToKw pos (keywordEach kws X.env)).filterMap (·.1) = ks) (hall : (backToKw pos (keywordEach kws X.env)).all (·.1.isSome) = true) (hst : starEach (e :: es) X.env = (false, eval e X.env) :: starEach es X.env)
    (hpl : ((backTo pos (starEach (e :: es) X.env)).any (·.1) || (backToKw pos (keywordEach kws X.env)).any (·.1.isNone)) = false) (hbase : attributeBase o m X.env (eval o X.env) = eval o X.env)
    (hform : methodCallForm ((e :: es).length + kws.length) (backTo pos (starEach (e :: es) X.env)) (backToKw pos (keywordEach kws X.env)) = true) (hl : (apos.endLine == pos.line) = true) : PE X (.Call (.Attribute o m apos) (e :: es) kws pos) (tMethG C m sp W n ks.length ta t tk) := by
  refine ⟨fun pins s σ H Q I h => PySem.W.methodCall_KW (pl := plainOf o X.env) (thn (he.run pins s σ H _ I h) fun u s1 ⟨y, H1, I1, ry, a, dx, fs, ex, ea, l, q⟩ => ?_) (ev_meth hbase hform hl)⟩
  subst ex
  cases ry
  exact getmeth_ok I1 ea c hm l (PySem.W.callWith_KW (first := [.ref a]) (h₀ := X.base) I.ok.mod.kin hm.kp hall (thn (ha.run pos pins s1 σ H1 _ I1 q) fun us s2 ⟨vs, H2, I2, rv, q2⟩ => meth_rest F hr gu hb tk' hk hks us s2 vs H2 I2 rv q2) hpl hst)
/-- o.m(k = v, ..) -/
theorem pe_methG0 (he : PE X o ta) (c : Cls X.K C) (hm : Meth X.K C m g) (F : FnG X.prog X.w X.K X.mg X.base k g fd ps sp) (hr : Room k X.A) (gu : X.A.guards = some []) (hb : BindG X.K fd ps ks n) (tk' : Takes X W) (hk : PK X kws tk)
    (hks : (backToKw pos (keywordEach kws X.env)).filterMap (·.1) = ks) (hall : (backToKw pos (keywordEach kws X.env)).all (·.1.isSome) = true) (hpl : ((backTo pos (starEach [] X.env)).any (·.1) || (backToKw pos (keywordEach kws X.env)).any (·.1.isNone)) = false)
    (hbase : attributeBase o m X.env (eval o X.env) = eval o X.env) (hform : methodCallForm (([] : List Expr).length + kws.length) (backTo pos (starEach [] X.env)) (backToKw pos (keywordEach kws X.env)) = true) (hl : (apos.endLine == pos.line) = true) :
    PE X (.Call (.Attribute o m apos) [] kws pos) (tMethG C m sp W n ks.length ta tNil tk) := by
  refine ⟨fun pins s σ H Q I h => PySem.W.methodCall_KW (pl := plainOf o X.env) (thn (he.run pins s σ H _ I h) fun u s1 ⟨y, H1, I1, ry, a, dx, fs, ex, ea, l, q⟩ => ?_) (ev_meth hbase hform hl)⟩
  subst ex
  cases ry
  exact getmeth_ok I1 ea c hm l (PySem.W.callWith_KW0 (first := [.ref a]) (h₀ := X.base) I.ok.mod.kin hm.kp hall (meth_rest F hr gu hb tk' hk hks [] s1 [] H1 I1 .nil q) hpl)
/-- C(e, ..) -/
theorem runMake {pins : List (Addr × Obj)} {σ : L2.St} {H : Hp} {s : Shared} {Q : VK} {us : List Value} {vs : List V} (M : Mk X.K C g) (F : FnG X.prog X.w X.K X.mg X.base k g fd ps sp) (hr : Room (k + 1) X.A) (gu : X.A.guards = some []) (hb : BindG X.K fd ps [] n) (tk : Takes X W) (I : Inv X pins σ H s) (rv : Vals vs us)
    (h : ∀ x dx, H x = none → H dx = none → dx ≠ x → vs.length + 1 = n ∧ sp (.ref x :: vs) (upd (upd H dx (.own x)) x (.ins C dx [])) (fun v H2 => v = .non ∧ Q (.ref x) H2) (WE W σ)) : wpAny (model X.prog X.w) X.A (call (.ref C) us) (EP X pins σ Q) X.xe s := by
  obtain ⟨l1, hq⟩ := h (s.heap.objs.size + 1) s.heap.objs.size (I.hok.fresh (Nat.le_succ _)) (I.hok.fresh (Nat.le_refl _)) (Nat.ne_of_lt (Nat.lt_succ_self _))
  have I2 := Inv.made (C := C) I
  have b := hb _ (Value.ref (s.heap.objs.size + 1) :: us) [] I2.kIn (by rw [List.length_cons, ← rv.length]; exact l1) rfl
  rw [List.append_nil] at b
  have gu2 : (X.A.under (.builtin "type.__call__" ⟨.ref C :: us, []⟩)).guards = some [] := by
    simp [Around.under, Code.guards, Code.isGuard, guardIds, pushGuards, gu]
  refine wpAny_call (make_map (f := g) I.kIn M.makes M.init (beq_iff_eq.mp M.fn) (codeAny_mono (F.go _ (hr.make C us []) gu2 X.stack _ _ ⟨Value.ref (s.heap.objs.size + 1) :: us, []⟩ (Value.ref (s.heap.objs.size + 1) :: us) (.ref (s.heap.objs.size + 1) :: vs) _ (WE W σ) hq (.cons rfl rv) b (I2.env0.make C us [])) fun res s' z => ?_))
  cases res with
  | error er => exact passAt tk σ pins _ _ er s' I2 z
  | ok fl =>
    cases fl <;> first | exact z.elim | skip
    obtain ⟨v, H', I3, rv3, ev, q3⟩ := I2.after z
    subst ev
    exact ⟨rv3, ⟨V.ref (s.heap.objs.size + 1), H', I3, rfl, q3⟩⟩
def tMakeG (C : Addr) (sp : Sp) (W : WX) (n : Nat) (t : TA) : TE := fun σ H Q => t σ H fun vs H1 => ∀ x dx, H1 x = none → H1 dx = none → dx ≠ x → vs.length + 1 = n ∧ sp (.ref x :: vs) (upd (upd H1 dx (.own x)) x (.ins C dx [])) (fun v H2 => v = .non ∧ Q (.ref x) H2) (WE W σ)
theorem pe_makeG (M : Mk X.K C g) (F : FnG X.prog X.w X.K X.mg X.base k g fd ps sp) (hr : Room (k + 1) X.A) (gu : X.A.guards = some []) (hg : Gl X x) (hm : X.mg x = some (.ref C)) (hb : BindG X.K fd ps [] n) (tk' : Takes X W) (ha : PA X (e :: es) t) (hdb : (x == ("__debug__" : Str)) = false)
    (hst : starEach (e :: es) X.env = (false, eval e X.env) :: starEach es X.env) (hpl : (backTo pos (starEach es X.env)).any (·.1) = false) : PE X (.Call (.Name x p) (e :: es) [] pos) (tMakeG C sp W n t) :=
  ⟨fun pins s σ H Q I h => wpAny_Call_Name_kw (ld_glob I hg hm (PySem.W.callWith_K (h₀ := X.base) I.ok.mod.kin M.kp (thn (ha.run pos pins s σ H _ I h) fun us s1 ⟨vs, H1, I1, rv, q⟩ => ⟨I1.kIn, runMake M F hr gu hb tk' I1 rv q⟩) hst hpl) hdb)⟩
end
/-! ### l.count(b) of truths -/
theorem mt_countB {X : Cx} : MtR X "list.count" (fun x xs H Q => ∃ (p : Addr) (bs : List Bool) (b : Bool), x = .ref p ∧ xs = [.bl b] ∧ SqL X.K H p (bs.map V.bl) ∧ Q (.int (bs.count b : Nat)) H) := by
  intro pins s σ H x xs v us Q I rx rxs h
  obtain ⟨p, bs, b, rfl, rfl, hs, q⟩ := h
  cases rx
  obtain ⟨u, rfl, ru⟩ := rxs.one
  cases ru
  obtain ⟨its, rv, ⟨⟨cls, dd, data, sl⟩, n, ho, hc, hdn, hd⟩, hlen⟩ := I.list hs
  simp only at hc hd
  subst hc hd
  have key : ∀ y, y ∈ its → ∃ c : Bool, y = .bool c := by
    intro y hy
    clear ho hs q hlen hdn
    induction bs generalizing its with
    | nil => cases rv; cases hy
    | cons c bs ih =>
      cases rv with
      | cons r rr =>
        rcases List.mem_cons.mp hy with e | e
        · cases r; exact ⟨c, e⟩
        · exact ih _ rr e
  have cnt : ∀ {bs : List Bool} {its : List Value}, Vals (bs.map V.bl) its → its.countP (fun y => decide (y = Value.bool b)) = bs.count b := by
    intro bs
    induction bs with
    | nil => intro its r; cases r; rfl
    | cons c bs ih =>
      intro its r
      cases r with
      | cons r rr =>
        cases r
        rw [List.countP_cons, ih rr, List.count_cons]
        congr 1
        cases c <;> cases b <;> simp
  refine call_meets PySem.F.slot_list_count ⟨_, ho, rfl⟩ PySem.F.entry_list_count (PySem.F.args_list_count_2 _ _) (SeqAt.list_countAt p its.toArray n dd sl (.bool b) (fun y => decide (y = Value.bool b))) ⟨ho, fun y hy => ?_, ?_⟩
  · obtain ⟨c, rfl⟩ := key y (by simpa using hy)
    have e : eqV (.bl c) (.bl b) = decide (Value.bool c = Value.bool b) := by cases c <;> cases b <;> rfl
    show SeqAt.EqAt _ _ (.bool c) (.bool b) (decide (Value.bool c = Value.bool b))
    rw [← e]
    exact eqAt_V rfl rfl rfl rfl
  · refine ⟨.int (bs.count b : Nat), H, I.tok _, ⟨s.toks, ?_⟩, q⟩
    show Value.int ((its.toArray.toList.countP _ : Nat) : Int) s.toks = _
    rw [show its.toArray.toList = its from rfl, cnt rv]
end ZG

set_option Elab.async false
set_option linter.all false
set_option maxRecDepth 100000
set_option maxHeartbeats 1600000
/-! X13: enumerate(zip(a, b)) of two tuples. -/
namespace ZS
open PySem PySem.Spec PyProof.Rows L2 RZ
open PySem.W (kdx_alive)
/-- a zip, its tuple out or not -/
abbrev IsZipR (h : Heap) (z TI TO : Addr) (f0 : Value) (f1 : Bool) : Prop :=
  h.get? z = some { cls := .type "zip", dict := none, data := .fields #[f0, .bool f1, .bool false, .ref TI, .ref TO], slots := #[] }
def IsZipU (h : Heap) (z TI TO : Addr) : Prop := ∃ f0 f1, IsZipR h z TI TO f0 f1 ∧ (f0 = .none ∨ ∃ T : Nat, f0 = rawInt T)
def ZSt (z TI TO i1 i2 a b : Addr) (i : Nat) (h : Heap) : Prop := IsZipU h z TI TO ∧ IsPair h TI (.ref i1) (.ref i2) ∧ (∃ x y, IsPair h TO x y) ∧ h.IsTupleIter i1 a i ∧ h.IsTupleIter i2 b i
section
variable {prog : Program} {w : World} {A : Around} {E : Value → Shared → Prop} {s : Shared} {z TI TO i1 i2 a b : Addr} {i : Nat} {xs ys : Array Value} {x y : Value}
theorem alive_ {a : Addr} {Q : Option Obj → Shared → Prop} (h : Q (s.heap.get? a) s) : wpAny (model prog w) A (loadIfAlive a) Q E s := fun _ _ _ => h
theorem zipU_free {Q : Bool → Shared → Prop} (hz : IsZipU s.heap z TI TO) (h : ∀ r h' f0 f1, IsZipR h' z TI TO f0 f1 → (f0 = .none ∨ ∃ T : Nat, f0 = rawInt T) → Heap.SameBut z s.heap h' → Q r { s with heap := h' }) : wpAny (model prog w) A (Builtin.SmallTypes.ownedTupleIsFree (.ref z)) Q E s := by
  obtain ⟨f0, f1, hz, hf⟩ := hz
  unfold Builtin.SmallTypes.ownedTupleIsFree
  refine wpAny_bind (wpAny_field hz rfl (x := f0) rfl ?_)
  rcases hf with rfl | ⟨T, rfl⟩
  · exact wpAny_pure (h true s.heap .none f1 hz (.inl rfl) (Heap.SameBut.refl _ _))
  · show wpAny _ _ (loadIfAlive ((T : Int).toNat) >>= _) _ _ _
    rw [Int.toNat_natCast]
    refine wpAny_bind (alive_ ?_)
    cases q : s.heap.get? T with
    | none =>
      simp only [Option.isNone_none, if_true]
      exact wpAny_pure (h true s.heap _ f1 hz (.inr ⟨T, rfl⟩) (Heap.SameBut.refl _ _))
    | some oT =>
      simp only [Option.isNone_some, Bool.false_eq_true, if_false]
      refine wpAny_bind (wpAny_field hz rfl (x := .bool f1) rfl ?_)
      cases f1 with
      | true =>
        rw [if_neg (show ¬ ((Value.bool true != Value.bool true) = true) from Bool.false_ne_true)]
        exact wpAny_pure (h false s.heap _ _ hz (.inr ⟨T, rfl⟩) (Heap.SameBut.refl _ _))
      | false =>
        rw [if_pos (show (Value.bool false != Value.bool true) = true from rfl)]
        exact wpAny_bind (wpAny_setField_rec hz (by simp) fun h₁ hz₁ hs₁ => wpAny_pure (h false h₁ _ true hz₁ (.inr ⟨T, rfl⟩) hs₁))
theorem zipU_item {Q : Value → Shared → Prop} (D : ZipApart z TI TO i1 i2 a b) (st : ZSt z TI TO i1 i2 a b i s.heap) (hl1 : s.heap.IsTuple a xs) (hl2 : s.heap.IsTuple b ys) (hx : xs[i]? = some x) (hy : ys[i]? = some y)
    (hQ : ∀ h', ZSt z TI TO i1 i2 a b (i + 1) h' → IsPair h' s.heap.objs.size x y → h'.objs.size = s.heap.objs.size + 1 →
      (∀ c o, c ≠ z → c ≠ TO → c ≠ i1 → c ≠ i2 → s.heap.get? c = some o → h'.get? c = some o) → Q (.ref s.heap.objs.size) { s with heap := h' }) :
    wpAny (model prog w) A (Builtin.«zip.__next__» ⟨[.ref z], []⟩) (fun fin s' => ∃ v, fin = .done (.ret v) ∧ Q v s') E s := by
  obtain ⟨hzU, hTI, ⟨x0, y0, hTO⟩, h1, h2⟩ := st
  obtain ⟨f0, f1, hz, hf0⟩ := id hzU
  show wpAny _ _ (field (.ref z) 2 >>= _) _ _ _
  refine wpAny_bind (wpAny_field hz rfl (x := .bool false) rfl ?_)
  show wpAny _ _ (field (.ref z) 3 >>= _) _ _ _
  refine wpAny_bind (wpAny_field hz rfl (x := .ref TI) rfl ?_)
  refine wpAny_bind (wpAny_seqItems hTI rfl ?_)
  show wpAny _ _ (Builtin.SmallTypes.ownedTupleIsFree (.ref z) >>= _) _ _ _
  refine wpAny_bind (zipU_free hzU fun r h₀ g0 g1 hz₀ hg₀ hs₀ => ?_)
  have hTI₀ := hs₀.extBut _ _ D.TIz hTI
  have hTO₀ := hs₀.extBut _ _ D.TOz hTO
  have h1₀ := h1.extBut hs₀.extBut D.i1z
  have h2₀ := h2.extBut hs₀.extBut D.i2z
  have hl1₀ := hl1.extBut hs₀.extBut D.l1z
  have hl2₀ := hl2.extBut hs₀.extBut D.l2z
  cases r with
  | true =>
    simp only [if_true]
    refine wpAny_bind (wpAny_rule ?_)
    refine wpAny_bind (wpAny_field hz₀ rfl (x := .ref TO) rfl ?_)
    refine wpAny_bind (wpAny_setField_rec hz₀ (by simp) fun h₁ hz₁ hs₁ => ?_)
    replace hz₁ : IsZipR h₁ z TI TO .ellipsis g1 := hz₁
    refine wpAny_bind ?_
    simp only [List.zipIdx_cons, List.zipIdx_nil, List.forIn_cons, List.forIn_nil]
    refine wpAny_bind (wpAny_bind (wpAny_onRaise ?_))
    show wpAny _ _ (Builtin.SmallTypes.nextOf (.ref i1) >>= _) _ _ _
    refine wpAny_bind (nextOf_tuple_item (h1₀.extBut hs₁.extBut D.i1z) (hl1₀.extBut hs₁.extBut D.l1z) hx fun h₂ h1₂ hs₂ => wpAny_pure ?_)
    have hTO₂ : IsPair h₂ TO x0 y0 := hs₂.extBut _ _ D.TOi1 (hs₁.extBut _ _ D.TOz hTO₀)
    refine wpAny_bind (wpAny_seqItems hTO₂ rfl ?_)
    refine wpAny_bind (wpAny_updateSeq_pair hTO₂ fun h₃ hTO₃ hs₃ => ?_)
    replace hTO₃ : IsPair h₃ TO x y0 := hTO₃
    refine wpAny_bind (wpAny_letGo (wpAny_pure ?_))
    refine wpAny_bind (wpAny_bind (wpAny_onRaise ?_))
    show wpAny _ _ (Builtin.SmallTypes.nextOf (.ref i2) >>= _) _ _ _
    refine wpAny_bind (nextOf_tuple_item (((h2₀.extBut hs₁.extBut D.i2z).extBut hs₂.extBut D.i12.symm).extBut hs₃.extBut D.TOi2.symm)
      (((hl2₀.extBut hs₁.extBut D.l2z).extBut hs₂.extBut D.l2i1).extBut hs₃.extBut D.l2TO) hy fun h₄ h2₄ hs₄ => wpAny_pure ?_)
    have hTO₄ : IsPair h₄ TO x y0 := hs₄.extBut _ _ D.TOi2 hTO₃
    refine wpAny_bind (wpAny_seqItems hTO₄ rfl ?_)
    refine wpAny_bind (wpAny_updateSeq_pair hTO₄ fun h₅ hTO₅ hs₅ => ?_)
    replace hTO₅ : IsPair h₅ TO x y := hTO₅
    refine wpAny_bind (wpAny_letGo (wpAny_pure (wpAny_pure ?_)))
    refine wpAny_bind (wpAny_seqItems hTO₅ rfl ?_)
    refine wpAny_bind (wpAny_newTuple ?_)
    have hsz : h₅.objs.size = s.heap.objs.size := by rw [hs₅.1, hs₄.1, hs₃.1, hs₂.1, hs₁.1, hs₀.1]
    have hz₅ : IsZipR h₅ z TI TO .ellipsis g1 := hs₅.extBut _ _ D.TOz.symm (hs₄.extBut _ _ D.i2z.symm (hs₃.extBut _ _ D.TOz.symm (hs₂.extBut _ _ D.i1z.symm hz₁)))
    have hk₅ : ∀ c o, c ≠ z → c ≠ TO → c ≠ i1 → c ≠ i2 → s.heap.get? c = some o → h₅.get? c = some o := fun c o c1 c2 c3 c4 e =>
      hs₅.extBut _ _ c2 (hs₄.extBut _ _ c4 (hs₃.extBut _ _ c2 (hs₂.extBut _ _ c3 (hs₁.extBut _ _ c1 (hs₀.extBut _ _ c1 e)))))
    have h1₅ : h₅.IsTupleIter i1 a (i + 1) := ((h1₂.extBut hs₃.extBut D.TOi1.symm).extBut hs₄.extBut D.i12).extBut hs₅.extBut D.TOi1.symm
    have h2₅ : h₅.IsTupleIter i2 b (i + 1) := h2₄.extBut hs₅.extBut D.TOi2.symm
    have hzlt : z < h₅.objs.size := Heap.lt_size hz₅
    show wpAny _ _ (Builtin.SmallTypes.ownedTupleHandOut (.ref z) (.ref h₅.objs.size) >>= _) _ _ _
    refine wpAny_bind ?_
    unfold Builtin.SmallTypes.ownedTupleHandOut
    have hz₆ : IsZipR (h₅.push { cls := .type "tuple", data := .seq #[x, y] }) z TI TO .ellipsis g1 := Heap.get?_push_of_some _ hz₅
    refine wpAny_bind (wpAny_setField_rec hz₆ (by simp) fun h₇ hz₇ hs₇ => ?_)
    replace hz₇ : IsZipR h₇ z TI TO (rawInt h₅.objs.size) g1 := hz₇
    refine wpAny_setField_rec hz₇ (by simp) fun h₈ hz₈ hs₈ => ?_
    replace hz₈ : IsZipR h₈ z TI TO (rawInt h₅.objs.size) false := hz₈
    have up : ∀ c o, c ≠ z → h₅.get? c = some o → h₈.get? c = some o := fun c o c1 e => hs₈.extBut _ _ c1 (hs₇.extBut _ _ c1 (Heap.get?_push_of_some _ e))
    have hT₈ : IsPair h₈ h₅.objs.size x y := hs₈.extBut _ _ (Nat.ne_of_gt hzlt) (hs₇.extBut _ _ (Nat.ne_of_gt hzlt) (Heap.get?_push_size _ rfl))
    have hz8 : h₈.objs.size = h₅.objs.size + 1 := by rw [hs₈.1, hs₇.1, Heap.size_push]
    have hTI₅ : IsPair h₅ TI (.ref i1) (.ref i2) := hk₅ _ _ D.TIz D.TITO D.TIi1 D.TIi2 hTI
    rw [hsz] at hT₈ hz8
    refine wpAny_pure ⟨_, rfl, ?_⟩
    show Q (.ref h₅.objs.size) _
    have hq := hQ h₈ ⟨⟨_, _, hz₈, .inr ⟨_, rfl⟩⟩, up _ _ D.TIz hTI₅, ⟨_, _, up _ _ D.TOz hTO₅⟩, h1₅.at fun o e => up _ o D.i1z e, h2₅.at fun o e => up _ o D.i2z e⟩ hT₈ hz8 fun c o c1 c2 c3 c4 e => up c o c1 (hk₅ c o c1 c2 c3 c4 e)
    rw [hsz]
    exact hq
  | false =>
    simp only [Bool.false_eq_true, if_false]
    refine wpAny_bind ?_
    rw [← Array.forIn_toList]
    simp only [List.forIn_cons, List.forIn_nil]
    refine wpAny_bind (wpAny_bind (wpAny_holding ?_))
    show wpAny _ _ (Builtin.SmallTypes.nextOf (.ref i1) >>= _) _ _ _
    refine wpAny_bind (nextOf_tuple_item (s := { s with heap := h₀ }) h1₀ hl1₀ hx fun h₂ h1₂ hs₂ => wpAny_pure ?_)
    refine wpAny_pure ?_
    refine wpAny_bind (wpAny_bind (wpAny_holding ?_))
    show wpAny _ _ (Builtin.SmallTypes.nextOf (.ref i2) >>= _) _ _ _
    refine wpAny_bind (nextOf_tuple_item (s := { s with heap := h₂ }) (h2₀.extBut hs₂.extBut D.i12.symm) (hl2₀.extBut hs₂.extBut D.l2i1) hy fun h₃ h2₃ hs₃ => wpAny_pure ?_)
    refine wpAny_pure (wpAny_pure ?_)
    show wpAny _ _ (newTuple [x, y] >>= _) _ _ _
    refine wpAny_bind (wpAny_newTuple ?_)
    have hsz : h₃.objs.size = s.heap.objs.size := by rw [hs₃.1, hs₂.1, hs₀.1]
    have hz₃ : IsZipR h₃ z TI TO g0 g1 := hs₃.extBut _ _ D.i2z.symm (hs₂.extBut _ _ D.i1z.symm hz₀)
    have hk : ∀ c o, c ≠ z → c ≠ i1 → c ≠ i2 → s.heap.get? c = some o → h₃.get? c = some o := fun c o c1 c2 c3 e => hs₃.extBut _ _ c3 (hs₂.extBut _ _ c2 (hs₀.extBut _ _ c1 e))
    have h1₃ : h₃.IsTupleIter i1 a (i + 1) := h1₂.extBut hs₃.extBut D.i12
    refine wpAny_pure ⟨_, rfl, ?_⟩
    show Q (.ref h₃.objs.size) _
    have hp : IsPair (h₃.push { cls := .type "tuple", data := .seq #[x, y] }) h₃.objs.size x y := Heap.get?_push_size _ rfl
    have hz4 : (h₃.push { cls := .type "tuple", data := .seq #[x, y] }).objs.size = h₃.objs.size + 1 := Heap.size_push ..
    rw [hsz] at hp hz4 ⊢
    exact hQ _ ⟨⟨_, _, Heap.get?_push_of_some _ hz₃, hg₀⟩, Heap.get?_push_of_some _ (hk _ _ D.TIz D.TIi1 D.TIi2 hTI), ⟨_, _, Heap.get?_push_of_some _ (hk _ _ D.TOz D.TOi1 D.TOi2 hTO)⟩, h1₃.at fun o e => Heap.get?_push_of_some _ e, h2₃.at fun o e => Heap.get?_push_of_some _ e⟩ hp hz4 fun c o c1 _ c2 c3 e => Heap.get?_push_of_some _ (hk c o c1 c2 c3 e)
theorem zipU_end {Q : Fin → Shared → Prop} (hh : A.handled = none) (D : ZipApart z TI TO i1 i2 a b) (st : ZSt z TI TO i1 i2 a b i s.heap) (hl1 : s.heap.IsTuple a xs) (hl2 : s.heap.IsTuple b ys) (hend : xs[i]? = none ∨ ys[i]? = none)
    (hE : ∀ h' e, (∀ c o, c ≠ z → c ≠ TO → c ≠ i1 → c ≠ i2 → s.heap.get? c = some o → h'.get? c = some o) → (∃ o, h'.get? e = some o ∧ o.cls = .type "StopIteration") → E (.ref e) { s with heap := h' }) :
    wpAny (model prog w) A (Builtin.«zip.__next__» ⟨[.ref z], []⟩) Q E s := by
  obtain ⟨hzU, hTI, ⟨x0, y0, hTO⟩, h1, h2⟩ := st
  obtain ⟨f0, f1, hz, hf0⟩ := id hzU
  show wpAny _ _ (field (.ref z) 2 >>= _) _ _ _
  refine wpAny_bind (wpAny_field hz rfl (x := .bool false) rfl ?_)
  show wpAny _ _ (field (.ref z) 3 >>= _) _ _ _
  refine wpAny_bind (wpAny_field hz rfl (x := .ref TI) rfl ?_)
  refine wpAny_bind (wpAny_seqItems hTI rfl ?_)
  show wpAny _ _ (Builtin.SmallTypes.ownedTupleIsFree (.ref z) >>= _) _ _ _
  refine wpAny_bind (zipU_free hzU fun r h₀ g0 g1 hz₀ hg₀ hs₀ => ?_)
  have hTO₀ := hs₀.extBut _ _ D.TOz hTO
  have h1₀ := h1.extBut hs₀.extBut D.i1z
  have h2₀ := h2.extBut hs₀.extBut D.i2z
  have hl1₀ := hl1.extBut hs₀.extBut D.l1z
  have hl2₀ := hl2.extBut hs₀.extBut D.l2z
  cases r with
  | true =>
    simp only [if_true]
    refine wpAny_bind (wpAny_rule ?_)
    refine wpAny_bind (wpAny_field hz₀ rfl (x := .ref TO) rfl ?_)
    refine wpAny_bind (wpAny_setField_rec hz₀ (by simp) fun h₁ hz₁ hs₁ => ?_)
    replace hz₁ : IsZipR h₁ z TI TO .ellipsis g1 := hz₁
    refine wpAny_bind ?_
    simp only [List.zipIdx_cons, List.zipIdx_nil, List.forIn_cons, List.forIn_nil]
    refine wpAny_bind (wpAny_bind (wpAny_onRaise ?_))
    show wpAny _ _ (Builtin.SmallTypes.nextOf (.ref i1) >>= _) _ _ _
    cases hx : xs[i]? with
    | none =>
      refine wpAny_bind (nextOf_tuple_end hh (h1₀.extBut hs₁.extBut D.i1z) (hl1₀.extBut hs₁.extBut D.l1z) hx fun h₂ e hs₂ he => ?_)
      obtain ⟨oe, hoe, hce⟩ := he
      have hz₂ : IsZipR h₂ z TI TO .ellipsis g1 := hs₂ _ _ D.i1z.symm hz₁
      have hez : e ≠ z := fun x => by subst x; rw [hz₂] at hoe; cases hoe; simp at hce
      refine wpAny_setField_rec hz₂ (by simp) fun h₃ _ hs₃ => hE h₃ e (fun c o c1 c2 c3 _ x => hs₃.extBut _ _ c1 (hs₂ _ _ c3 (hs₁.extBut _ _ c1 (hs₀.extBut _ _ c1 x)))) ⟨oe, hs₃.extBut _ _ hez hoe, hce⟩
    | some x =>
      have hy : ys[i]? = none := by rcases hend with h | h; rw [hx] at h; cases h; exact h
      refine wpAny_bind (nextOf_tuple_item (h1₀.extBut hs₁.extBut D.i1z) (hl1₀.extBut hs₁.extBut D.l1z) hx fun h₂ h1₂ hs₂ => wpAny_pure ?_)
      have hTO₂ : IsPair h₂ TO x0 y0 := hs₂.extBut _ _ D.TOi1 (hs₁.extBut _ _ D.TOz hTO₀)
      refine wpAny_bind (wpAny_seqItems hTO₂ rfl ?_)
      refine wpAny_bind (wpAny_updateSeq_pair hTO₂ fun h₃ hTO₃ hs₃ => ?_)
      refine wpAny_bind (wpAny_letGo (wpAny_pure ?_))
      refine wpAny_bind (wpAny_bind (wpAny_onRaise ?_))
      show wpAny _ _ (Builtin.SmallTypes.nextOf (.ref i2) >>= _) _ _ _
      refine wpAny_bind (nextOf_tuple_end hh (((h2₀.extBut hs₁.extBut D.i2z).extBut hs₂.extBut D.i12.symm).extBut hs₃.extBut D.TOi2.symm)
        (((hl2₀.extBut hs₁.extBut D.l2z).extBut hs₂.extBut D.l2i1).extBut hs₃.extBut D.l2TO) hy fun h₄ e hs₄ he => ?_)
      obtain ⟨oe, hoe, hce⟩ := he
      have hz₄ : IsZipR h₄ z TI TO .ellipsis g1 := hs₄ _ _ D.i2z.symm (hs₃.extBut _ _ D.TOz.symm (hs₂.extBut _ _ D.i1z.symm hz₁))
      have hez : e ≠ z := fun x => by subst x; rw [hz₄] at hoe; cases hoe; simp at hce
      refine wpAny_setField_rec hz₄ (by simp) fun h₅ _ hs₅ => hE h₅ e (fun c o c1 c2 c3 c4 x => hs₅.extBut _ _ c1 (hs₄ _ _ c4 (hs₃.extBut _ _ c2 (hs₂.extBut _ _ c3 (hs₁.extBut _ _ c1 (hs₀.extBut _ _ c1 x)))))) ⟨oe, hs₅.extBut _ _ hez hoe, hce⟩
  | false =>
    simp only [Bool.false_eq_true, if_false]
    refine wpAny_bind ?_
    rw [← Array.forIn_toList]
    simp only [List.forIn_cons, List.forIn_nil]
    refine wpAny_bind (wpAny_bind (wpAny_holding ?_))
    show wpAny _ _ (Builtin.SmallTypes.nextOf (.ref i1) >>= _) _ _ _
    cases hx : xs[i]? with
    | none =>
      refine wpAny_bind (nextOf_tuple_end (s := { s with heap := h₀ }) hh h1₀ hl1₀ hx fun h₂ e hs₂ he => ?_)
      exact hE h₂ e (fun c o c1 _ c2 _ x => hs₂ _ _ c2 (hs₀.extBut _ _ c1 x)) he
    | some x =>
      have hy : ys[i]? = none := by rcases hend with h | h; rw [hx] at h; cases h; exact h
      refine wpAny_bind (nextOf_tuple_item (s := { s with heap := h₀ }) h1₀ hl1₀ hx fun h₂ h1₂ hs₂ => wpAny_pure ?_)
      refine wpAny_pure ?_
      refine wpAny_bind (wpAny_bind (wpAny_holding ?_))
      show wpAny _ _ (Builtin.SmallTypes.nextOf (.ref i2) >>= _) _ _ _
      refine wpAny_bind (nextOf_tuple_end (s := { s with heap := h₂ }) hh (h2₀.extBut hs₂.extBut D.i12.symm) (hl2₀.extBut hs₂.extBut D.l2i1) hy fun h₃ e hs₃ he => ?_)
      exact hE h₃ e (fun c o c1 _ c2 c3 x => hs₃ _ _ c3 (hs₂.extBut _ _ c2 (hs₀.extBut _ _ c1 x))) he
/-- the places of an enumerate over a zip lie apart -/
structure EzApart (e z TI TO i1 i2 a b : Addr) : Prop extends ZipApart z TI TO i1 i2 a b where
  ez : e ≠ z
  eTI : e ≠ TI
  eTO : e ≠ TO
  ei1 : e ≠ i1
  ei2 : e ≠ i2
  ea : a ≠ e
  eb : b ≠ e
theorem ZSt.at_ {h h' : Heap} (st : ZSt z TI TO i1 i2 a b i h) (k : ∀ c o, c = z ∨ c = TI ∨ c = TO ∨ c = i1 ∨ c = i2 → h.get? c = some o → h'.get? c = some o) : ZSt z TI TO i1 i2 a b i h' := by
  obtain ⟨⟨f0, f1, hz, hf⟩, hTI, ⟨x, y, hTO⟩, h1, h2⟩ := st
  exact ⟨⟨f0, f1, k _ _ (.inl rfl) hz, hf⟩, k _ _ (.inr (.inl rfl)) hTI, ⟨x, y, k _ _ (.inr (.inr (.inl rfl))) hTO⟩, h1.at fun o e => k _ o (.inr (.inr (.inr (.inl rfl)))) e, h2.at fun o e => k _ o (.inr (.inr (.inr (.inr rfl)))) e⟩
theorem enZ_next_item {e : Addr} {old : Value} {Q : Value → Shared → Prop} (D : EzApart e z TI TO i1 i2 a b) (he : IsEnum s.heap e z (i : Int) old) (st : ZSt z TI TO i1 i2 a b i s.heap) (hl1 : s.heap.IsTuple a xs) (hl2 : s.heap.IsTuple b ys) (hx : xs[i]? = some x) (hy : ys[i]? = some y)
    (hQ : ∀ h' tk, IsEnumOut h' e z ((i : Int) + 1) (.ref s.heap.objs.size) (s.heap.objs.size + 1) → ZSt z TI TO i1 i2 a b (i + 1) h' → IsPair h' s.heap.objs.size x y →
      h'.get? (s.heap.objs.size + 1) = some { cls := .type "tuple", data := .seq #[.int i tk, .ref s.heap.objs.size] } → h'.objs.size = s.heap.objs.size + 2 →
      (∀ c o, c ≠ e → c ≠ z → c ≠ TO → c ≠ i1 → c ≠ i2 → s.heap.get? c = some o → h'.get? c = some o) → Q (.ref (s.heap.objs.size + 1)) { s with heap := h', toks := tk + 1 }) :
    wpAny (model prog w) A (Builtin.«enumerate.__next__» ⟨[.ref e], []⟩) (fun fin s' => ∃ v, fin = .done (.ret v) ∧ Q v s') E s := by
  obtain ⟨hp, g, d, tk, os⟩ := s
  have hzT : (⟨hp, g, d, tk, os⟩ : Shared).TypeIs (.ref z) "zip" := by obtain ⟨⟨f0, f1, hz, _⟩, _⟩ := st; exact ⟨_, hz, rfl⟩
  show wpAny _ _ (field (.ref e) 2 >>= _) _ _ _
  refine wpAny_bind (wpAny_field he rfl (x := .ref z) rfl ?_)
  refine wpAny_bind ?_
  unfold Builtin.SmallTypes.nextOf
  refine wpAny_bind (wpAny_callSpecial?_slot (name := Str.ofString "__next__") hzT F.slot_zip_next
    (wpAny_call_entry F.slot_zip_next hzT F.entry_zip_next (zipU_item D.toZipApart st hl1 hl2 hx hy fun h₁ st₁ hT₁ hsz₁ hk₁ => ?_) (F.args_zip_next_1 _)))
  refine wpAny_pure ?_
  have he₁ : IsEnum h₁ e z i old := hk₁ _ _ D.ez D.eTO D.ei1 D.ei2 he
  show wpAny _ _ (field (.ref e) 3 >>= _) _ _ ⟨h₁, g, d, tk, os⟩
  refine wpAny_bind (wpAny_field he₁ rfl (x := rawInt i) rfl ?_)
  show wpAny _ _ (field (.ref e) 4 >>= _) _ _ ⟨h₁, g, d, tk, os⟩
  refine wpAny_bind (wpAny_field he₁ rfl (x := .none) rfl ?_)
  show wpAny _ _ (mkInt i >>= _) _ _ ⟨h₁, g, d, tk, os⟩
  refine wpAny_bind (wpAny_mkInt ?_)
  show wpAny _ _ (setField (.ref e) 3 (rawInt ((i : Int) + 1)) >>= _) _ _ ⟨h₁, g, d, tk + 1, os⟩
  refine wpAny_bind (wpAny_setField_rec he₁ (by simp) fun h₂ he₂ hs₂ => ?_)
  replace hs₂ : Heap.SameBut e h₁ h₂ := hs₂
  replace he₂ : IsEnum h₂ e z ((i : Int) + 1) old := he₂
  show wpAny _ _ (setField (.ref e) 4 .none >>= _) _ _ ⟨h₂, g, d, tk + 1, os⟩
  refine wpAny_bind (wpAny_setField_rec he₂ (by simp) fun h₃ he₃ hs₃ => ?_)
  replace hs₃ : Heap.SameBut e h₂ h₃ := hs₃
  replace he₃ : IsEnum h₃ e z ((i : Int) + 1) old := he₃
  show wpAny _ _ (newTuple [.int i tk, .ref hp.objs.size] >>= _) _ _ ⟨h₃, g, d, tk + 1, os⟩
  refine wpAny_bind (wpAny_newTuple ?_)
  have he₄ : IsEnum (h₃.push { cls := .type "tuple", data := .seq #[.int i tk, .ref hp.objs.size] }) e z ((i : Int) + 1) old := Heap.get?_push_of_some _ he₃
  generalize hh₄ : h₃.push { cls := .type "tuple", data := .seq #[.int i tk, .ref hp.objs.size] } = h₄ at he₄
  replace hsz₁ : h₁.objs.size = hp.objs.size + 1 := hsz₁
  have hsz : h₃.objs.size = hp.objs.size + 1 := by rw [hs₃.1, hs₂.1, hsz₁]
  have hel : e < hp.objs.size := Heap.lt_size he
  have ht₄ : h₄.get? (hp.objs.size + 1) = some { cls := .type "tuple", data := .seq #[.int i tk, .ref hp.objs.size] } := by rw [← hh₄, ← hsz]; exact Heap.get?_push_size _ rfl
  have hz₄ : h₄.objs.size = hp.objs.size + 2 := by rw [← hh₄, Heap.size_push, hsz]
  have up₄ : ∀ c o, c ≠ e → h₁.get? c = some o → h₄.get? c = some o := fun c o hbe hb => by
    rw [← hh₄]; exact Heap.get?_push_of_some _ (hs₃.extBut c o hbe (hs₂.extBut c o hbe hb))
  have ene : ∀ {c}, c = z ∨ c = TI ∨ c = TO ∨ c = i1 ∨ c = i2 → c ≠ e := fun {c} q z' => by
    subst z'
    rcases q with q | q | q | q | q
    · exact D.ez q
    · exact D.eTI q
    · exact D.eTO q
    · exact D.ei1 q
    · exact D.ei2 q
  have st₄ : ZSt z TI TO i1 i2 a b (i + 1) h₄ := st₁.at_ fun c o q => up₄ c o (ene q)
  have hT₄ : IsPair h₄ hp.objs.size x y := up₄ _ _ (Nat.ne_of_gt hel) hT₁
  show wpAny _ _ (Builtin.SmallTypes.ownedTupleIsFree (.ref e) >>= _) _ _ ⟨h₄, g, d, tk + 1, os⟩
  rw [hsz]
  refine wpAny_bind ?_
  · unfold Builtin.SmallTypes.ownedTupleIsFree
    refine wpAny_bind (wpAny_field he₄ rfl (x := .none) rfl (wpAny_pure ?_))
    simp only [if_true]
    refine wpAny_bind (wpAny_rule ?_)
    refine wpAny_bind (wpAny_field he₄ rfl (x := old) rfl ?_)
    refine wpAny_bind (wpAny_setField_rec he₄ (by simp) fun h₅ he₅ hs₅ => ?_)
    replace hs₅ : Heap.SameBut e h₄ h₅ := hs₅
    replace he₅ : IsEnum h₅ e z ((i : Int) + 1) (.ref hp.objs.size) := he₅
    show wpAny _ _ (Builtin.SmallTypes.ownedTupleHandOut (.ref e) (.ref (hp.objs.size + 1)) >>= _) _ _ ⟨h₅, g, d, tk + 1, os⟩
    refine wpAny_bind ?_
    · unfold Builtin.SmallTypes.ownedTupleHandOut
      refine wpAny_bind (wpAny_setField_rec he₅ (by simp) fun h₆ he₆ hs₆ => ?_)
      replace hs₆ : Heap.SameBut e h₅ h₆ := hs₆
      replace he₆ : IsEnumOut h₆ e z ((i : Int) + 1) (.ref hp.objs.size) (hp.objs.size + 1) := he₆
      refine wpAny_setField_rec he₆ (by simp) fun h₇ he₇ hs₇ => ?_
      replace hs₇ : Heap.SameBut e h₆ h₇ := hs₇
      replace he₇ : IsEnumOut h₇ e z ((i : Int) + 1) (.ref hp.objs.size) (hp.objs.size + 1) := he₇
      have up₇ : ∀ c o, c ≠ e → h₄.get? c = some o → h₇.get? c = some o := fun c o hbe hb => hs₇.extBut c o hbe (hs₆.extBut c o hbe (hs₅.extBut c o hbe hb))
      refine wpAny_bind (wpAny_letGo (wpAny_pure ⟨_, rfl, hQ h₇ tk he₇ (st₄.at_ fun c o q => up₇ c o (ene q)) (up₇ _ _ (Nat.ne_of_gt hel) hT₄) (up₇ _ _ (Nat.ne_of_gt (Nat.lt_succ_of_lt hel)) ht₄) ?_ ?_⟩))
      · rw [hs₇.1, hs₆.1, hs₅.1, hz₄]
      · exact fun c o c0 c1 c2 c3 c4 hb => up₇ c o c0 (up₄ c o c0 (hk₁ c o c1 c2 c3 c4 hb))
theorem pyNext_enZ_item {e : Addr} {old : Value} {Q : Option Value → Shared → Prop} (D : EzApart e z TI TO i1 i2 a b) (he : IsEnum s.heap e z (i : Int) old) (st : ZSt z TI TO i1 i2 a b i s.heap) (hl1 : s.heap.IsTuple a xs) (hl2 : s.heap.IsTuple b ys) (hx : xs[i]? = some x) (hy : ys[i]? = some y)
    (hQ : ∀ h' tk, IsEnumOut h' e z ((i : Int) + 1) (.ref s.heap.objs.size) (s.heap.objs.size + 1) → ZSt z TI TO i1 i2 a b (i + 1) h' → IsPair h' s.heap.objs.size x y →
      h'.get? (s.heap.objs.size + 1) = some { cls := .type "tuple", data := .seq #[.int i tk, .ref s.heap.objs.size] } → h'.objs.size = s.heap.objs.size + 2 →
      (∀ c o, c ≠ e → c ≠ z → c ≠ TO → c ≠ i1 → c ≠ i2 → s.heap.get? c = some o → h'.get? c = some o) → Q (some (.ref (s.heap.objs.size + 1))) { s with heap := h', toks := tk + 1 }) :
    wpAny (model prog w) A (pyNext (.ref e)) Q E s := by
  have hT : s.TypeIs (.ref e) "enumerate" := ⟨_, he, rfl⟩
  unfold pyNext
  exact wpAny_bind (wpAny_attempt (wpAny_callSpecial?_slot (name := Str.ofString "__next__") hT F.slot_enumerate_next
    (wpAny_call_entry F.slot_enumerate_next hT F.entry_enumerate_next
      (enZ_next_item D he st hl1 hl2 hx hy fun h' tk a1 a2 a3 a4 a5 a6 => wpAny_pure (hQ h' tk a1 a2 a3 a4 a5 a6)) (F.args_enumerate_next_1 _))))
theorem pyNext_enZ_end {e : Addr} {old : Value} {Q : Option Value → Shared → Prop} (hh : A.handled = none) (D : EzApart e z TI TO i1 i2 a b) (he : IsEnum s.heap e z (i : Int) old) (st : ZSt z TI TO i1 i2 a b i s.heap) (hl1 : s.heap.IsTuple a xs) (hl2 : s.heap.IsTuple b ys) (hend : xs[i]? = none ∨ ys[i]? = none)
    (hQ : ∀ h', (∀ c o, c ≠ z → c ≠ TO → c ≠ i1 → c ≠ i2 → s.heap.get? c = some o → h'.get? c = some o) → Q none { s with heap := h' }) : wpAny (model prog w) A (pyNext (.ref e)) Q E s := by
  have hT : s.TypeIs (.ref e) "enumerate" := ⟨_, he, rfl⟩
  have hzT : s.TypeIs (.ref z) "zip" := by obtain ⟨⟨f0, f1, hz, _⟩, _⟩ := st; exact ⟨_, hz, rfl⟩
  unfold pyNext
  refine wpAny_bind (wpAny_attempt (wpAny_callSpecial?_slot (name := Str.ofString "__next__") hT F.slot_enumerate_next
    (wpAny_call_entry F.slot_enumerate_next hT F.entry_enumerate_next ?_ (F.args_enumerate_next_1 _))))
  show wpAny _ _ (field (.ref e) 2 >>= _) _ _ _
  refine wpAny_bind (wpAny_field he rfl (x := .ref z) rfl ?_)
  refine wpAny_bind ?_
  unfold Builtin.SmallTypes.nextOf
  refine wpAny_bind (wpAny_callSpecial?_slot (name := Str.ofString "__next__") hzT F.slot_zip_next
    (wpAny_call_entry F.slot_zip_next hzT F.entry_zip_next (zipU_end hh D.toZipApart st hl1 hl2 hend fun h' x hk hx' => ?_) (F.args_zip_next_1 _)))
  obtain ⟨o, ho, hc⟩ := hx'
  refine wpAny_bind (wpAny_isInstance (T := "StopIteration") (b := true) ⟨o, ho, hc⟩ isSubtype_stop ?_)
  exact wpAny_pure (hQ _ hk)
end
/-! ### enumerate(zip) -/
abbrev ezH (h : Heap) (z : Addr) : Heap := h.push { cls := .type "enumerate", data := .fields #[.none, .bool false, .ref z, rawInt 0, .none, .none] }
theorem newEz (z TI TO : Addr) (o : Obj) : Meets (Builtin.«enumerate.__new__» ⟨[.type "enumerate", .ref z], []⟩) (fun _ R s => s.heap.get? z = some o ∧ o = { cls := .type "zip", dict := none, data := .fields #[.none, .bool false, .bool false, .ref TI, .ref TO], slots := #[] } ∧
      R (.ok (.ret (.ref s.heap.objs.size))) { s with heap := ezH s.heap z }) :=
  .of_wp fun prog w A R s h => by
    obtain ⟨hp, g, d, tk, os⟩ := s
    obtain ⟨hl, ho, h⟩ := h
    subst ho
    have hsub := sub_enumerate
    wp_walk using AutoSeq1.wpAny_loadPart' hl
    refine wpAny_stack_any fun st => wpAny_pure ?_
    split
    · rename_i c _ _ _ _ _
      cases (c == Value.type "enumerate") <;> (wp_walk using AutoSeq1.wpAny_loadPart' hl, wpAny_pyIter_zip hl; exact ⟨_, rfl, h⟩)
    · wp_walk using AutoSeq1.wpAny_loadPart' hl, wpAny_pyIter_zip hl
      exact ⟨_, rfl, h⟩
theorem call_ez {P : Program} {w : World} {A : Around} {E : Value → Shared → Prop} {s : Shared} {z TI TO : Addr} {Q : Value → Shared → Prop} (hz : IsZip s.heap z TI TO .none)
    (h : ∀ h', IsEnum h' s.heap.objs.size z 0 .none → (∀ b o, s.heap.get? b = some o → h'.get? b = some o) → Q (.ref s.heap.objs.size) { s with heap := h' }) :
    wpAny (model P w) A (call (.type "enumerate") [.ref z]) Q E s := by
  refine callType_new F.called_enumerate (by decide) (F.typeCall_enumerate_1 _) (F.newCall_enumerate_1 _) (fun obj => F.args_object_init_2 obj _) F.entry_enumerate_new (newEz z TI TO _) ⟨hz, rfl, ?_⟩
  have he := Heap.get?_push_size s.heap (o := { cls := .type "enumerate", data := .fields #[.none, .bool false, .ref z, rawInt 0, .none, .none] }) rfl
  exact ⟨⟨_, he, rfl⟩, h _ he fun b o x => Heap.get?_push_of_some _ x⟩
/-- the pairs of the tuples at a and b, numbered -/
def ItEZ (K : PySem.W.Frag) (a b : Addr) : It :=
  ⟨fun i H => ∃ (xs ys : List V) (x y : V), SqT K H a xs ∧ SqT K H b ys ∧ xs[i]? = some x ∧ ys[i]? = some y,
    fun i H v H' => ∃ T T2 x y, v = .ref T2 ∧ H T = none ∧ H T2 = none ∧ T ≠ T2 ∧ H' = upd (upd H T (.tup [x, y])) T2 (.tup [.int (i : Nat), .ref T]) ∧ (∀ xs, SqT K H a xs → xs[i]? = some x) ∧ ∀ ys, SqT K H b ys → ys[i]? = some y,
    fun i H => ∃ xs ys : List V, SqT K H a xs ∧ SqT K H b ys ∧ (xs.length ≤ i ∨ ys.length ≤ i)⟩
theorem turn_ez {P : Program} {w : World} {K : PySem.W.Frag} {elts : List Expr} {kk : Nat} {tpos : Pos} {e z TI TO i1 i2 a b : Addr} (D : EzApart e z TI TO i1 i2 a b) :
    Turn P w K (.Tuple elts kk tpos) (ItEZ K a b) [e, z, TI, TO, i1, i2] e (fun i h => (∃ old, IsEnum h e z ((i : Nat) : Int) old) ∧ ZSt z TI TO i1 i2 a b i h) where
  mem := List.mem_cons_self
  obj := fun i h st c hc => by
    obtain ⟨⟨old, he⟩, ⟨f0, f1, hz, _⟩, hTI, ⟨x, y, hTO⟩, ⟨o1, e1, _, d1⟩, ⟨o2, e2, _, d2⟩⟩ := st
    have e' : c = e ∨ c = z ∨ c = TI ∨ c = TO ∨ c = i1 ∨ c = i2 := by simpa using hc
    rcases e' with q | q | q | q | q | q
    · rw [q]; exact ⟨_, he, fun v q => nomatch q⟩
    · rw [q]; exact ⟨_, hz, fun v q => nomatch q⟩
    · rw [q]; exact ⟨_, hTI, fun v q => nomatch q⟩
    · rw [q]; exact ⟨_, hTO, fun v q => nomatch q⟩
    · rw [q]; exact ⟨o1, e1, fun v q => by rw [d1] at q; cases q⟩
    · rw [q]; exact ⟨o2, e2, fun v q => by rw [d2] at q; cases q⟩
  keep := fun i h h' ⟨⟨old, he⟩, st⟩ k => ⟨⟨old, k e (by simp) _ he⟩, st.at_ fun c o q => k c (by simp; exact .inr q) o⟩
  item := by
    intro X hP hw hK hc i pins s σ H E I hf st ⟨xs, ys, x, y, hqx, hqy, hx, hy⟩
    subst hP hw hK
    obtain ⟨⟨old, he⟩, hst⟩ := st
    obtain ⟨its, rv, p, _⟩ := I.tuple hqx
    obtain ⟨its2, rv2, p2, _⟩ := I.tuple hqy
    obtain ⟨u, hu, ru⟩ := rv.get hx
    obtain ⟨u2, hu2, ru2⟩ := rv2.get hy
    have lt : ∀ c, c ∈ [e, z, TI, TO, i1, i2] → c < s.heap.objs.size := fun c hc => by
      obtain ⟨⟨f0, f1, hz, _⟩, hTI, ⟨x, y, hTO⟩, ⟨o1, e1, _, d1⟩, ⟨o2, e2, _, d2⟩⟩ := hst
      have e' : c = e ∨ c = z ∨ c = TI ∨ c = TO ∨ c = i1 ∨ c = i2 := by simpa using hc
      rcases e' with q | q | q | q | q | q
      · rw [q]; exact Heap.lt_size he
      · rw [q]; exact Heap.lt_size hz
      · rw [q]; exact Heap.lt_size hTI
      · rw [q]; exact Heap.lt_size hTO
      · rw [q]; exact Heap.lt_size e1
      · rw [q]; exact Heap.lt_size e2
    have hel := lt e (by simp)
    refine pyNext_enZ_item D he hst p p2 (x := u) (y := u2) (by simpa using hu) (by simpa using hu2) fun h' tk ho st' hT hT2 hsz hk => ?_
    refine ⟨_, rfl, wpAny_letOwnedTupleGo_enum (s := { s with heap := h', toks := tk + 1 }) ho fun h'' he' sb => ?_⟩
    have hTb : h''.get? s.heap.objs.size = some { cls := .type "tuple", data := .seq #[u, u2] } := (sb.2 _ (Nat.ne_of_gt hel)).trans hT
    have hT2b : h''.get? (s.heap.objs.size + 1) = some { cls := .type "tuple", data := .seq #[.int i tk, .ref s.heap.objs.size] } := (sb.2 _ (Nat.ne_of_gt (Nat.lt_succ_of_lt hel))).trans hT2
    have hM : (s.heap.push { cls := .type "tuple", data := .seq #[u, u2] }).get? s.heap.objs.size = some { cls := .type "tuple", data := .seq #[u, u2] } := Heap.get?_push_size _ rfl
    have new1 : ObjOk X.prog X.w (upd H s.heap.objs.size (.tup [x, y])) (s.heap.push { cls := .type "tuple", data := .seq #[u, u2] }) s.heap.objs.size (.tup [x, y]) :=
      ⟨by show 2 ≤ sizeLine; decide, [u, u2], .cons ru (.cons ru2 .nil), ⟨_, hM, rfl, _, rfl⟩⟩
    have I1 : Inv X pins σ (upd H s.heap.objs.size (.tup [x, y])) { s with heap := s.heap.push { cls := .type "tuple", data := .seq #[u, u2] } } := I.laid (t' := s.toks) (fun b o q => Heap.get?_push_of_some _ q) (Nat.le_refl _) new1
    have nl : ∀ c, c ∈ [e, z, TI, TO, i1, i2] → c ≠ s.heap.objs.size := fun c hc => Nat.ne_of_lt (lt c hc)
    have hf1 : ∀ c ∈ [e, z, TI, TO, i1, i2], FpOk X pins (upd H s.heap.objs.size (.tup [x, y])) c := fun c hc => by
      obtain ⟨q0, q⟩ := hf c hc
      exact ⟨by rw [upd_ne (nl c hc)]; exact q0, q⟩
    have hsz1 : (s.heap.push { cls := .type "tuple", data := .seq #[u, u2] }).objs.size = s.heap.objs.size + 1 := Heap.size_push ..
    have new2 : ObjOk X.prog X.w (upd (upd H s.heap.objs.size (.tup [x, y])) (s.heap.objs.size + 1) (.tup [.int (i : Nat), .ref s.heap.objs.size])) h'' (s.heap.objs.size + 1) (.tup [.int (i : Nat), .ref s.heap.objs.size]) :=
      ⟨by show 2 ≤ sizeLine; decide, [.int i tk, .ref s.heap.objs.size], .cons ⟨_, rfl⟩ (.cons rfl .nil), ⟨_, hT2b, rfl, _, rfl⟩⟩
    have I2 : Inv X pins σ (upd (upd H s.heap.objs.size (.tup [x, y])) (s.heap.objs.size + 1) (.tup [.int (i : Nat), .ref s.heap.objs.size])) { s with heap := h'', toks := tk + 1 } :=
      I1.turnedNew (ch := [e, z, TI, TO, i1, i2]) (t' := tk + 1) (fun c o hb q => by
        by_cases hcT : c = s.heap.objs.size
        · subst hcT
          rw [show Shared.heap { s with heap := s.heap.push { cls := .type "tuple", data := .seq #[u, u2] } } = s.heap.push { cls := .type "tuple", data := .seq #[u, u2] } from rfl, hM] at q
          rw [hTb, q]
        · have q' : s.heap.get? c = some o := by rw [← Heap.get?_push_ne s.heap c _ hcT]; exact q
          exact (sb.2 c (fun q' => hb (by simp [q']))).trans (hk c o (fun q' => hb (by simp [q'])) (fun q' => hb (by simp [q'])) (fun q' => hb (by simp [q'])) (fun q' => hb (by simp [q'])) (fun q' => hb (by simp [q'])) q')) hf1 (Nat.le_of_eq hsz1) new2
    have e1 : ((i + 1 : Nat) : Int) = (i : Int) + 1 := Int.natCast_succ i
    refine ⟨.ref (s.heap.objs.size + 1), _, I2, rfl, ⟨_, _, x, y, rfl, I.hok.fresh (Nat.le_refl _), I.hok.fresh (Nat.le_succ _), Nat.ne_of_lt (Nat.lt_succ_self _), rfl, fun l hl => by rw [I.tuple_inj hl hqx]; exact hx, fun l hl => by rw [I.tuple_inj hl hqy]; exact hy⟩,
      ⟨⟨_, by rw [e1]; exact he'⟩, st'.at_ fun c o q hq => (sb.2 c fun q' => ?_).trans hq⟩, fun c hc => ?_⟩
    · subst q'
      rcases q with q | q | q | q | q
      · exact D.ez q
      · exact D.eTI q
      · exact D.eTO q
      · exact D.ei1 q
      · exact D.ei2 q
    · rw [upd_ne (Nat.ne_of_lt (Nat.lt_succ_of_lt (lt c hc))), upd_ne (nl c hc)]
      exact (hf c hc).1
  done := by
    intro X hP hw hK hc i pins s σ H E I hf st ⟨xs, ys, hqx, hqy, hend⟩
    subst hP hw hK
    obtain ⟨⟨old, he⟩, hst⟩ := st
    obtain ⟨its, rv, p, _⟩ := I.tuple hqx
    obtain ⟨its2, rv2, p2, _⟩ := I.tuple hqy
    have l1 := rv.length
    have l2 := rv2.length
    have hn : its.toArray[i]? = none ∨ its2.toArray[i]? = none := by
      rcases hend with q | q
      · exact .inl (by simp; omega)
      · exact .inr (by simp; omega)
    exact pyNext_enZ_end (I.ok.hd hc) D he hst p p2 hn fun h' hk => ⟨rfl, I.turnedL (t' := s.toks) (ch := [e, z, TI, TO, i1, i2]) (fun c o hb q =>
      hk c o (fun q' => hb (by simp [q'])) (fun q' => hb (by simp [q'])) (fun q' => hb (by simp [q'])) (fun q' => hb (by simp [q'])) q) hf⟩
  self := fun A i s Q E ⟨⟨_, he⟩, _⟩ h => wpAny_pyIter_enum he h
def iEz (K : PySem.W.Frag) (ta : TA) : TI := fun σ H R => ta σ H fun vs H1 => ∃ a b xs ys, vs = [.ref a, .ref b] ∧ SqT K H1 a xs ∧ SqT K H1 b ys ∧ R (ItEZ K a b) H1
theorem pi_ez {X : Cx} {e e2 : Expr} {ta : TA} {p p2 pos pos2 tpos : Pos} {elts : List Expr} {kk : Nat} (hg : Gl X "enumerate") (hm : X.mg "enumerate" = none) (hg2 : Gl X "zip") (hm2 : X.mg "zip" = none) (ha : PA X [e, e2] ta)
    (hs : starEach [e, e2] X.env = (false, eval e X.env) :: starEach [e2] X.env := by rfl) (hpl : (backTo pos2 (starEach [e2] X.env)).any (·.1) = false := by rfl) :
    PI X (.Tuple elts kk tpos) (.Call (.Name "enumerate" p) [.Call (.Name "zip" p2) [e, e2] [] pos2] [] pos) (iEz X.K ta) := by
  refine ⟨fun pins s σ H R I h => Call_ (ld_blt I hg hm boot_enumerate (PyProof.Rows.callWith_type1 (args_cons (Call_ (ld_blt I hg2 hm2 PyProof.Rows.boot_zip (PyProof.Rows.callWith_type1 (thn (ha.run pos2 pins s σ H _ I h) fun us s1 ⟨vs, H1, I1, r1, q1⟩ => ?_) hs hpl))) rfl) rfl rfl))⟩
  obtain ⟨a, b, xs, ys, ex, hqx, hqy, q⟩ := q1
  subst ex
  cases r1 with
  | cons r rr =>
    cases rr with
    | cons r' rr =>
      cases rr
      cases r
      cases r'
      obtain ⟨its, rv, p1, _⟩ := I1.tuple hqx
      obtain ⟨its2, rv2, p2, _⟩ := I1.tuple hqy
      obtain ⟨o1, ho1, _⟩ := id p1
      obtain ⟨o2, ho2, _⟩ := id p2
      refine call_zipT (show s1.heap.IsTuple a its.toArray from p1) (show s1.heap.IsTuple b its2.toArray from p2) fun h' hz hTI hTO h1 h2 hsz hk => args_nil ?_
      refine call_ez hz fun h'' he hk2 => wpAny_pyIter_enum he ?_
      have st : ZSt (s1.heap.objs.size + 4) (s1.heap.objs.size + 2) (s1.heap.objs.size + 3) s1.heap.objs.size (s1.heap.objs.size + 1) a b 0 h'' :=
        ZSt.at_ (h := h') ⟨⟨_, _, hz, .inl rfl⟩, hTI, ⟨_, _, hTO⟩, h1, h2⟩ fun c o _ q => hk2 c o q
      have la := Heap.lt_size ho1
      have lb := Heap.lt_size ho2
      have D : EzApart h'.objs.size (s1.heap.objs.size + 4) (s1.heap.objs.size + 2) (s1.heap.objs.size + 3) s1.heap.objs.size (s1.heap.objs.size + 1) a b := by
        refine ⟨PySem.W.ktu_apart s1.heap.objs.size a b la lb, ?_, ?_, ?_, ?_, ?_, ?_, ?_⟩
        all_goals rw [hsz]
        all_goals first | (intro q; have q' : (_ : Nat) = _ := q; omega) | exact Nat.ne_of_lt (Nat.lt_of_lt_of_le la (Nat.le_add_right _ 5)) | exact Nat.ne_of_lt (Nat.lt_of_lt_of_le lb (Nat.le_add_right _ 5))
      have I2 : Inv X pins σ H1 { s1 with heap := h'' } := I1.kept (t' := s1.toks) fun c o q => hk2 c o (hk c o q)
      refine ⟨h'.objs.size, [h'.objs.size, s1.heap.objs.size + 4, s1.heap.objs.size + 2, s1.heap.objs.size + 3, s1.heap.objs.size, s1.heap.objs.size + 1], _, _, H1, rfl, I2, turn_ez D, ⟨⟨_, he⟩, st⟩, fun c hc => ?_, q⟩
      have hle : s1.heap.objs.size ≤ c := by
        have e' : c = h'.objs.size ∨ c = s1.heap.objs.size + 4 ∨ c = s1.heap.objs.size + 2 ∨ c = s1.heap.objs.size + 3 ∨ c = s1.heap.objs.size ∨ c = s1.heap.objs.size + 1 := by simpa using hc
        rw [hsz] at e'
        rcases e' with z | z | z | z | z | z <;> (rw [z]; first | exact Nat.le_add_right _ _ | exact Nat.le_refl _)
      exact I1.fpOk hle (I1.hok.fresh hle)
end ZS

set_option Elab.async false
set_option linter.all false
set_option maxRecDepth 100000
set_option maxHeartbeats 400000
/-! Z1: plain values and a plain store beside the layer's values and heap. -/
namespace Z
open PySem PySem.Spec PyProof.Rows L2

/-- a plain value: a tuple is its items; obj n is the n-th thing of the store; tl: a list that is no thing of the store (it is read alone, while it lasts);
rl: a list that never changes; fn: a def of the top -/
inductive U where
  | non | bl (b : Bool) | int (i : Int) | str (s : Str) | tup (xs : List U) | obj (n : Nat) | tl (xs : List U) | rl (xs : List U) | fn (x : Str) | exc (x : Str)
inductive SO where
  | lst (us : List U) | dct (kvs : List (Key × U)) | ins (C : Str) (fs : List (Str × U))
abbrev Sto := List SO
/-- what is raised: the class, its one field -/
abbrev Xn := Str × Option (Str × U)
inductive Res (α : Type) where
  | ok (a : α) (S : Sto) | ex (x : Xn) (S : Sto) | no
def Res.bind {α β : Type} (r : Res α) (f : α → Sto → Res β) : Res β := match r with
  | .ok a S => f a S
  | .ex x S => .ex x S
  | .no => .no

/-- a list that never changes -/
def KL (K : PySem.W.Frag) (H : Hp) (a : Addr) (vs : List V) : Prop := (∃ o, H a = some (.frz o (.lst vs))) ∨ SqL K (fun _ => none) a vs
theorem KL.sq {K : PySem.W.Frag} {H : Hp} {a : Addr} {vs : List V} (h : KL K H a vs) : SqL K H a vs := by
  rcases h with h | h
  · exact .inl (.inr h)
  · rcases h with (h | ⟨_, h⟩) | h
    · cases h
    · cases h
    · exact .inr h
theorem KL.to {K : PySem.W.Frag} {H H' : Hp} {a : Addr} {vs : List V} (h : KL K H a vs) (k : ∀ o, H a = some (.frz o (.lst vs)) → H' a = some (.frz o (.lst vs))) : KL K H' a vs := by
  rcases h with ⟨o, h⟩ | h
  · exact .inl ⟨o, k o h⟩
  · exact .inr h
section
variable (K : PySem.W.Frag) (mg : Str → Option Value)
mutual
inductive RU (μ : Nat → Addr) (n : Nat) (Y : List Addr) (H : Hp) : U → V → Prop
  | non : RU μ n Y H .non .non
  | bl (b : Bool) : RU μ n Y H (.bl b) (.bl b)
  | int (i : Int) : RU μ n Y H (.int i) (.int i)
  | str (x : Str) : RU μ n Y H (.str x) (.str x)
  | tup {us : List U} {a : Addr} {vs : List V} : SqT K H a vs → RUs μ n Y H us vs → RU μ n Y H (.tup us) (.ref a)
  | obj {k : Nat} {a : Addr} : k < n → a = μ k → RU μ n Y H (.obj k) (.ref a)
  | tl {us : List U} {a : Addr} {vs : List V} : H a = some (.lst vs) → (∀ i, i < n → a ≠ μ i) → a ∉ Y → RUs μ n Y H us vs → RU μ n Y H (.tl us) (.ref a)
  | rl {us : List U} {a : Addr} {vs : List V} : KL K H a vs → RUs μ n Y H us vs → RU μ n Y H (.rl us) (.ref a)
  | fn {x : Str} {a : Addr} : mg x = some (.ref a) → RU μ n Y H (.fn x) (.ref a)
  | exc {x : Str} {a c : Addr} : mg x = some (.ref c) → H a = some (ZC.ExC (.ref c) none a) → (∀ i, i < n → a ≠ μ i) → a ∉ Y → RU μ n Y H (.exc x) (.ref a)
inductive RUs (μ : Nat → Addr) (n : Nat) (Y : List Addr) (H : Hp) : List U → List V → Prop
  | nil : RUs μ n Y H [] []
  | cons {u : U} {v : V} {us : List U} {vs : List V} : RU μ n Y H u v → RUs μ n Y H us vs → RUs μ n Y H (u :: us) (v :: vs)
end
inductive RKs (μ : Nat → Addr) (n : Nat) (Y : List Addr) (H : Hp) : List (Key × U) → List (Key × V) → Prop
  | nil : RKs μ n Y H [] []
  | cons {k : Key} {u : U} {v : V} {us : List (Key × U)} {vs : List (Key × V)} : RU K mg μ n Y H u v → RKs μ n Y H us vs → RKs μ n Y H ((k, u) :: us) ((k, v) :: vs)
inductive RFs (μ : Nat → Addr) (n : Nat) (Y : List Addr) (H : Hp) : List (Str × U) → List (Str × V) → Prop
  | nil : RFs μ n Y H [] []
  | cons {k : Str} {u : U} {v : V} {us : List (Str × U)} {vs : List (Str × V)} : RU K mg μ n Y H u v → RFs μ n Y H us vs → RFs μ n Y H ((k, u) :: us) ((k, v) :: vs)
/-- the thing at a -/
def RO (μ : Nat → Addr) (n : Nat) (Y : List Addr) (H : Hp) (a : Addr) : SO → Prop
  | .lst us => ∃ vs, H a = some (.lst vs) ∧ RUs K mg μ n Y H us vs
  | .dct kvs => ∃ vs, H a = some (.dK vs) ∧ RKs K mg μ n Y H kvs vs
  | .ins C fs => ∃ c dx vs, mg C = some (.ref c) ∧ H a = some (.ins c dx vs) ∧ RFs K mg μ n Y H fs vs ∧ H dx = some (.own a)
structure RS (μ : Nat → Addr) (S : Sto) (Y : List Addr) (H : Hp) : Prop where
  inj : ∀ i j, i < S.length → j < S.length → μ i = μ j → i = j
  at_ : ∀ i o, S[i]? = some o → RO K mg μ S.length Y H (μ i) o
  res : ∀ a, a ∈ Y → H a ≠ none ∧ ∀ i, i < S.length → a ≠ μ i
end
/-- from (μ, n, H) on: the things stay where they are, new ones stand at new places, all else stays as it is -/
structure Gr (μ : Nat → Addr) (n : Nat) (H : Hp) (μ' : Nat → Addr) (n' : Nat) (H' : Hp) : Prop where
  le : n ≤ n'
  at_ : ∀ i, i < n → μ' i = μ i
  new : ∀ i, n ≤ i → i < n' → H (μ' i) = none
  all : ∀ a o, (∀ i, i < n → a ≠ μ i) → H a = some o → H' a = some o
  tup : ∀ a xs, H a = some (.tup xs) → H' a = some (.tup xs)
  frz : ∀ a o u, H a = some (.frz o u) → H' a = some (.frz o u)

section
variable {K : PySem.W.Frag} {mg : Str → Option Value} {Y : List Addr} {μ μ' μ1 : Nat → Addr} {n n' n1 : Nat} {H H' H1 : Hp}
theorem Gr.refl : Gr μ n H μ n H := ⟨Nat.le_refl _, fun _ _ => rfl, fun i h h' => absurd h' (by omega), fun _ _ _ h => h, fun _ _ h => h, fun _ _ _ h => h⟩
theorem Gr.off (g : Gr μ n H μ' n' H') {a : Addr} {o : HO} (ha : ∀ i, i < n → a ≠ μ i) (h : H a = some o) : ∀ i, i < n' → a ≠ μ' i := fun i hi q => by
  by_cases z : i < n
  · exact ha i z (by rw [q, g.at_ i z])
  · have := g.new i (by omega) hi
    rw [← q, h] at this
    cases this
theorem Gr.trans (g : Gr μ n H μ1 n1 H1) (g' : Gr μ1 n1 H1 μ' n' H') (inj : ∀ i j, i < n' → j < n' → μ' i = μ' j → i = j) : Gr μ n H μ' n' H' := by
  refine ⟨Nat.le_trans g.le g'.le, fun i hi => by rw [g'.at_ i (Nat.lt_of_lt_of_le hi g.le), g.at_ i hi], fun i h h' => ?_, fun a o ha h => g'.all a o (g.off ha h) (g.all a o ha h), fun a xs h => g'.tup a xs (g.tup a xs h), fun a o u h => g'.frz a o u (g.frz a o u h)⟩
  by_cases z : i < n1
  · rw [g'.at_ i z]; exact g.new i h z
  · cases e : H (μ' i) with
    | none => rfl
    | some o =>
      have hne : ∀ j, j < n → μ' i ≠ μ j := fun j hj q => by
        have h1 : μ' j = μ j := by rw [g'.at_ j (Nat.lt_of_lt_of_le hj g.le), g.at_ j hj]
        have := inj i j h' (Nat.lt_of_lt_of_le hj (Nat.le_trans g.le g'.le)) (by rw [q, h1])
        omega
      have := g.all _ o hne e
      rw [g'.new i (by omega) h'] at this
      cases this
theorem Gr.sqT (g : Gr μ n H μ' n' H') {a : Addr} {xs : List V} (h : SqT K H a xs) : SqT K H' a xs := by
  rcases h with (h | ⟨o, h⟩) | h
  · exact .inl (.inl (g.tup _ _ h))
  · exact .inl (.inr ⟨o, g.frz _ _ _ h⟩)
  · exact .inr h
mutual
theorem RU.mono (g : Gr μ n H μ' n' H') : ∀ {u : U} {v : V}, RU K mg μ n Y H u v → RU K mg μ' n' Y H' u v
  | _, _, .non => .non
  | _, _, .bl b => .bl b
  | _, _, .int i => .int i
  | _, _, .str x => .str x
  | _, _, .tup h r => .tup (g.sqT h) (RUs.mono g r)
  | _, _, .obj h e => .obj (Nat.lt_of_lt_of_le h g.le) (by rw [e, g.at_ _ h])
  | _, _, .tl h ha hy r => .tl (g.all _ _ ha h) (g.off ha h) hy (RUs.mono g r)
  | _, _, .rl h r => .rl (h.to fun o q => g.frz _ _ _ q) (RUs.mono g r)
  | _, _, .fn h => .fn h
  | _, _, .exc h h1 h2 h3 => .exc h (g.all _ _ h2 h1) (g.off h2 h1) h3
theorem RUs.mono (g : Gr μ n H μ' n' H') : ∀ {us : List U} {vs : List V}, RUs K mg μ n Y H us vs → RUs K mg μ' n' Y H' us vs
  | _, _, .nil => .nil
  | _, _, .cons h r => .cons (RU.mono g h) (RUs.mono g r)
end
theorem RKs.mono (g : Gr μ n H μ' n' H') : ∀ {us : List (Key × U)} {vs : List (Key × V)}, RKs K mg μ n Y H us vs → RKs K mg μ' n' Y H' us vs
  | _, _, .nil => .nil
  | _, _, .cons h r => .cons (RU.mono g h) (RKs.mono g r)
theorem RFs.mono (g : Gr μ n H μ' n' H') : ∀ {us : List (Str × U)} {vs : List (Str × V)}, RFs K mg μ n Y H us vs → RFs K mg μ' n' Y H' us vs
  | _, _, .nil => .nil
  | _, _, .cons h r => .cons (RU.mono g h) (RFs.mono g r)
theorem RUs.length : ∀ {us : List U} {vs : List V}, RUs K mg μ n Y H us vs → us.length = vs.length
  | _, _, .nil => rfl
  | _, _, .cons _ r => by simp [RUs.length r]
theorem RUs.get : ∀ {us : List U} {vs : List V} {i : Nat} {u : U}, RUs K mg μ n Y H us vs → us[i]? = some u → ∃ v, vs[i]? = some v ∧ RU K mg μ n Y H u v
  | _, _, _, _, .nil, e => by simp at e
  | _, _, 0, _, .cons h _, e => by simp at e; subst e; exact ⟨_, rfl, h⟩
  | _, _, i + 1, _, .cons _ r, e => by
    obtain ⟨v, h1, h2⟩ := RUs.get (i := i) r (by simpa using e)
    exact ⟨v, by simpa using h1, h2⟩
theorem RUs.got : ∀ {us : List U} {vs : List V} {i : Nat} {v : V}, RUs K mg μ n Y H us vs → vs[i]? = some v → ∃ u, us[i]? = some u ∧ RU K mg μ n Y H u v
  | _, _, _, _, .nil, e => by simp at e
  | _, _, 0, _, .cons h _, e => by simp at e; subst e; exact ⟨_, rfl, h⟩
  | _, _, i + 1, _, .cons _ r, e => by
    obtain ⟨v, h1, h2⟩ := RUs.got (i := i) r (by simpa using e)
    exact ⟨v, by simpa using h1, h2⟩
theorem RUs.append : ∀ {us ws : List U} {vs xs : List V}, RUs K mg μ n Y H us vs → RUs K mg μ n Y H ws xs → RUs K mg μ n Y H (us ++ ws) (vs ++ xs)
  | _, _, _, _, .nil, s => s
  | _, _, _, _, .cons h r, s => .cons h (RUs.append r s)
theorem RUs.set {u : U} {v : V} (h : RU K mg μ n Y H u v) : ∀ {us : List U} {vs : List V} (i : Nat), RUs K mg μ n Y H us vs → RUs K mg μ n Y H (us.set i u) (vs.set i v)
  | _, _, _, .nil => .nil
  | _, _, 0, .cons _ r => .cons h r
  | _, _, i + 1, .cons q r => .cons q (RUs.set h i r)
theorem RUs.take : ∀ {us : List U} {vs : List V} (i : Nat), RUs K mg μ n Y H us vs → RUs K mg μ n Y H (us.take i) (vs.take i)
  | _, _, 0, _ => by simpa using RUs.nil
  | _, _, _ + 1, .nil => .nil
  | _, _, i + 1, .cons q r => .cons q (RUs.take i r)
theorem RUs.drop : ∀ {us : List U} {vs : List V} (i : Nat), RUs K mg μ n Y H us vs → RUs K mg μ n Y H (us.drop i) (vs.drop i)
  | _, _, 0, r => by simpa using r
  | _, _, _ + 1, .nil => .nil
  | _, _, i + 1, .cons _ r => by simpa using RUs.drop i r
theorem RUs.reverse : ∀ {us : List U} {vs : List V}, RUs K mg μ n Y H us vs → RUs K mg μ n Y H us.reverse vs.reverse
  | _, _, .nil => .nil
  | _, _, .cons q r => by
    rw [List.reverse_cons, List.reverse_cons]
    exact RUs.append (RUs.reverse r) (.cons q .nil)
theorem RUs.ints : ∀ ns : List Int, RUs K mg μ n Y H (ns.map U.int) (ns.map V.int)
  | [] => .nil
  | i :: r => .cons (.int i) (RUs.ints r)

/-! ### the store: a new thing, a written one -/
theorem RO.mono {a : Addr} {o : SO} (g : Gr μ n H μ' n' H') (ha : H' a = H a) (hd : ∀ c dx fs, H a = some (.ins c dx fs) → H dx = some (.own a) → H' dx = some (.own a)) (r : RO K mg μ n Y H a o) : RO K mg μ' n' Y H' a o := by
  cases o with
  | lst us => obtain ⟨vs, h, r⟩ := r; exact ⟨vs, by rw [ha]; exact h, r.mono g⟩
  | dct kvs => obtain ⟨vs, h, r⟩ := r; exact ⟨vs, by rw [ha]; exact h, r.mono g⟩
  | ins C fs => obtain ⟨c, dx, vs, gC, h, r, d⟩ := r; exact ⟨c, dx, vs, gC, by rw [ha]; exact h, r.mono g, hd c dx vs h d⟩
theorem RO.there {a : Addr} {o : SO} (r : RO K mg μ n Y H a o) : (∃ vs, H a = some (.lst vs)) ∨ (∃ vs, H a = some (.dK vs)) ∨ ∃ c dx vs, H a = some (.ins c dx vs) := by
  cases o with
  | lst us => obtain ⟨vs, h, _⟩ := r; exact .inl ⟨vs, h⟩
  | dct kvs => obtain ⟨vs, h, _⟩ := r; exact .inr (.inl ⟨vs, h⟩)
  | ins C fs => obtain ⟨c, dx, vs, _, h, _⟩ := r; exact .inr (.inr ⟨c, dx, vs, h⟩)
theorem RO.some_ {a : Addr} {o : SO} (r : RO K mg μ n Y H a o) : H a ≠ none := by
  rcases r.there with ⟨vs, h⟩ | ⟨vs, h⟩ | ⟨c, dx, vs, h⟩ <;> rw [h] <;> simp
theorem RO.notOwn {a b : Addr} {o : SO} (r : RO K mg μ n Y H a o) : H a ≠ some (.own b) := by
  rcases r.there with ⟨vs, h⟩ | ⟨vs, h⟩ | ⟨c, dx, vs, h⟩ <;> rw [h] <;> simp
theorem RO.notTup {a : Addr} {o : SO} {xs : List V} (r : RO K mg μ n Y H a o) : H a ≠ some (.tup xs) := by
  rcases r.there with ⟨vs, h⟩ | ⟨vs, h⟩ | ⟨c, dx, vs, h⟩ <;> rw [h] <;> simp
theorem RO.notFrz {a : Addr} {o : SO} {p : Obj} {u : HO} (r : RO K mg μ n Y H a o) : H a ≠ some (.frz p u) := by
  rcases r.there with ⟨vs, h⟩ | ⟨vs, h⟩ | ⟨c, dx, vs, h⟩ <;> rw [h] <;> simp
def ext1 (μ : Nat → Addr) (n : Nat) (p : Addr) : Nat → Addr := fun i => if i = n then p else μ i
theorem ext1_at {p : Addr} : ext1 μ n p n = p := by unfold ext1; rw [if_pos rfl]
theorem ext1_lt {p : Addr} {i : Nat} (h : i < n) : ext1 μ n p i = μ i := by unfold ext1; rw [if_neg (by omega)]
theorem RS.off {S : Sto} (r : RS K mg μ S Y H) {p : Addr} (hp : H p = none) : ∀ i, i < S.length → μ i ≠ p := fun i hi q => by
  have h := (r.at_ i _ (List.getElem?_eq_getElem hi)).some_
  rw [q] at h; exact h hp
theorem RS.offTup {S : Sto} (r : RS K mg μ S Y H) {p : Addr} {xs : List V} (hp : H p = some (.tup xs)) : ∀ i, i < S.length → p ≠ μ i := fun i hi q =>
  (r.at_ i _ (List.getElem?_eq_getElem hi)).notTup (by rw [← q]; exact hp)
theorem Gr.fresh {S : Sto} (_ : RS K mg μ S Y H) {p : Addr} {ho : HO} (hp : H p = none) : Gr μ S.length H μ S.length (upd H p ho) := by
  have k : ∀ a o, H a = some o → upd H p ho a = some o := fun a o e => by rw [upd_ne (fun q => by rw [q, hp] at e; cases e)]; exact e
  exact ⟨Nat.le_refl _, fun _ _ => rfl, fun i h h' => absurd h' (by omega), fun a o _ h => k a o h, fun a xs h => k a _ h, fun a o u h => k a _ h⟩
theorem Gr.new1 {S : Sto} (r : RS K mg μ S Y H) {p : Addr} {ho : HO} (hp : H p = none) : Gr μ S.length H (ext1 μ S.length p) (S.length + 1) (upd H p ho) := by
  have k : ∀ a o, H a = some o → upd H p ho a = some o := fun a o e => by rw [upd_ne (fun q => by rw [q, hp] at e; cases e)]; exact e
  refine ⟨Nat.le_succ _, fun i hi => ext1_lt hi, fun i h h' => ?_, fun a o _ h => k a o h, fun a xs h => k a _ h, fun a o u h => k a _ h⟩
  have : i = S.length := by omega
  subst this
  rw [ext1_at]; exact hp
theorem RS.fresh {S : Sto} (r : RS K mg μ S Y H) {p : Addr} {ho : HO} (hp : H p = none) : RS K mg μ S Y (upd H p ho) := by
  have hl := r.off hp
  exact ⟨r.inj, fun i o h => (r.at_ i o h).mono (Gr.fresh r hp) (upd_ne (hl i (List.getElem?_eq_some_iff.mp h).1)) fun c dx fs _ hd => by
    rw [upd_ne (fun q => by rw [q, hp] at hd; cases hd)]; exact hd, fun a ha => ⟨by rw [upd_ne (fun q => (r.res a ha).1 (by rw [q]; exact hp))]; exact (r.res a ha).1, (r.res a ha).2⟩⟩
theorem RS.new {S : Sto} (r : RS K mg μ S Y H) {p : Addr} {ho : HO} {o : SO} (hp : H p = none) (hb : RO K mg (ext1 μ S.length p) (S.length + 1) Y (upd H p ho) p o) :
    RS K mg (ext1 μ S.length p) (S ++ [o]) Y (upd H p ho) := by
  have hl := r.off hp
  refine ⟨fun i j hi hj e => ?_, fun i o' h => ?_, fun a ha => ⟨by rw [upd_ne (fun q => (r.res a ha).1 (by rw [q]; exact hp))]; exact (r.res a ha).1, fun i hi => ?_⟩⟩
  rotate_left
  rotate_left
  · rw [List.length_append, List.length_singleton] at hi
    by_cases qi : i < S.length
    · rw [ext1_lt qi]; exact (r.res a ha).2 i qi
    · have : i = S.length := by omega
      subst this
      rw [ext1_at]
      exact fun q => (r.res a ha).1 (by rw [q]; exact hp)
  · rw [List.length_append, List.length_singleton] at hi hj
    by_cases qi : i = S.length
    · by_cases qj : j = S.length
      · omega
      · have hj' : j < S.length := by omega
        rw [ext1_lt hj', qi, ext1_at] at e
        exact (hl j hj' e.symm).elim
    · have hi' : i < S.length := by omega
      by_cases qj : j = S.length
      · rw [ext1_lt hi', qj, ext1_at] at e
        exact (hl i hi' e).elim
      · have hj' : j < S.length := by omega
        rw [ext1_lt hi', ext1_lt hj'] at e
        exact r.inj i j hi' hj' e
  · rw [List.length_append, List.length_singleton]
    by_cases qi : i < S.length
    · rw [List.getElem?_append_left qi] at h
      rw [ext1_lt qi]
      exact (r.at_ i o' h).mono (Gr.new1 r hp) (upd_ne (hl i qi)) fun c dx fs _ hd => by
        rw [upd_ne (fun q => by rw [q, hp] at hd; cases hd)]; exact hd
    · have : i = S.length := by
        have := (List.getElem?_eq_some_iff.mp h).1
        rw [List.length_append, List.length_singleton] at this
        omega
      subst this
      rw [List.getElem?_append_right (Nat.le_refl _), Nat.sub_self] at h
      have h := Option.some.inj h
      subst h
      rw [ext1_at]
      exact hb
theorem Gr.write {S : Sto} (r : RS K mg μ S Y H) {k : Nat} {ho : HO} (hk : k < S.length) : Gr μ S.length H μ S.length (upd H (μ k) ho) := by
  have q := r.at_ k _ (List.getElem?_eq_getElem hk)
  refine ⟨Nat.le_refl _, fun _ _ => rfl, fun i h h' => absurd h' (by omega), fun a o ha h => ?_, fun a xs h => ?_, fun a o u h => ?_⟩
  · rw [upd_ne (ha k hk)]; exact h
  · rw [upd_ne (fun z => q.notTup (by rw [← z]; exact h))]; exact h
  · rw [upd_ne (fun z => q.notFrz (by rw [← z]; exact h))]; exact h
theorem RS.write {S : Sto} (r : RS K mg μ S Y H) {k : Nat} {o : SO} {ho : HO} (hk : k < S.length) (hb : RO K mg μ S.length Y (upd H (μ k) ho) (μ k) o) : RS K mg μ (S.set k o) Y (upd H (μ k) ho) := by
  have hw := fun b => (r.at_ k _ (List.getElem?_eq_getElem hk)).notOwn (b := b)
  refine ⟨fun i j hi hj e => r.inj i j (by simpa using hi) (by simpa using hj) e, fun i o' h => ?_, fun a ha => ⟨by rw [upd_ne ((r.res a ha).2 k hk)]; exact (r.res a ha).1, fun i hi => (r.res a ha).2 i (by simpa using hi)⟩⟩
  rw [List.length_set]
  by_cases q : k = i
  · subst q
    rw [List.getElem?_set_self hk] at h
    have h := Option.some.inj h
    subst h
    exact hb
  · rw [List.getElem?_set_ne q] at h
    have hi := (List.getElem?_eq_some_iff.mp h).1
    exact (r.at_ i o' h).mono (Gr.write r hk) (upd_ne fun e => q (r.inj i k hi hk e).symm) fun c dx fs _ hd => by
      rw [upd_ne (fun z => by rw [z] at hd; exact hw _ hd)]; exact hd

/-! ### what follows -/
/-- from (μ, S, H): wherever the store is S', P holds -/
def Nx (K : PySem.W.Frag) (mg : Str → Option Value) (μ : Nat → Addr) (S : Sto) (Y : List Addr) (H : Hp) (S' : Sto) (P : (Nat → Addr) → Hp → Prop) : Prop :=
  ∀ μ' H', Gr μ S.length H μ' S'.length H' → RS K mg μ' S' Y H' → P μ' H'
theorem Nx.shift {S S1 S' : Sto} {P : (Nat → Addr) → Hp → Prop} (x : Nx K mg μ S Y H S' P) (g : Gr μ S.length H μ1 S1.length H1) : Nx K mg μ1 S1 Y H1 S' P :=
  fun μ' H' g' r => x μ' H' (g.trans g' r.inj) r
theorem Nx.here {S : Sto} {P : (Nat → Addr) → Hp → Prop} (x : Nx K mg μ S Y H S P) (r : RS K mg μ S Y H) : P μ H := x μ H Gr.refl r
theorem Nx.imp {S S' : Sto} {P Q : (Nat → Addr) → Hp → Prop} (x : Nx K mg μ S Y H S' P) (h : ∀ μ' H', Gr μ S.length H μ' S'.length H' → RS K mg μ' S' Y H' → P μ' H' → Q μ' H') : Nx K mg μ S Y H S' Q :=
  fun μ' H' g r => h μ' H' g r (x μ' H' g r)
theorem Nx.fresh {S : Sto} {P : (Nat → Addr) → Hp → Prop} (x : Nx K mg μ S Y H S P) (r : RS K mg μ S Y H) {p : Addr} {ho : HO} (hp : H p = none) : P μ (upd H p ho) := x _ _ (Gr.fresh r hp) (r.fresh hp)
theorem Nx.new {S : Sto} {P : (Nat → Addr) → Hp → Prop} {o : SO} (x : Nx K mg μ S Y H (S ++ [o]) P) (r : RS K mg μ S Y H) {p : Addr} {ho : HO} (hp : H p = none) (hb : RO K mg (ext1 μ S.length p) (S.length + 1) Y (upd H p ho) p o) :
    P (ext1 μ S.length p) (upd H p ho) := x _ _ (by rw [List.length_append, List.length_singleton]; exact Gr.new1 r hp) (r.new hp hb)
theorem Nx.write {S : Sto} {P : (Nat → Addr) → Hp → Prop} {k : Nat} {o : SO} (x : Nx K mg μ S Y H (S.set k o) P) (r : RS K mg μ S Y H) {ho : HO} (hk : k < S.length) (hb : RO K mg μ S.length Y (upd H (μ k) ho) (μ k) o) :
    P μ (upd H (μ k) ho) := x _ _ (by rw [List.length_set]; exact Gr.write r hk) (r.write hk hb)

/-! ### the slots -/
abbrev Rho := List (Option U)
/-- the slots: what is known of them -/
def RE (K : PySem.W.Frag) (mg : Str → Option Value) (μ : Nat → Addr) (n : Nat) (Y : List Addr) (H : Hp) (ρ : Rho) (σ : L2.St) : Prop := ρ.length = σ.length ∧ ∀ (i : Nat) u, ρ[i]? = some (some u) → ∃ v, σ[i]? = some (some v) ∧ RU K mg μ n Y H u v
theorem RE.mono {ρ : Rho} {σ : L2.St} (e : RE K mg μ n Y H ρ σ) (g : Gr μ n H μ' n' H') : RE K mg μ' n' Y H' ρ σ :=
  ⟨e.1, fun i u h => let ⟨v, h1, h2⟩ := e.2 i u h; ⟨v, h1, h2.mono g⟩⟩
theorem RE.set {ρ : Rho} {σ : L2.St} (e : RE K mg μ n Y H ρ σ) {u : U} {v : V} (i : Nat) (r : RU K mg μ n Y H u v) : RE K mg μ n Y H (ρ.set i (some u)) (σ.set i (some v)) := by
  refine ⟨by simp [e.1], fun j w h => ?_⟩
  by_cases q : i = j
  · subst q
    by_cases hi : i < ρ.length
    · rw [List.getElem?_set_self hi] at h
      have h := Option.some.inj (Option.some.inj h)
      subst h
      exact ⟨v, by rw [List.getElem?_set_self (by rw [← e.1]; exact hi)], r⟩
    · rw [List.getElem?_eq_none (by simp; omega)] at h
      cases h
  · rw [List.getElem?_set_ne q] at h
    obtain ⟨w', h1, h2⟩ := e.2 j w h
    exact ⟨w', by rw [List.getElem?_set_ne q]; exact h1, h2⟩
theorem RE.wipe1 {ρ : Rho} {σ : L2.St} (e : RE K mg μ n Y H ρ σ) (i : Nat) : RE K mg μ n Y H (ρ.set i none) (σ.set i none) := by
  refine ⟨by simp [e.1], fun j w h => ?_⟩
  by_cases q : i = j
  · subst q
    by_cases hi : i < ρ.length
    · rw [List.getElem?_set_self hi] at h; cases h
    · rw [List.getElem?_eq_none (by simp; omega)] at h; cases h
  · rw [List.getElem?_set_ne q] at h
    obtain ⟨w', h1, h2⟩ := e.2 j w h
    exact ⟨w', by rw [List.getElem?_set_ne q]; exact h1, h2⟩
end
end Z

set_option Elab.async false
set_option linter.all false
set_option maxRecDepth 100000
set_option maxHeartbeats 400000
/-! Z2: the text in short (places for names, no positions), and what it comes to. -/
namespace Z
open PySem PySem.Spec PyProof.Rows L2

inductive BO where | add | sub | mul | md | fd | pw
  deriving DecidableEq
-- a built-in function
inductive BF where | len | tuple | int | abs | all | any | sum | min
  deriving DecidableEq
-- a built-in type
inductive BT where | int | bool | str | tuple | list | dict
  deriving DecidableEq
inductive CO where | lt | le | gt | ge | eq | ne | inn | nin
  deriving DecidableEq
mutual
inductive CT where
  | name (i : Nat) | tup (ts : CTs)
inductive CTs where
  | nil | cons (t : CT) (ts : CTs)
end
mutual
/-- an expression -/
inductive CE where
  | var (i : Nat) | int (i : Int) | str (s : Str) | non | bl (b : Bool) | glob (x : Str)
  | bin (o : BO) (a b : CE) | neg (a : CE)
  | cmp (o : CO) (a b : CE) | isN (a : CE) | notN (a : CE) | chn (o o' : CO) (a b c : CE)
  | bop (an : Bool) (as : CEs) | not (a : CE) | ite (t a b : CE)
  | call (f : Str) (as : CEs) | bi (f : BF) (as : CEs) | isi (a : CE) (T : BT)
  | idx (a i : CE) | sl (a : CE) (lo hi : CEs) | rev (a : CE)
  | tup (as : CEs) | tmp (n : CN) | mk (n : CN)
  | meth (C m : Str) (o : CE) (as : CEs) (ks : List Str) (kws : CEs)
  | nope | repr (a : CE) | dget (x : Str) (a : CE) | din (x : Str) (no : Bool) (a : CE) | callL (i : Nat) (as : CEs)
  | fld (C f : Str) (o : CE) | new (C : Str) (as : CEs) | isE (a : CE) (C : Str) | isEs (a : CE) (Cs : List Str) | cntB (o : CE) (b : Bool) | ixOf (o e : CE)
/-- expressions in a row -/
inductive CEs where
  | nil | cons (e : CE) (es : CEs)
/-- what makes a new list -/
inductive CN where
  | lst (as : CEs) | lc (tg : CT) (it : CI) (cnd : CEs) (elt : CE) (own : List (Str × Nat)) | listOf (a : CE) | cat (a b : CE) | rep (a b : CE)
/-- what a for walks -/
inductive CI where
  | seq (e : CE) | rng1 (a : CE) | rng2 (a b : CE) | enum (e : CE) | zip (st : Bool) (a b : CE) | enumZ (a b : CE)
end

/-! ### values -/
/-- a list's items -/
def lstOf (S : Sto) : U → Option (List U)
  | .tl us => some us
  | .rl us => some us
  | .obj k => match S[k]? with
    | some (.lst us) => some us
    | _ => none
  | _ => none
-- a list's items, no locked one's
def lstH (S : Sto) : U → Option (List U)
  | .tl us => some us
  | .obj k => match S[k]? with
    | some (.lst us) => some us
    | _ => none
  | _ => none
def tupOf : U → Option (List U)
  | .tup us => some us
  | _ => none
def seqOf (S : Sto) (u : U) : Option (List U) := match u with
  | .tup us => some us
  | u => lstOf S u
-- as data, to some depth
mutual
def dat (S : Sto) : Nat → U → Option PyData
  | 0, _ => none
  | _ + 1, .non => some .none
  | _ + 1, .bl b => some (.bool b)
  | _ + 1, .int i => some (.int i)
  | _ + 1, .str s => some (.str s)
  | n + 1, .tup us => (datA S n us).map .tuple
  | n + 1, .tl us => (datA S n us).map .list
  | n + 1, .rl us => (datA S n us).map .list
  | n + 1, .obj k => match S[k]? with
    | some (.lst us) => (datA S n us).map .list
    | _ => none
  | _ + 1, .fn _ => none
  | _ + 1, .exc _ => none
def datA (S : Sto) : Nat → List U → Option (List PyData)
  | _, [] => some []
  | n, u :: us => match dat S n u, datA S n us with
    | some d, some ds => some (d :: ds)
    | _, _ => none
end
/-- what holds no thing in it -/
def U.flat : U → Bool
  | .non => true
  | .bl _ => true
  | .int _ => true
  | .str _ => true
  | _ => false
def U.isNon : U → Bool
  | .non => true
  | _ => false
def flatD : U → V
  | .bl b => .bl b
  | .int i => .int i
  | .str s => .str s
  | _ => .non
/-- where the ints are -/
def intsOf : List U → Option (List Int)
  | [] => some []
  | .int i :: r => (intsOf r).map (i :: ·)
  | _ => none
def blsOf : List U → Option (List Bool)
  | [] => some []
  | .bl i :: r => (blsOf r).map (i :: ·)
  | _ => none

def binE (S : Sto) : BO → U → U → Option U
  | .add, .int i, .int j => some (.int (i + j))
  | .add, .str x, .str y => if x.length + y.length ≤ sizeLine then some (.str (x ++ y)) else none
  | .add, .tup xs, .tup ys => if xs.length + ys.length ≤ sizeLine then some (.tup (xs ++ ys)) else none
  | .sub, .int i, .int j => some (.int (i - j))
  | .mul, .int i, .int j => if i.natAbs.log2 + j.natAbs.log2 < 1000000 then some (.int (i * j)) else none
  | .mul, .tup xs, .int k => if k = 1 then some (.tup xs) else if xs ≠ [] ∧ 2 ≤ k ∧ k ≤ 1000 ∧ xs.length ≤ 1000 then some (.tup (List.replicate k.toNat xs).flatten) else none
  | .md, .int i, .int j => if j ≠ 0 then some (.int (i.fmod j)) else none
  | .fd, .int i, .int j => if 0 < j ∧ j.natAbs.log2 < 9000 then some (.int (i / j)) else none
  | .pw, .int i, .int j => if 0 ≤ j ∧ j ≤ 1000000 ∧ i.natAbs < 2 ^ 64 then some (.int (i ^ j.toNat)) else none
  | .add, x, y => match lstH S x, lstH S y with
    | some xs, some ys => if xs.length + ys.length ≤ sizeLine then some (.tl (xs ++ ys)) else none
    | _, _ => none
  | _, _, _ => none
def inE (S : Sto) (u w : U) : Option Bool := match seqOf S w with
  | some us => if u.flat && us.all U.flat then some (inV (flatD u) (us.map flatD)) else none
  | none => none
def cmpE (S : Sto) : CO → U → U → Option Bool
  | .lt, .int i, .int j => some (decide (i < j))
  | .le, .int i, .int j => some (decide (i ≤ j))
  | .gt, .int i, .int j => some (decide (j < i))
  | .ge, .int i, .int j => some (decide (j ≤ i))
  | .eq, .str x, .str y => some (decide (x = y))
  | .eq, .int x, .int y => some (decide (x = y))
  | .ne, .str x, .str y => some (!decide (x = y))
  | .ne, .int x, .int y => some (!decide (x = y))
  | .eq, x, y => match dat S 12 x, dat S 12 y with
    | some d, some e => if SeqAt.shaped d && SeqAt.shaped e then some (PyData.eqv d e) else none
    | _, _ => none
  | .ne, x, y => match dat S 12 x, dat S 12 y with
    | some d, some e => if SeqAt.shaped d && SeqAt.shaped e then some (!PyData.eqv d e) else none
    | _, _ => none
  | .inn, x, y => inE S x y
  | .nin, x, y => (inE S x y).map (!·)
  | _, _, _ => none
def idxE (S : Sto) : U → U → Option U
  | x, .int i => match seqOf S x with
    | some us => atI us i
    | none => none
  | _, _ => none
def cutU (us : List U) (lo hi : Option Int) : List U := (us.drop (HT.sIx us.length 0 lo)).take (HT.sIx us.length us.length hi - HT.sIx us.length 0 lo)
def slE (S : Sto) (x : U) (lo hi : Option Int) : Option U := match x with
  | .tup us => some (.tup (cutU us lo hi))
  | x => match lstOf S x with
    | some us => some (.tl (cutU us lo hi))
    | none => none
def revE (S : Sto) (x : U) : Option U := match x with
  | .tup us => some (.tup us.reverse)
  | x => (lstOf S x).map fun us => .tl us.reverse
def minL : List Int → Int
  | [] => 0
  | [a] => a
  | a :: b :: r => if a ≤ minL (b :: r) then a else minL (b :: r)
/-- the built-in functions -/
def biE (S : Sto) : BF → List U → Option U
  | .len, [x] => match x with
    | .str z => if z.length ≤ sizeLine then some (.int z.length) else none
    | x => (seqOf S x).map fun us => .int us.length
  | .tuple, [x] => (seqOf S x).map .tup
  | .int, [.int i] => some (.int i)
  | .int, [.bl b] => some (.int (if b then 1 else 0))
  | .abs, [.int i] => some (.int (if i < 0 then -i else i))
  | .all, [x] => ((lstOf S x).bind blsOf).map fun bs => .bl (bs.all id)
  | .any, [x] => ((lstOf S x).bind blsOf).map fun bs => .bl (bs.any id)
  | .sum, [x] => ((lstOf S x).bind intsOf).map fun ns => .int ns.sum
  | .min, [x] => ((seqOf S x).bind intsOf).bind fun ns => if ns = [] then none else some (.int (minL ns))
  | _, _ => none
def tyE (S : Sto) : U → Option (Option BT)
  | .non => some none
  | .bl _ => some (some .bool)
  | .int _ => some (some .int)
  | .str _ => some (some .str)
  | .tup _ => some (some .tuple)
  | .tl _ => some (some .list)
  | .rl _ => some (some .list)
  | .obj k => match S[k]? with
    | some (.lst _) => some (some .list)
    | some (.dct _) => some (some .dict)
    | _ => none
  | .fn _ => none
  | .exc _ => none
def isiT : Option BT → BT → Bool
  | some .bool, .int => true
  | some t, T => decide (t = T)
  | none, _ => false
def isiE (S : Sto) (u : U) (T : BT) : Option Bool := (tyE S u).map fun t => isiT t T
/-- a value's written form -/
def U.isRef : U → Bool
  | .tup _ => true
  | .tl _ => true
  | .rl _ => true
  | .obj _ => true
  | _ => false
def reprE (S : Sto) (u : U) : Option U := match dat S 12 u with
  | some d => if (u.isRef && (d.showable && decide (d.shown.length ≤ sizeLine))) = true then some (.str d.shown) else none
  | none => none
/-- what the program's own names are worth -/
structure Th where
  dom : Str → Bool
  fn : Str → List U → Sto → Res U
  gl : Str → Option U
  mdom : Str → Str → Bool
  me : Str → Str → List U → Sto → Res U
  mks : Str → Str → List Str
  fldB : Str → Str → Bool
  excB : Str → Bool
  clsB : Str → Bool
  sub : Str → Str → Option Bool
  dct : Str → Option (Str → Option (Option U))

/-- is it of one of these -/
def subAny (T : Th) (D : Str) : List Str → Option Bool
  | [] => some false
  | C :: r => match T.sub D C with
    | some true => some true
    | some false => subAny T D r
    | none => none
/-- the first place of an equal one, of flat values -/
def ixFlat (y : U) : List U → Option Nat
  | [] => none
  | x :: r => if eqV (flatD x) (flatD y) = true then some 0 else (ixFlat y r).map (· + 1)
def ofO {α : Type} (S : Sto) : Option α → Res α
  | some a => .ok a S
  | none => .no
def ofS {α : Type} : Option (α × Sto) → Res α
  | some (a, S) => .ok a S
  | none => .no
-- a target takes a value
mutual
def asgT : CT → U → Rho → Option Rho
  | .name i, u, ρ => some (ρ.set i (some u))
  | .tup ts, u, ρ => match u with
    | .tup us => asgTs ts us ρ
    | _ => none
def asgTs : CTs → List U → Rho → Option Rho
  | .nil, [], ρ => some ρ
  | .cons t ts, u :: us, ρ => (asgT t u ρ).bind fun ρ' => asgTs ts us ρ'
  | _, _, _ => none
end
def wipeR (ρ : Rho) : List Nat → Rho
  | [] => ρ
  | v :: vs => (wipeR ρ vs).set v none
/-- what is walked -/
inductive Src where
  | seq (u : U) | rng (lo : Int) (n : Nat) | enum (u : U) | zip (st : Bool) (u w : U) | ez (u w : U)
/-- the i-th item: there, at an end, or not told -/
def Src.at_ (S : Sto) : Src → Nat → Option (Option U)
  | .seq u, i => (seqOf S u).map fun us => us[i]?
  | .rng lo n, i => some (if i < n then some (.int (lo + i)) else none)
  | .enum u, i => match seqOf S u with
    | some us => if us.length < i then none else some (us[i]?.map fun x => .tup [.int i, x])
    | none => none
  | .zip st u w, i => match seqOf S u, seqOf S w with
    | some xs, some ys => match xs[i]?, ys[i]? with
      | some x, some y => some (some (.tup [x, y]))
      | none, none => some none
      | _, _ => if st then none else some none
    | _, _ => none
  | .ez u w, i => match tupOf u, tupOf w with
    | some xs, some ys => match xs[i]?, ys[i]? with
      | some x, some y => some (some (.tup [.int i, .tup [x, y]]))
      | _, _ => some none
    | _, _ => none
def Src.len (S : Sto) : Src → Nat
  | .ez u w => min ((tupOf u).getD []).length ((tupOf w).getD []).length
  | .seq u => ((seqOf S u).getD []).length
  | .rng _ n => n
  | .enum u => ((seqOf S u).getD []).length
  | .zip _ u w => min ((seqOf S u).getD []).length ((seqOf S w).getD []).length
/-- a comprehension's turns: st takes an item and gives the new element, or nothing where it is left out; at most n turns more, the i-th is next -/
def lcGo (src : Src) (st : U → Sto → Res (Option U)) : Nat → Nat → List U → Sto → Res (List U)
  | n, i, acc, S => match src.at_ S i with
    | none => .no
    | some none => .ok acc S
    | some (some x) => match n with
      | 0 => .no
      | n + 1 => match st x S with
        | .ok (some u) S' => if acc.length < sizeLine then lcGo src st n (i + 1) (acc ++ [u]) S' else .no
        | .ok none S' => lcGo src st n (i + 1) acc S'
        | _ => .no

/-! ### what expressions come to -/
variable (T : Th)
mutual
def ev : CE → Rho → Sto → Res U
  | .var i, ρ, S => match ρ[i]? with
    | some (some u) => .ok u S
    | _ => .no
  | .int i, _, S => .ok (.int i) S
  | .str s, _, S => .ok (.str s) S
  | .non, _, S => .ok .non S
  | .bl b, _, S => .ok (.bl b) S
  | .glob x, _, S => ofO S (T.gl x)
  | .bin o a b, ρ, S => (ev a ρ S).bind fun u S1 => (ev b ρ S1).bind fun w S2 => ofO S2 (binE S2 o u w)
  | .neg a, ρ, S => (ev a ρ S).bind fun u S1 => match u with
    | .int i => .ok (.int (-i)) S1
    | _ => .no
  | .cmp o a b, ρ, S => (ev a ρ S).bind fun u S1 => (ev b ρ S1).bind fun w S2 => ofO S2 ((cmpE S2 o u w).map U.bl)
  | .isN a, ρ, S => (ev a ρ S).bind fun u S1 => .ok (.bl u.isNon) S1
  | .notN a, ρ, S => (ev a ρ S).bind fun u S1 => .ok (.bl (!u.isNon)) S1
  | .chn o o' a b c, ρ, S => (ev a ρ S).bind fun u S1 => (ev b ρ S1).bind fun w S2 => match cmpE S2 o u w with
    | some true => (ev c ρ S2).bind fun z S3 => ofO S3 ((cmpE S3 o' w z).map U.bl)
    | some false => .ok (.bl false) S2
    | none => .no
  | .bop an as, ρ, S => evB an as ρ S
  | .not a, ρ, S => (ev a ρ S).bind fun u S1 => match u with
    | .bl b => .ok (.bl (!b)) S1
    | _ => .no
  | .ite t a b, ρ, S => (ev t ρ S).bind fun u S1 => match u with
    | .bl true => ev a ρ S1
    | .bl false => ev b ρ S1
    | _ => .no
  | .call f as, ρ, S => if T.dom f = true then (evs as ρ S).bind fun us S1 => T.fn f us S1 else .no
  | .bi f as, ρ, S => (evs as ρ S).bind fun us S1 => ofO S1 (biE S1 f us)
  | .isi a t, ρ, S => (ev a ρ S).bind fun u S1 => ofO S1 ((isiE S1 u t).map U.bl)
  | .idx a i, ρ, S => (ev a ρ S).bind fun u S1 => (ev i ρ S1).bind fun w S2 => ofO S2 (idxE S2 u w)
  | .sl a lo hi, ρ, S => (ev a ρ S).bind fun u S1 => (evO lo ρ S1).bind fun l S2 => (evO hi ρ S2).bind fun h S3 => ofO S3 (slE S3 u l h)
  | .rev a, ρ, S => (ev a ρ S).bind fun u S1 => ofO S1 (revE S1 u)
  | .tup as, ρ, S => (evs as ρ S).bind fun us S1 => if us.length ≤ sizeLine then .ok (.tup us) S1 else .no
  | .tmp n, ρ, S => (evN n ρ S).bind fun us S1 => .ok (.tl us) S1
  | .mk n, ρ, S => (evN n ρ S).bind fun us S1 => .ok (.obj S1.length) (S1 ++ [.lst us])
  | .nope, _, _ => .no
  | .repr a, ρ, S => (ev a ρ S).bind fun u S1 => ofO S1 (reprE S1 u)
  | .dget x a, ρ, S => match T.dct x with
    | some d => (ev a ρ S).bind fun u S1 => match u with
      | .str z => ofO S1 ((d z).bind id)
      | _ => .no
    | none => .no
  | .din x no a, ρ, S => match T.dct x with
    | some d => (ev a ρ S).bind fun u S1 => match u with
      | .str z => ofO S1 ((d z).map fun r => .bl (if no then !r.isSome else r.isSome))
      | _ => .no
    | none => .no
  | .callL i as, ρ, S => match ρ[i]? with
    | some (some (.fn f)) => if T.dom f = true then (evs as ρ S).bind fun us S1 => T.fn f us S1 else .no
    | _ => .no
  | .fld C f o, ρ, S => (ev o ρ S).bind fun u S1 => match u with
    | .obj k => match S1[k]? with
      | some (.ins D fs) => if D = C ∧ T.fldB C f = true then ofO S1 (fs.lookup f) else .no
      | _ => .no
    | _ => .no
  | .new C as, ρ, S => if T.mdom C "__init__" = true ∧ T.mks C "__init__" = [] then (evs as ρ S).bind fun us S1 => (T.me C "__init__" (.obj S1.length :: us) (S1 ++ [.ins C []])).bind fun w S2 => match w with
    | .non => .ok (.obj S1.length) S2
    | _ => .no
    else .no
  | .isE a C, ρ, S => if T.clsB C = true then (ev a ρ S).bind fun u S1 => match u with
    | .exc D => ofO S1 ((T.sub D C).map U.bl)
    | _ => .no
    else .no
  | .isEs a Cs, ρ, S => if (Cs.all T.clsB && decide (0 < Cs.length ∧ Cs.length < 100)) = true then (ev a ρ S).bind fun u S1 => match u with
    | .exc D => ofO S1 ((subAny T D Cs).map U.bl)
    | _ => .no
    else .no
  | .cntB o b, ρ, S => (ev o ρ S).bind fun u S1 => match lstOf S1 u with
    | some us => ofO S1 ((blsOf us).map fun bs => .int (bs.count b : Nat))
    | none => .no
  | .ixOf o e, ρ, S => (ev o ρ S).bind fun u S1 => if (lstOf S1 u).isSome = true then (ev e ρ S1).bind fun w S2 => match lstOf S2 u with
    | some us => if (w.flat && us.all U.flat) = true then ofO S2 ((ixFlat w us).map fun j => .int (j : Nat)) else .no
    | none => .no
    else .no
  | .meth C m o as ks kws, ρ, S => if T.mdom C m = true ∧ ks = T.mks C m ∧ m ≠ "__init__" then (ev o ρ S).bind fun u S1 => match u with
    | .obj k => match S1[k]? with
      | some (.ins D fs) => if D = C ∧ fs.lookup m = none then (evs as ρ S1).bind fun us S2 => (evs kws ρ S2).bind fun ws S3 => if ws.length = ks.length then T.me C m (.obj k :: us ++ ws) S3 else .no else .no
      | _ => .no
    | _ => .no
    else .no
def evs : CEs → Rho → Sto → Res (List U)
  | .nil, _, S => .ok [] S
  | .cons e es, ρ, S => (ev e ρ S).bind fun u S1 => (evs es ρ S1).bind fun us S2 => .ok (u :: us) S2
-- and, or: all but the last are truths
def evB (an : Bool) : CEs → Rho → Sto → Res U
  | .nil, _, _ => .no
  | .cons e es, ρ, S => match es with
    | .nil => ev e ρ S
    | es => (ev e ρ S).bind fun u S1 => match u with
      | .bl b => if b = an then evB an es ρ S1 else .ok (.bl b) S1
      | _ => .no
-- a part of a slice
def evO : CEs → Rho → Sto → Res (Option Int)
  | .nil, _, S => .ok none S
  | .cons e _, ρ, S => (ev e ρ S).bind fun u S1 => match u with
    | .int i => .ok (some i) S1
    | _ => .no
def evN : CN → Rho → Sto → Res (List U)
  | .lst as, ρ, S => (evs as ρ S).bind fun us S1 => if us.length ≤ sizeLine then .ok us S1 else .no
  | .lc tg it cnd elt own, ρ, S => (evI it ρ S).bind fun src S1 => lcGo src (fun x S2 => match asgT tg x (wipeR ρ (own.map (·.2))) with
    | none => .no
    | some ρ' => match cnd with
      | .nil => (ev elt ρ' S2).bind fun u S3 => .ok (some u) S3
      | .cons c _ => (ev c ρ' S2).bind fun b S3 => match b with
        | .bl true => (ev elt ρ' S3).bind fun u S4 => .ok (some u) S4
        | .bl false => .ok none S3
        | _ => .no) (src.len S1) 0 [] S1
  | .listOf a, ρ, S => (ev a ρ S).bind fun u S1 => ofO S1 (seqOf S1 u)
  | .cat a b, ρ, S => (ev a ρ S).bind fun u S1 => (ev b ρ S1).bind fun w S2 => match lstH S2 u, lstH S2 w with
    | some xs, some ys => if xs.length + ys.length ≤ sizeLine then .ok (xs ++ ys) S2 else .no
    | _, _ => .no
  | .rep a b, ρ, S => (ev a ρ S).bind fun u S1 => (ev b ρ S1).bind fun w S2 => match lstH S2 u, w with
    | some xs, .int k => if 0 ≤ k ∧ k ≤ 1000 ∧ xs.length ≤ 1000 then .ok (List.replicate k.toNat xs).flatten S2 else .no
    | _, _ => .no
def evI : CI → Rho → Sto → Res Src
  | .seq e, ρ, S => (ev e ρ S).bind fun u S1 => if (seqOf S1 u).isSome then .ok (.seq u) S1 else .no
  | .rng1 a, ρ, S => (ev a ρ S).bind fun u S1 => match u with
    | .int j => if -(2 ^ 62) ≤ j ∧ j < 2 ^ 62 then .ok (.rng 0 j.toNat) S1 else .no
    | _ => .no
  | .rng2 a b, ρ, S => (ev a ρ S).bind fun u S1 => (ev b ρ S1).bind fun w S2 => match u, w with
    | .int i, .int j => if -(2 ^ 62) ≤ i ∧ i < 2 ^ 62 ∧ -(2 ^ 62) ≤ j ∧ j < 2 ^ 62 then .ok (.rng i (j - i).toNat) S2 else .no
    | _, _ => .no
  | .enum e, ρ, S => (ev e ρ S).bind fun u S1 => if (seqOf S1 u).isSome then .ok (.enum u) S1 else .no
  | .enumZ a b, ρ, S => (ev a ρ S).bind fun u S1 => (ev b ρ S1).bind fun w S2 => if ((tupOf u).isSome && (tupOf w).isSome) = true then .ok (.ez u w) S2 else .no
  | .zip st a b, ρ, S => (ev a ρ S).bind fun u S1 => (ev b ρ S1).bind fun w S2 => if (if st then decide ((tupOf u).isSome ∧ (tupOf u).map List.length = (tupOf w).map List.length) else ((lstOf S2 u).isSome && (lstOf S2 w).isSome) || ((tupOf u).isSome && (tupOf w).isSome)) then .ok (.zip st u w) S2 else .no
end
end Z

set_option Elab.async false
set_option linter.all false
set_option maxRecDepth 100000
set_option maxHeartbeats 800000
/-! Z3: what an expression comes to, as a reading of the layer; operators. -/
namespace Z
open PySem PySem.Spec PyProof.Rows L2
section
variable {K : PySem.W.Frag} {mg : Str → Option Value} {Y : List Addr} {μ μ' μ1 : Nat → Addr} {n n' n1 : Nat} {H H' H1 : Hp} {S S1 S' : Sto} {α β : Type} {W : WX} {σ : L2.St}
/-- the exception x as the layer has it: its class, its own dict -/
def RX (K : PySem.W.Frag) (mg : Str → Option Value) (μ : Nat → Addr) (n : Nat) (Y : List Addr) (H : Hp) (x : Xn) (cls : Value) (d : Option Addr) : Prop :=
  ∃ c, mg x.1 = some (.ref c) ∧ cls = .ref c ∧ match x.2 with
    | none => d = none
    | some (f, u) => ∃ dd v, d = some dd ∧ H dd = some (.xd [(f, v)]) ∧ RU K mg μ n Y H u v
def Fin (K : PySem.W.Frag) (mg : Str → Option Value) (W : WX) (σ : L2.St) (μ : Nat → Addr) (S : Sto) (Y : List Addr) (H : Hp) (r : Res α) (P : α → Sto → (Nat → Addr) → Hp → Prop) : Prop := match r with
  | .ok a S' => Nx K mg μ S Y H S' (P a S')
  | .ex x S' => Nx K mg μ S Y H S' fun μ' H' => ∀ cls d, RX K mg μ' S'.length Y H' x cls d → W cls d σ H'
  | .no => False
theorem Fin.shift {r : Res α} {P : α → Sto → (Nat → Addr) → Hp → Prop} (x : Fin K mg W σ μ S Y H r P) (g : Gr μ S.length H μ1 S1.length H1) : Fin K mg W σ μ1 S1 Y H1 r P := by
  cases r with
  | ok a S' => exact Nx.shift x g
  | ex e S' => exact Nx.shift x g
  | no => exact x
theorem Fin.bind {r : Res α} {f : α → Sto → Res β} {P : β → Sto → (Nat → Addr) → Hp → Prop} (x : Fin K mg W σ μ S Y H (r.bind f) P) : Fin K mg W σ μ S Y H r (fun a S1 μ1 H1 => Fin K mg W σ μ1 S1 Y H1 (f a S1) P) := by
  cases r with
  | ok a S1 => exact fun μ1 H1 g _ => Fin.shift (show Fin K mg W σ μ S Y H (f a S1) P from x) g
  | ex e S' => exact x
  | no => exact x
theorem Fin.imp {r : Res α} {P Q : α → Sto → (Nat → Addr) → Hp → Prop} (x : Fin K mg W σ μ S Y H r P) (h : ∀ a S1 μ1 H1, Gr μ S.length H μ1 S1.length H1 → RS K mg μ1 S1 Y H1 → P a S1 μ1 H1 → Q a S1 μ1 H1) : Fin K mg W σ μ S Y H r Q := by
  cases r with
  | ok a S' => exact fun μ1 H1 g r => h a S' μ1 H1 g r (x μ1 H1 g r)
  | ex e S' => exact x
  | no => exact x
abbrev PU (K : PySem.W.Frag) (mg : Str → Option Value) (Y : List Addr) (Q : VK) : U → Sto → (Nat → Addr) → Hp → Prop := fun u S' μ' H' => ∀ v, RU K mg μ' S'.length Y H' u v → Q v H'
abbrev PUs (K : PySem.W.Frag) (mg : Str → Option Value) (Y : List Addr) (Q : List V → Hp → Prop) : List U → Sto → (Nat → Addr) → Hp → Prop := fun us S' μ' H' => ∀ vs, RUs K mg μ' S'.length Y H' us vs → Q vs H'
/-- the reading of what comes to f -/
def tE (K : PySem.W.Frag) (mg : Str → Option Value) (W : WX) (f : Rho → Sto → Res U) : TE := fun σ H Q => ∃ μ ρ S Y, RS K mg μ S Y H ∧ RE K mg μ S.length Y H ρ σ ∧ Fin K mg W σ μ S Y H (f ρ S) (PU K mg Y Q)
def tA (K : PySem.W.Frag) (mg : Str → Option Value) (W : WX) (f : Rho → Sto → Res (List U)) : TA := fun σ H Q => ∃ μ ρ S Y, RS K mg μ S Y H ∧ RE K mg μ S.length Y H ρ σ ∧ Fin K mg W σ μ S Y H (f ρ S) (PUs K mg Y Q)
def tT (K : PySem.W.Frag) (mg : Str → Option Value) (W : WX) (f : Rho → Sto → Res U) : TT := fun σ H Q => ∃ μ ρ S Y, RS K mg μ S Y H ∧ RE K mg μ S.length Y H ρ σ ∧ Fin K mg W σ μ S Y H (f ρ S) fun u S' μ' H' => ∃ b, u = .bl b ∧ Q b H'
/-- a part is read, the rest waits -/
theorem tE_of {f : Rho → Sto → Res U} {k : U → Sto → Res β} {ρ : Rho} {P : β → Sto → (Nat → Addr) → Hp → Prop} {Q : VK} (r : RS K mg μ S Y H) (e : RE K mg μ S.length Y H ρ σ) (x : Fin K mg W σ μ S Y H ((f ρ S).bind k) P)
    (h : ∀ u S1 μ1 H1 v, RS K mg μ1 S1 Y H1 → RE K mg μ1 S1.length Y H1 ρ σ → Gr μ S.length H μ1 S1.length H1 → RU K mg μ1 S1.length Y H1 u v → Fin K mg W σ μ1 S1 Y H1 (k u S1) P → Q v H1) : tE K mg W f σ H Q :=
  ⟨μ, ρ, S, Y, r, e, (Fin.bind x).imp fun u S1 μ1 H1 g r1 y v ru => h u S1 μ1 H1 v r1 (e.mono g) g ru y⟩
theorem tA_of {f : Rho → Sto → Res (List U)} {k : List U → Sto → Res β} {ρ : Rho} {P : β → Sto → (Nat → Addr) → Hp → Prop} {Q : List V → Hp → Prop} (r : RS K mg μ S Y H) (e : RE K mg μ S.length Y H ρ σ) (x : Fin K mg W σ μ S Y H ((f ρ S).bind k) P)
    (h : ∀ u S1 μ1 H1 v, RS K mg μ1 S1 Y H1 → RE K mg μ1 S1.length Y H1 ρ σ → Gr μ S.length H μ1 S1.length H1 → RUs K mg μ1 S1.length Y H1 u v → Fin K mg W σ μ1 S1 Y H1 (k u S1) P → Q v H1) : tA K mg W f σ H Q :=
  ⟨μ, ρ, S, Y, r, e, (Fin.bind x).imp fun u S1 μ1 H1 g r1 y v ru => h u S1 μ1 H1 v r1 (e.mono g) g ru y⟩
theorem tT_of {f : Rho → Sto → Res U} {k : U → Sto → Res β} {ρ : Rho} {P : β → Sto → (Nat → Addr) → Hp → Prop} {Q : Bool → Hp → Prop} (r : RS K mg μ S Y H) (e : RE K mg μ S.length Y H ρ σ) (x : Fin K mg W σ μ S Y H ((f ρ S).bind k) P)
    (h : ∀ u S1 μ1 H1, RS K mg μ1 S1 Y H1 → RE K mg μ1 S1.length Y H1 ρ σ → Gr μ S.length H μ1 S1.length H1 → Fin K mg W σ μ1 S1 Y H1 (k u S1) P → ∃ b, u = .bl b ∧ Q b H1) : tT K mg W f σ H Q :=
  ⟨μ, ρ, S, Y, r, e, (Fin.bind x).imp fun u S1 μ1 H1 g r1 y => h u S1 μ1 H1 r1 (e.mono g) g y⟩
theorem tE.mono {f : Rho → Sto → Res U} {Q Q' : VK} (x : tE K mg W f σ H Q) (h : ∀ v H, Q v H → Q' v H) : tE K mg W f σ H Q' :=
  let ⟨μ, ρ, S, Y, r, e, y⟩ := x; ⟨μ, ρ, S, Y, r, e, y.imp fun u S1 μ1 H1 _ _ z v ru => h v H1 (z v ru)⟩

/-! ### values beside values -/
theorem lstOf_sq {u : U} {v : V} {us : List U} (r : RS K mg μ S Y H) (h : RU K mg μ S.length Y H u v) (e : lstOf S u = some us) : ∃ a vs, v = .ref a ∧ SqL K H a vs ∧ RUs K mg μ S.length Y H us vs := by
  cases h with
  | tl h1 h2 _ h3 => cases e; exact ⟨_, _, rfl, SqL.of h1, h3⟩
  | rl h1 h3 => cases e; exact ⟨_, _, rfl, h1.sq, h3⟩
  | @obj k a hk ha =>
    replace e : (match S[k]? with | some (.lst us) => some us | _ => none) = some us := e
    cases q : S[k]? with
    | none => rw [q] at e; cases e
    | some o =>
      rw [q] at e
      cases o with
      | lst ws =>
        cases e
        obtain ⟨vs, h1, h2⟩ := r.at_ k _ q
        exact ⟨a, vs, rfl, SqL.of (by rw [ha]; exact h1), h2⟩
      | _ => cases e
  | _ => cases e
theorem lstH_sq {u : U} {v : V} {us : List U} (r : RS K mg μ S Y H) (h : RU K mg μ S.length Y H u v) (e : lstH S u = some us) : ∃ a vs, v = .ref a ∧ H a = some (.lst vs) ∧ RUs K mg μ S.length Y H us vs := by
  cases h with
  | tl h1 h2 _ h3 => cases e; exact ⟨_, _, rfl, h1, h3⟩
  | @obj k a hk ha =>
    replace e : (match S[k]? with | some (.lst us) => some us | _ => none) = some us := e
    cases q : S[k]? with
    | none => rw [q] at e; cases e
    | some o =>
      rw [q] at e
      cases o with
      | lst ws =>
        cases e
        obtain ⟨vs, h1, h2⟩ := r.at_ k _ q
        exact ⟨a, vs, rfl, by rw [ha]; exact h1, h2⟩
      | _ => cases e
  | _ => cases e
theorem tup_sq {us : List U} {v : V} (h : RU K mg μ n Y H (.tup us) v) : ∃ a vs, v = .ref a ∧ SqT K H a vs ∧ RUs K mg μ n Y H us vs := by
  cases h with
  | tup h1 h2 => exact ⟨_, _, rfl, h1, h2⟩
theorem seqOf_sq {u : U} {v : V} {us : List U} (r : RS K mg μ S Y H) (h : RU K mg μ S.length Y H u v) (e : seqOf S u = some us) : ∃ a vs, v = .ref a ∧ (SqL K H a vs ∨ SqT K H a vs) ∧ RUs K mg μ S.length Y H us vs := by
  by_cases q : ∃ ws, u = .tup ws
  · obtain ⟨ws, rfl⟩ := q
    cases e
    obtain ⟨a, vs, e1, e2, e3⟩ := tup_sq h
    exact ⟨a, vs, e1, .inr e2, e3⟩
  · have e' : lstOf S u = some us := by
      cases u with
      | tup ws => exact absurd ⟨ws, rfl⟩ q
      | _ => exact e
    obtain ⟨a, vs, e1, e2, e3⟩ := lstOf_sq r h e'
    exact ⟨a, vs, e1, .inl e2, e3⟩
mutual
theorem dat_ok (r : RS K mg μ S Y H) : ∀ (m : Nat) {u : U} {v : V} {d : PyData}, RU K mg μ S.length Y H u v → dat S m u = some d → Dp K H v d
  | 0, _, _, _, _, e => by simp [dat] at e
  | m + 1, .non, _, _, .non, e => by simp [dat] at e; subst e; exact .non
  | m + 1, .bl b, _, _, .bl _, e => by simp [dat] at e; subst e; exact .bl b
  | m + 1, .int i, _, _, .int _, e => by simp [dat] at e; subst e; exact .int i
  | m + 1, .str s, _, _, .str _, e => by simp [dat] at e; subst e; exact .str s
  | m + 1, .tup us, _, _, .tup h1 h2, e => by
    simp only [dat, Option.map_eq_some_iff] at e
    obtain ⟨ds, e1, rfl⟩ := e
    exact .tup h1 (datA_ok r m us h2 e1)
  | m + 1, .tl us, _, _, .tl h1 _ _ h2, e => by
    simp only [dat, Option.map_eq_some_iff] at e
    obtain ⟨ds, e1, rfl⟩ := e
    exact .lst (SqL.of h1) (datA_ok r m us h2 e1)
  | m + 1, .rl us, _, _, .rl h1 h2, e => by
    simp only [dat, Option.map_eq_some_iff] at e
    obtain ⟨ds, e1, rfl⟩ := e
    exact .lst h1.sq (datA_ok r m us h2 e1)
  | m + 1, .obj k, _, _, .obj hk ha, e => by
    simp only [dat] at e
    cases q : S[k]? with
    | none => rw [q] at e; cases e
    | some o =>
      rw [q] at e
      cases o with
      | lst ws =>
        simp only [Option.map_eq_some_iff] at e
        obtain ⟨ds, e1, rfl⟩ := e
        obtain ⟨vs, h1, h2⟩ := r.at_ k _ q
        exact .lst (SqL.of (by rw [ha]; exact h1)) (datA_ok r m ws h2 e1)
      | _ => cases e
  | m + 1, .fn x, _, _, .fn _, e => by simp [dat] at e
  | m + 1, .exc x, _, _, .exc .., e => by simp [dat] at e
theorem datA_ok (r : RS K mg μ S Y H) : ∀ (m : Nat) (us : List U) {vs : List V} {ds : List PyData}, RUs K mg μ S.length Y H us vs → datA S m us = some ds → DpAll K H vs ds
  | m, [], _, _, .nil, e => by simp [datA] at e; subst e; exact .nil
  | m, u :: us, _, _, .cons h1 h2, e => by
    simp only [datA] at e
    cases q : dat S m u with
    | none => rw [q] at e; cases e
    | some d =>
      cases q2 : datA S m us with
      | none => rw [q, q2] at e; cases e
      | some ds =>
        rw [q, q2] at e
        cases e
        exact .cons (dat_ok r m h1 q) (datA_ok r m us h2 q2)
end
mutual
theorem dat_depth : ∀ (m : Nat) (u : U) {d : PyData}, dat S m u = some d → d.depth ≤ m ∧ d.hasDict = false
  | 0, _, _, e => by simp [dat] at e
  | m + 1, .non, _, e => by simp [dat] at e; subst e; exact ⟨Nat.zero_le _, rfl⟩
  | m + 1, .bl b, _, e => by simp [dat] at e; subst e; exact ⟨Nat.zero_le _, rfl⟩
  | m + 1, .int i, _, e => by simp [dat] at e; subst e; exact ⟨Nat.zero_le _, rfl⟩
  | m + 1, .str s, _, e => by simp [dat] at e; subst e; exact ⟨Nat.zero_le _, rfl⟩
  | m + 1, .tup us, _, e => by
    simp only [dat, Option.map_eq_some_iff] at e
    obtain ⟨ds, e1, rfl⟩ := e
    have := datA_depth m us e1
    exact ⟨Nat.succ_le_succ this.1, this.2⟩
  | m + 1, .tl us, _, e => by
    simp only [dat, Option.map_eq_some_iff] at e
    obtain ⟨ds, e1, rfl⟩ := e
    have := datA_depth m us e1
    exact ⟨Nat.succ_le_succ this.1, this.2⟩
  | m + 1, .rl us, _, e => by
    simp only [dat, Option.map_eq_some_iff] at e
    obtain ⟨ds, e1, rfl⟩ := e
    have := datA_depth m us e1
    exact ⟨Nat.succ_le_succ this.1, this.2⟩
  | m + 1, .obj k, _, e => by
    simp only [dat] at e
    cases q : S[k]? with
    | none => rw [q] at e; cases e
    | some o =>
      rw [q] at e
      cases o with
      | lst ws =>
        simp only [Option.map_eq_some_iff] at e
        obtain ⟨ds, e1, rfl⟩ := e
        have := datA_depth m ws e1
        exact ⟨Nat.succ_le_succ this.1, this.2⟩
      | _ => cases e
  | m + 1, .fn x, _, e => by simp [dat] at e
  | m + 1, .exc x, _, e => by simp [dat] at e
theorem datA_depth : ∀ (m : Nat) (us : List U) {ds : List PyData}, datA S m us = some ds → PyData.depthAll ds ≤ m ∧ PyData.hasDictAll ds = false
  | m, [], _, e => by simp [datA] at e; subst e; exact ⟨Nat.zero_le _, rfl⟩
  | m, u :: us, _, e => by
    simp only [datA] at e
    cases q : dat S m u with
    | none => rw [q] at e; cases e
    | some d =>
      cases q2 : datA S m us with
      | none => rw [q, q2] at e; cases e
      | some ds =>
        rw [q, q2] at e
        cases e
        have h1 := dat_depth m u q
        have h2 := datA_depth m us q2
        refine ⟨?_, ?_⟩
        · show max _ _ ≤ m
          exact Nat.max_le.mpr ⟨h1.1, h2.1⟩
        · show (PyData.hasDict _ || PyData.hasDictAll _) = false
          rw [h1.2, h2.2]; rfl
end
theorem RU.isRef {u : U} {v : V} (h : RU K mg μ n Y H u v) (e : u.isRef = true) : ∃ a, v = .ref a := by
  cases h <;> first | exact ⟨_, rfl⟩ | cases e
theorem flat_ok {u : U} {v : V} (h : RU K mg μ n Y H u v) (f : u.flat = true) : v = flatD u ∧ flatV v = true := by
  cases h <;> first | exact ⟨rfl, rfl⟩ | cases f
theorem flats_ok : ∀ {us : List U} {vs : List V}, RUs K mg μ n Y H us vs → us.all U.flat = true → vs = us.map flatD ∧ vs.all flatV = true
  | _, _, .nil, _ => ⟨rfl, rfl⟩
  | _, _, .cons h r, f => by
    rw [List.all_cons, Bool.and_eq_true] at f
    obtain ⟨e1, e2⟩ := flat_ok h f.1
    obtain ⟨e3, e4⟩ := flats_ok r f.2
    rw [List.map_cons, List.all_cons, ← e1, ← e3, e2, e4]
    exact ⟨rfl, rfl⟩
theorem ints_ok : ∀ {us : List U} {vs : List V} {ns : List Int}, RUs K mg μ n Y H us vs → intsOf us = some ns → vs = ns.map V.int
  | _, _, _, .nil, e => by simp [intsOf] at e; subst e; rfl
  | _, _, _, .cons h r, e => by
    cases h with
    | int i =>
      simp only [intsOf, Option.map_eq_some_iff] at e
      obtain ⟨ms, e1, rfl⟩ := e
      rw [List.map_cons, ints_ok r e1]
    | _ => simp [intsOf] at e
theorem bls_ok : ∀ {us : List U} {vs : List V} {ns : List Bool}, RUs K mg μ n Y H us vs → blsOf us = some ns → vs = ns.map V.bl
  | _, _, _, .nil, e => by simp [blsOf] at e; subst e; rfl
  | _, _, _, .cons h r, e => by
    cases h with
    | bl i =>
      simp only [blsOf, Option.map_eq_some_iff] at e
      obtain ⟨ms, e1, rfl⟩ := e
      rw [List.map_cons, bls_ok r e1]
    | _ => simp [blsOf] at e
theorem RUs.atI {us : List U} {vs : List V} {i : Int} {u : U} (h : RUs K mg μ n Y H us vs) (e : L2.atI us i = some u) : ∃ v, L2.atI vs i = some v ∧ RU K mg μ n Y H u v := by
  unfold L2.atI at e ⊢
  rw [← h.length]
  cases q : ixN us.length i with
  | none => rw [q] at e; cases e
  | some j => rw [q] at e; exact h.get e
theorem RUs.cut {us : List U} {vs : List V} (h : RUs K mg μ n Y H us vs) (lo hi : Option Int) : RUs K mg μ n Y H (cutU us lo hi) (cutV vs lo hi) := by
  unfold cutU cutV
  rw [← h.length]
  exact (h.drop _).take _
theorem RUs.flatten : ∀ {us : List U} {vs : List V} (k : Nat), RUs K mg μ n Y H us vs → RUs K mg μ n Y H (List.replicate k us).flatten (List.replicate k vs).flatten
  | _, _, 0, _ => by simpa using RUs.nil
  | us, vs, k + 1, h => by
    rw [List.replicate_succ, List.replicate_succ, List.flatten_cons, List.flatten_cons]
    exact RUs.append h (RUs.flatten k h)
theorem RU.newTup {us : List U} {vs : List V} {p : Addr} (r : RS K mg μ S Y H) (hp : H p = none) (h : RUs K mg μ S.length Y H us vs) : RU K mg μ S.length Y (upd H p (.tup vs)) (.tup us) (.ref p) :=
  .tup (SqT.of upd_same) (h.mono (Gr.fresh r hp))
theorem RU.newTl {us : List U} {vs : List V} {p : Addr} (r : RS K mg μ S Y H) (hp : H p = none) (h : RUs K mg μ S.length Y H us vs) : RU K mg μ S.length Y (upd H p (.lst vs)) (.tl us) (.ref p) :=
  .tl upd_same (fun i hi q => r.off hp i hi q.symm) (fun q => (r.res p q).1 hp) (h.mono (Gr.fresh r hp))
end

/-! ### operators -/
section
variable {X : Cx} {W : WX}
theorem OpR.or {f : Value → Value → Sem Value} {r r' : R2} (h : OpR X f r) (h' : OpR X f r') : OpR X f (fun x y H Q => r x y H Q ∨ r' x y H Q) := by
  intro pins s σ H x y v u Q I rx ry q
  rcases q with q | q
  · exact h pins s σ H x y v u Q I rx ry q
  · exact h' pins s σ H x y v u Q I rx ry q
abbrev KX (X : Cx) (μ : Nat → Addr) (S : Sto) (Y : List Addr) (H : Hp) (z : U) (Q : VK) : Prop := Nx X.K X.mg μ S Y H S fun μ' H' => ∀ v, RU X.K X.mg μ' S.length Y H' z v → Q v H'
def OpOk (X : Cx) (f : Value → Value → Sem Value) (h : Sto → U → U → Option U) : Prop := ∃ r, OpR X f r ∧ ∀ μ S Y H u w z x y Q, RS X.K X.mg μ S Y H → RU X.K X.mg μ S.length Y H u x → RU X.K X.mg μ S.length Y H w y → h S u w = some z → KX X μ S Y H z Q → r x y H Q
theorem op_of {r : R2} {f : Value → Value → Sem Value} {h : Sto → U → U → Option U} (ho : OpR X f r) (hh : ∀ μ S Y H u w z x y Q, RS X.K X.mg μ S Y H → RU X.K X.mg μ S.length Y H u x → RU X.K X.mg μ S.length Y H w y → h S u w = some z → KX X μ S Y H z Q → r x y H Q) : OpOk X f h := ⟨r, ho, hh⟩
theorem bin_add : OpOk X (binaryOp .Add) fun S => binE S .add := by
  refine op_of (OpR.or op_add (OpR.or op_add_str (OpR.or op_catA op_cat))) fun μ S Y H u w z x y Q r ru rw' e k => ?_
  have lists : ∀ {a b : U}, (match lstH S a, lstH S b with
      | some xs, some ys => if xs.length + ys.length ≤ sizeLine then some (U.tl (xs ++ ys)) else none
      | _, _ => none) = some z → RU X.K X.mg μ S.length Y H a x → RU X.K X.mg μ S.length Y H b y → rCat x y H Q := fun {a b} e ra rb => by
    cases q1 : lstH S a with
    | none => rw [q1] at e; cases e
    | some xs =>
      cases q2 : lstH S b with
      | none => rw [q1, q2] at e; cases e
      | some ys =>
        rw [q1, q2] at e
        obtain ⟨l, vs, rfl, h1, h2⟩ := lstH_sq r ra q1
        obtain ⟨l', ws, rfl, h3, h4⟩ := lstH_sq r rb q2
        by_cases hz : xs.length + ys.length ≤ sizeLine
        · simp only [if_pos hz, Option.some.injEq] at e
          subst e
          refine ⟨l, l', vs, ws, rfl, rfl, h1, h3, by rw [← h2.length, ← h4.length]; exact hz, fun p hp => ?_⟩
          exact Nx.fresh k r hp _ (RU.newTl r hp (h2.append h4))
        · simp only [if_neg hz] at e
          cases e
  cases ru with
  | int i =>
    cases rw' with
    | int j => simp only [binE, Option.some.injEq] at e; subst e; exact .inl ⟨i, j, rfl, rfl, k.here r _ (.int _)⟩
    | _ => simp [binE, lstH] at e
  | str i =>
    cases rw' with
    | str j =>
      simp only [binE] at e
      by_cases hz : i.length + j.length ≤ sizeLine
      · simp only [if_pos hz, Option.some.injEq] at e; subst e; exact .inr (.inl ⟨i, j, rfl, rfl, hz, k.here r _ (.str _)⟩)
      · simp only [if_neg hz] at e; cases e
    | _ => simp [binE, lstH] at e
  | @tup us a vs h1 h2 =>
    cases rw' with
    | @tup us' a' vs' h3 h4 =>
      simp only [binE] at e
      by_cases hz : us.length + us'.length ≤ sizeLine
      · simp only [if_pos hz, Option.some.injEq] at e
        subst e
        refine .inr (.inr (.inl ⟨a, a', vs, vs', rfl, rfl, h1, h3, by rw [← h2.length, ← h4.length]; exact hz, fun q => ?_, fun q1 q2 => ?_, fun _ _ p hp => ?_⟩))
        · subst q
          cases h2
          exact k.here r _ (by rw [List.nil_append]; exact .tup h3 h4)
        · subst q2
          cases h4
          exact k.here r _ (by rw [List.append_nil]; exact .tup h1 h2)
        · exact Nx.fresh k r hp _ (RU.newTup r hp (h2.append h4))
      · simp only [if_neg hz] at e; cases e
    | _ => simp [binE, lstH] at e
  | @tl us a vs h1 h2 hy h3 =>
    exact .inr (.inr (.inr (lists (a := .tl us) (by cases rw' <;> first | exact e | (simp [binE, lstH] at e)) (.tl h1 h2 hy h3) rw')))
  | @obj k' a h1 h2 => exact .inr (.inr (.inr (lists (a := .obj k') (by cases rw' <;> first | exact e | (simp [binE, lstH] at e)) (.obj h1 h2) rw')))
  | _ => cases rw' <;> simp [binE, lstH] at e
theorem bin_sub : OpOk X (binaryOp .Sub) fun S => binE S .sub := by
  refine op_of op_sub fun μ S Y H u w z x y Q r ru rw' e k => ?_
  cases ru <;> first
    | (cases rw' <;> first | (simp only [binE, Option.some.injEq] at e; subst e; exact ⟨_, _, rfl, rfl, k.here r _ (.int _)⟩) | (simp [binE] at e))
    | (simp [binE] at e)
theorem bin_mul : OpOk X (binaryOp .Mult) fun S => binE S .mul := by
  refine op_of (OpR.or op_mulW (OpR.or op_repT ZS.op_rep1)) fun μ S Y H u w z x y Q r ru rw' e k => ?_
  cases ru with
  | int i =>
    cases rw' with
    | int j =>
      simp only [binE] at e
      by_cases hz : i.natAbs.log2 + j.natAbs.log2 < 1000000
      · simp only [if_pos hz, Option.some.injEq] at e; subst e; exact .inl ⟨i, j, rfl, rfl, hz, k.here r _ (.int _)⟩
      · simp only [if_neg hz] at e; cases e
    | _ => simp [binE] at e
  | @tup us a vs h1 h2 =>
    cases rw' with
    | int j =>
      simp only [binE] at e
      by_cases h1j : j = 1
      · subst h1j
        rw [if_pos rfl] at e
        cases e
        exact .inr (.inr ⟨a, vs, rfl, rfl, h1, k.here r _ (.tup h1 h2)⟩)
      rw [if_neg h1j] at e
      by_cases hz : us ≠ [] ∧ 2 ≤ j ∧ j ≤ 1000 ∧ us.length ≤ 1000
      · simp only [if_pos hz, Option.some.injEq] at e
        subst e
        refine .inr (.inl ⟨a, j, vs, rfl, rfl, h1, fun q => hz.1 ?_, hz.2.1, hz.2.2.1, by rw [← h2.length]; exact hz.2.2.2, fun p hp => ?_⟩)
        · subst q; cases h2; rfl
        · exact Nx.fresh k r hp _ (RU.newTup r hp (h2.flatten _))
      · simp only [if_neg hz] at e; cases e
    | _ => simp [binE] at e
  | _ => cases rw' <;> simp [binE] at e
theorem bin_md : OpOk X (binaryOp .Mod) fun S => binE S .md := by
  refine op_of op_modN fun μ S Y H u w z x y Q r ru rw' e k => ?_
  cases ru <;> first
    | (cases rw' <;> first
      | (rename_i i j; simp only [binE] at e; by_cases hz : j ≠ 0
         · simp only [if_pos hz, Option.some.injEq] at e; subst e; exact ⟨_, _, rfl, rfl, hz, k.here r _ (.int _)⟩
         · simp only [if_neg hz] at e; cases e)
      | (simp [binE] at e))
    | (simp [binE] at e)
theorem bin_fd : OpOk X (binaryOp .FloorDiv) fun S => binE S .fd := by
  refine op_of op_fdivW fun μ S Y H u w z x y Q r ru rw' e k => ?_
  cases ru <;> first
    | (cases rw' <;> first
      | (rename_i i j; simp only [binE] at e; by_cases hz : 0 < j ∧ j.natAbs.log2 < 9000
         · simp only [if_pos hz, Option.some.injEq] at e; subst e; exact ⟨_, _, rfl, rfl, hz, k.here r _ (.int _)⟩
         · simp only [if_neg hz] at e; cases e)
      | (simp [binE] at e))
    | (simp [binE] at e)
theorem bin_pw : OpOk X (binaryOp .Pow) fun S => binE S .pw := by
  refine op_of op_pow fun μ S Y H u w z x y Q r ru rw' e k => ?_
  cases ru <;> first
    | (cases rw' <;> first
      | (rename_i i j; simp only [binE] at e; by_cases hz : 0 ≤ j ∧ j ≤ 1000000 ∧ i.natAbs < 2 ^ 64
         · simp only [if_pos hz, Option.some.injEq] at e; subst e; exact ⟨_, _, rfl, rfl, hz, k.here r _ (.int _)⟩
         · simp only [if_neg hz] at e; cases e)
      | (simp [binE] at e))
    | (simp [binE] at e)
end
end Z

set_option Elab.async false
set_option linter.all false
set_option maxRecDepth 100000
set_option maxHeartbeats 800000
/-! Z4: comparisons, subscripts, slices, built-in functions. -/
namespace Z
open PySem PySem.Spec PyProof.Rows L2
section
variable {X : Cx} {W : WX}
/-! ### comparisons -/
theorem cmp_lt : OpOk X (compareOp .Lt) fun S u w => (cmpE S .lt u w).map U.bl := by
  refine op_of op_lt fun μ S Y H u w z x y Q r ru rw' e k => ?_
  cases ru <;> first
    | (cases rw' <;> first | (simp only [cmpE, Option.map_some, Option.some.injEq] at e; subst e; exact ⟨_, _, rfl, rfl, k.here r _ (.bl _)⟩) | (simp [cmpE] at e))
    | (simp [cmpE] at e)
theorem cmp_le : OpOk X (compareOp .LtE) fun S u w => (cmpE S .le u w).map U.bl := by
  refine op_of op_le fun μ S Y H u w z x y Q r ru rw' e k => ?_
  cases ru <;> first
    | (cases rw' <;> first | (simp only [cmpE, Option.map_some, Option.some.injEq] at e; subst e; exact ⟨_, _, rfl, rfl, k.here r _ (.bl _)⟩) | (simp [cmpE] at e))
    | (simp [cmpE] at e)
theorem cmp_gt : OpOk X (compareOp .Gt) fun S u w => (cmpE S .gt u w).map U.bl := by
  refine op_of op_gt fun μ S Y H u w z x y Q r ru rw' e k => ?_
  cases ru <;> first
    | (cases rw' <;> first | (simp only [cmpE, Option.map_some, Option.some.injEq] at e; subst e; exact ⟨_, _, rfl, rfl, k.here r _ (.bl _)⟩) | (simp [cmpE] at e))
    | (simp [cmpE] at e)
theorem cmp_ge : OpOk X (compareOp .GtE) fun S u w => (cmpE S .ge u w).map U.bl := by
  refine op_of op_ge fun μ S Y H u w z x y Q r ru rw' e k => ?_
  cases ru <;> first
    | (cases rw' <;> first | (simp only [cmpE, Option.map_some, Option.some.injEq] at e; subst e; exact ⟨_, _, rfl, rfl, k.here r _ (.bl _)⟩) | (simp [cmpE] at e))
    | (simp [cmpE] at e)
theorem cmp_eq (hu : X.A.units + 64 < cLine) : OpOk X (compareOp .Eq) fun S u w => (cmpE S .eq u w).map U.bl := by
  refine op_of (OpR.or op_eq (op_eqD hu)) fun μ S Y H u w z x y Q r ru rw' e k => ?_
  have gen : (match dat S 12 u, dat S 12 w with
      | some d, some e => if (SeqAt.shaped d && SeqAt.shaped e) = true then some (PyData.eqv d e) else none
      | _, _ => none).map U.bl = some z → rEqD X.K x y H Q := fun e => by
    cases q1 : dat S 12 u with
    | none => simp [q1] at e
    | some d1 =>
      cases q2 : dat S 12 w with
      | none => simp [q1, q2] at e
      | some d2 =>
        simp only [q1, q2] at e
        by_cases hs : (SeqAt.shaped d1 && SeqAt.shaped d2) = true
        · rw [if_pos hs] at e
          cases e
          rw [Bool.and_eq_true] at hs
          exact ⟨d1, d2, dat_ok r 12 ru q1, dat_ok r 12 rw' q2, hs.1, hs.2, k.here r _ (.bl _)⟩
        · rw [if_neg hs] at e
          cases e
  by_cases hss : ∃ a b, u = .str a ∧ w = .str b
  · obtain ⟨a, b, rfl, rfl⟩ := hss
    cases ru
    cases rw'
    cases e
    have e2 : decide (V.str a = V.str b) = decide (a = b) := by by_cases q : a = b <;> simp [q]
    exact .inl ⟨rfl, by rw [e2]; exact k.here r _ (.bl _)⟩
  by_cases hii : ∃ a b, u = .int a ∧ w = .int b
  · obtain ⟨a, b, rfl, rfl⟩ := hii
    cases ru
    cases rw'
    cases e
    have e2 : decide (V.int a = V.int b) = decide (a = b) := by by_cases q : a = b <;> simp [q]
    exact .inl ⟨rfl, by rw [e2]; exact k.here r _ (.bl _)⟩
  refine .inr (gen ?_)
  cases u <;> cases w <;> first | exact e | exact absurd ⟨_, _, rfl, rfl⟩ hss | exact absurd ⟨_, _, rfl, rfl⟩ hii
theorem cmp_ne (hu : X.A.units + 64 < cLine) : OpOk X (compareOp .NotEq) fun S u w => (cmpE S .ne u w).map U.bl := by
  refine op_of (OpR.or op_ne (op_neD hu)) fun μ S Y H u w z x y Q r ru rw' e k => ?_
  have gen : (match dat S 12 u, dat S 12 w with
      | some d, some e => if (SeqAt.shaped d && SeqAt.shaped e) = true then some (!PyData.eqv d e) else none
      | _, _ => none).map U.bl = some z → rNeD X.K x y H Q := fun e => by
    cases q1 : dat S 12 u with
    | none => simp [q1] at e
    | some d1 =>
      cases q2 : dat S 12 w with
      | none => simp [q1, q2] at e
      | some d2 =>
        simp only [q1, q2] at e
        by_cases hs : (SeqAt.shaped d1 && SeqAt.shaped d2) = true
        · rw [if_pos hs] at e
          cases e
          rw [Bool.and_eq_true] at hs
          exact ⟨d1, d2, dat_ok r 12 ru q1, dat_ok r 12 rw' q2, hs.1, hs.2, k.here r _ (.bl _)⟩
        · rw [if_neg hs] at e
          cases e
  by_cases hss : ∃ a b, u = .str a ∧ w = .str b
  · obtain ⟨a, b, rfl, rfl⟩ := hss
    cases ru
    cases rw'
    cases e
    have e2 : decide (V.str a = V.str b) = decide (a = b) := by by_cases q : a = b <;> simp [q]
    exact .inl ⟨rfl, by rw [e2]; exact k.here r _ (.bl _)⟩
  by_cases hii : ∃ a b, u = .int a ∧ w = .int b
  · obtain ⟨a, b, rfl, rfl⟩ := hii
    cases ru
    cases rw'
    cases e
    have e2 : decide (V.int a = V.int b) = decide (a = b) := by by_cases q : a = b <;> simp [q]
    exact .inl ⟨rfl, by rw [e2]; exact k.here r _ (.bl _)⟩
  refine .inr (gen ?_)
  cases u <;> cases w <;> first | exact e | exact absurd ⟨_, _, rfl, rfl⟩ hss | exact absurd ⟨_, _, rfl, rfl⟩ hii
theorem inE_ok {μ : Nat → Addr} {S : Sto} {Y : List Addr} {H : Hp} {u w : U} {x y : V} {b : Bool} (r : RS X.K X.mg μ S Y H) (ru : RU X.K X.mg μ S.length Y H u x) (rw' : RU X.K X.mg μ S.length Y H w y) (e : inE S u w = some b) :
    ∃ p xs, y = .ref p ∧ (SqL X.K H p xs ∨ SqT X.K H p xs) ∧ flatV x = true ∧ xs.all flatV = true ∧ inV x xs = b := by
  unfold inE at e
  cases q : seqOf S w with
  | none => rw [q] at e; cases e
  | some us =>
    rw [q] at e
    replace e : (if (u.flat && us.all U.flat) = true then some (inV (flatD u) (us.map flatD)) else none) = some b := e
    by_cases h : (u.flat && us.all U.flat) = true
    · rw [if_pos h] at e
      rw [Bool.and_eq_true] at h
      obtain ⟨a, vs, e1, e2, e3⟩ := seqOf_sq r rw' q
      obtain ⟨f1, f2⟩ := flat_ok ru h.1
      obtain ⟨f3, f4⟩ := flats_ok e3 h.2
      exact ⟨a, vs, e1, e2, f2, f4, by rw [f1, f3]; exact Option.some.inj e⟩
    · rw [if_neg h] at e; cases e
theorem cmp_in : OpOk X (compareOp .In) fun S u w => (cmpE S .inn u w).map U.bl := by
  refine op_of op_in_seq fun μ S Y H u w z x y Q r ru rw' e k => ?_
  simp only [cmpE, Option.map_eq_some_iff] at e
  obtain ⟨b, e1, rfl⟩ := e
  obtain ⟨p, xs, h1, h2, h3, h4, h5⟩ := inE_ok r ru rw' e1
  refine ⟨p, xs, h1, h2, h3, h4, ?_⟩
  rw [h5]
  exact k.here r _ (.bl _)
theorem cmp_nin : OpOk X (compareOp .NotIn) fun S u w => (cmpE S .nin u w).map U.bl := by
  refine op_of op_notIn_seq fun μ S Y H u w z x y Q r ru rw' e k => ?_
  simp only [cmpE, Option.map_eq_some_iff] at e
  obtain ⟨b, ⟨b', e1, rfl⟩, rfl⟩ := e
  obtain ⟨p, xs, h1, h2, h3, h4, h5⟩ := inE_ok r ru rw' e1
  refine ⟨p, xs, h1, h2, h3, h4, ?_⟩
  rw [h5]
  exact k.here r _ (.bl _)

/-! ### subscripts -/
theorem IxR.or {r r' : R2} (h : IxR X r) (h' : IxR X r') : IxR X (fun x y H Q => r x y H Q ∨ r' x y H Q) := by
  intro value slice pins s σ H x y v u Q I rx ry q hs
  rcases q with q | q
  · exact h value slice pins s σ H x y v u Q I rx ry q hs
  · exact h' value slice pins s σ H x y v u Q I rx ry q hs
theorem ix_ok {μ : Nat → Addr} {S : Sto} {Y : List Addr} {H : Hp} {u w z : U} {x y : V} {Q : VK} (r : RS X.K X.mg μ S Y H) (ru : RU X.K X.mg μ S.length Y H u x) (rw' : RU X.K X.mg μ S.length Y H w y) (e : idxE S u w = some z) (k : KX X μ S Y H z Q) :
    rIxL X.K x y H Q ∨ rIxT X.K x y H Q := by
  cases rw' with
  | int i =>
    simp only [idxE] at e
    cases q : seqOf S u with
    | none => rw [q] at e; cases e
    | some us =>
      rw [q] at e
      obtain ⟨a, vs, rfl, e2, e3⟩ := seqOf_sq r ru q
      obtain ⟨v, h1, h2⟩ := e3.atI e
      rcases e2 with e2 | e2
      · exact .inl ⟨a, vs, i, v, rfl, rfl, e2, h1, k.here r _ h2⟩
      · exact .inr ⟨a, vs, i, v, rfl, rfl, e2, h1, k.here r _ h2⟩
  | _ => simp [idxE] at e
/-! ### slices -/
theorem cutU_all {us : List U} {lo hi : Option Int} (h : HT.sIx us.length 0 lo = 0 ∧ HT.sIx us.length us.length hi = us.length) : cutU us lo hi = us := by
  unfold cutU
  rw [h.1, h.2]
  simp
theorem sl_ok {μ : Nat → Addr} {S : Sto} {Y : List Addr} {H : Hp} {u z : U} {x : V} {lo hi : Option Int} {Q : VK} (r : RS X.K X.mg μ S Y H) (ru : RU X.K X.mg μ S.length Y H u x) (e : slE S u lo hi = some z) (k : KX X μ S Y H z Q) :
    rSlL X.K x lo hi H Q ∨ rSlA X.K x lo hi H Q := by
  by_cases q : ∃ ws, u = .tup ws
  · obtain ⟨ws, rfl⟩ := q
    simp only [slE, Option.some.injEq] at e
    subst e
    obtain ⟨a, vs, rfl, e2, e3⟩ := tup_sq ru
    refine .inr ⟨a, vs, rfl, e2, fun h => ?_, fun h p hp => ?_⟩
    · rw [← e3.length] at h
      rw [cutU_all h] at k
      exact k.here r _ (.tup e2 e3)
    · exact Nx.fresh k r hp _ (RU.newTup r hp (e3.cut lo hi))
  · have e' : (lstOf S u).map (fun us => U.tl (cutU us lo hi)) = some z := by
      cases u with
      | tup ws => exact absurd ⟨ws, rfl⟩ q
      | _ => simp only [slE] at e; first | (cases hh : lstOf S _ <;> (rw [hh] at e; first | (cases e; done) | (simpa using e))) | cases e
    rw [Option.map_eq_some_iff] at e'
    obtain ⟨us, h1, rfl⟩ := e'
    obtain ⟨a, vs, rfl, e2, e3⟩ := lstOf_sq r ru h1
    exact .inl ⟨a, vs, rfl, e2, fun p hp => Nx.fresh k r hp _ (RU.newTl r hp (e3.cut lo hi))⟩

/-! ### built-in functions -/
/-- a built-in function as the layer calls it: its value, the reading, what it answers -/
def BF.nm : BF → Str
  | .len => "len" | .tuple => "tuple" | .int => "int" | .abs => "abs" | .all => "all" | .any => "any" | .sum => "sum" | .min => "min"
def BiOk (X : Cx) (f : BF) : Prop := (∃ id r, bootBuiltins f.nm = some (.builtin id) ∧ CallR X (.builtin id) r ∧ ∀ μ S Y H us z vs Q, RS X.K X.mg μ S Y H → RUs X.K X.mg μ S.length Y H us vs → biE S f us = some z → KX X μ S Y H z Q → r vs H Q) ∨
  ∃ t r, bootBuiltins f.nm = some (.type t) ∧ CallR X (.type t) r ∧ ∀ μ S Y H us z vs Q, RS X.K X.mg μ S Y H → RUs X.K X.mg μ S.length Y H us vs → biE S f us = some z → KX X μ S Y H z Q → r vs H Q
theorem one_of {μ : Nat → Addr} {n : Nat} {Y : List Addr} {H : Hp} {u : U} {vs : List V} (h : RUs X.K X.mg μ n Y H [u] vs) : ∃ v, vs = [v] ∧ RU X.K X.mg μ n Y H u v := by
  cases h with
  | cons h r => cases r; exact ⟨_, rfl, h⟩
theorem bi_len : BiOk X .len := by
  refine .inl ⟨_, _, boot_len, call_len, fun μ S Y H us z vs Q r rv e k => ?_⟩
  cases rv with
  | nil => cases e
  | @cons u v us vs rv rvs =>
    cases rvs with
    | cons _ _ => cases e
    | nil =>
      by_cases q : ∃ y, u = .str y
      · obtain ⟨y, rfl⟩ := q
        cases rv
        replace e : (if y.length ≤ sizeLine then some (U.int y.length) else none) = some z := e
        by_cases hz : y.length ≤ sizeLine
        · simp only [if_pos hz, Option.some.injEq] at e; subst e; exact ⟨_, y.length, rfl, ⟨hz, rfl⟩, k.here r _ (.int _)⟩
        · simp only [if_neg hz] at e; cases e
      · have e' : (seqOf S u).map (fun us => U.int us.length) = some z := by
          cases u with
          | str y => exact absurd ⟨y, rfl⟩ q
          | _ => exact e
        rw [Option.map_eq_some_iff] at e'
        obtain ⟨ws, h1, rfl⟩ := e'
        obtain ⟨a, vs, rfl, e2, e3⟩ := seqOf_sq r rv h1
        refine ⟨_, ws.length, rfl, ?_, k.here r _ (.int _)⟩
        rcases e2 with e2 | e2
        · exact .inl ⟨vs, e2, e3.length⟩
        · exact .inr ⟨vs, e2, e3.length⟩
theorem bi_tuple : BiOk X .tuple := by
  refine .inr ⟨_, _, PyProof.Rows.boot_tuple, call_tuple_of, fun μ S Y H us z vs Q r rv e k => ?_⟩
  cases rv with
  | nil => cases e
  | @cons u v us vs rv rvs =>
    cases rvs with
    | cons _ _ => cases e
    | nil =>
      replace e : (seqOf S u).map U.tup = some z := e
      simp only [Option.map_eq_some_iff] at e
      obtain ⟨ws, h1, rfl⟩ := e
      obtain ⟨a, vs, rfl, e2, e3⟩ := seqOf_sq r rv h1
      refine ⟨a, vs, rfl, ?_⟩
      rcases e2 with e2 | e2
      · exact .inl ⟨e2, fun p hp => Nx.fresh k r hp _ (RU.newTup r hp e3)⟩
      · exact .inr ⟨e2, k.here r _ (.tup e2 e3)⟩
theorem bi_int : BiOk X .int := by
  refine .inr ⟨_, _, PyProof.Rows.boot_int, call_int1, fun μ S Y H us z vs Q r rv e k => ?_⟩
  cases rv with
  | nil => cases e
  | @cons u v us vs rv rvs =>
    cases rvs with
    | cons _ _ => cases rv <;> cases e
    | nil =>
      cases rv <;> first
        | (cases e; done)
        | (have e := Option.some.inj (show some _ = some z from e); subst e; first | exact .inl ⟨_, rfl, k.here r _ (.int _)⟩ | exact .inr ⟨_, rfl, k.here r _ (.int _)⟩)
theorem bi_abs : BiOk X .abs := by
  refine .inl ⟨_, _, boot_abs, call_abs, fun μ S Y H us z vs Q r rv e k => ?_⟩
  cases rv with
  | nil => cases e
  | @cons u v us vs rv rvs =>
    cases rvs with
    | cons _ _ => cases rv <;> cases e
    | nil =>
      cases rv <;> first
        | (cases e; done)
        | (have e := Option.some.inj (show some _ = some z from e); subst e; exact ⟨_, rfl, k.here r _ (.int _)⟩)
theorem bi_all (hc : X.calm = true) : BiOk X .all := by
  refine .inl ⟨_, _, boot_all, cr_all hc, fun μ S Y H us z vs Q r rv e k => ?_⟩
  cases rv with
  | nil => cases e
  | @cons u v us vs rv rvs =>
    cases rvs with
    | cons _ _ => cases e
    | nil =>
      replace e : ((lstOf S u).bind blsOf).map (fun bs => U.bl (bs.all id)) = some z := e
      simp only [Option.map_eq_some_iff, Option.bind_eq_some_iff] at e
      obtain ⟨bs, ⟨ws, h1, h2⟩, rfl⟩ := e
      obtain ⟨a, vs, rfl, e2, e3⟩ := lstOf_sq r rv h1
      exact ⟨a, bs, rfl, by rw [← bls_ok e3 h2]; exact e2, k.here r _ (.bl _)⟩
theorem bi_any (hc : X.calm = true) : BiOk X .any := by
  refine .inl ⟨_, _, boot_any, cr_any hc, fun μ S Y H us z vs Q r rv e k => ?_⟩
  cases rv with
  | nil => cases e
  | @cons u v us vs rv rvs =>
    cases rvs with
    | cons _ _ => cases e
    | nil =>
      replace e : ((lstOf S u).bind blsOf).map (fun bs => U.bl (bs.any id)) = some z := e
      simp only [Option.map_eq_some_iff, Option.bind_eq_some_iff] at e
      obtain ⟨bs, ⟨ws, h1, h2⟩, rfl⟩ := e
      obtain ⟨a, vs, rfl, e2, e3⟩ := lstOf_sq r rv h1
      exact ⟨a, bs, rfl, by rw [← bls_ok e3 h2]; exact e2, k.here r _ (.bl _)⟩
theorem bi_sum (hc : X.calm = true) : BiOk X .sum := by
  refine .inl ⟨_, _, boot_sum, cr_sum hc, fun μ S Y H us z vs Q r rv e k => ?_⟩
  cases rv with
  | nil => cases e
  | @cons u v us vs rv rvs =>
    cases rvs with
    | cons _ _ => cases e
    | nil =>
      replace e : ((lstOf S u).bind intsOf).map (fun ns => U.int ns.sum) = some z := e
      simp only [Option.map_eq_some_iff, Option.bind_eq_some_iff] at e
      obtain ⟨bs, ⟨ws, h1, h2⟩, rfl⟩ := e
      obtain ⟨a, vs, rfl, e2, e3⟩ := lstOf_sq r rv h1
      exact ⟨a, bs, rfl, by rw [← ints_ok e3 h2]; exact e2, k.here r _ (.int _)⟩
theorem CallR.or {f : Value} {r r' : List V → Hp → VK → Prop} (h : CallR X f r) (h' : CallR X f r') : CallR X f fun vs H Q => r vs H Q ∨ r' vs H Q :=
  fun pins s σ H vs us Q I rv q => q.elim (h pins s σ H vs us Q I rv) (h' pins s σ H vs us Q I rv)
theorem minL_ok : ∀ {ns : List Int}, ns ≠ [] → minL ns ∈ ns ∧ ∀ y, y ∈ ns → minL ns ≤ y
  | [], h => (h rfl).elim
  | [a], _ => ⟨List.mem_singleton.mpr rfl, fun y hy => by rw [List.mem_singleton.mp hy]; exact Int.le_refl _⟩
  | a :: b :: r, _ => by
    obtain ⟨h1, h2⟩ := minL_ok (ns := b :: r) (by simp)
    unfold minL
    split
    · refine ⟨List.mem_cons_self, fun y hy => ?_⟩
      rcases List.mem_cons.mp hy with z | z
      · omega
      · have := h2 y z; omega
    · refine ⟨List.mem_cons_of_mem _ h1, fun y hy => ?_⟩
      rcases List.mem_cons.mp hy with z | z
      · omega
      · exact h2 y z
theorem minL_eq {ns : List Int} {m : Int} (h1 : m ∈ ns) (h2 : ∀ y, y ∈ ns → m ≤ y) : m = minL ns := by
  have h0 : ns ≠ [] := fun e => by rw [e] at h1; cases h1
  obtain ⟨k1, k2⟩ := minL_ok h0
  have := h2 _ k1
  have := k2 _ h1
  omega
theorem bi_min (hc : X.calm = true) : BiOk X .min := by
  refine .inl ⟨_, _, (by decide +kernel : bootBuiltins "min" = some (.builtin "min")), CallR.or (cr_min hc) (ZS.cr_minT hc), fun μ S Y H us z vs Q r rv e k => ?_⟩
  cases rv with
  | nil => cases e
  | @cons u v us vs rv rvs =>
    cases rvs with
    | cons _ _ => cases e
    | nil =>
      replace e : ((seqOf S u).bind intsOf).bind (fun ns => if ns = [] then none else some (U.int (minL ns))) = some z := e
      simp only [Option.bind_eq_some_iff] at e
      obtain ⟨bs, ⟨ws, h1, h2⟩, e⟩ := e
      by_cases h0 : bs = []
      · rw [if_pos h0] at e; cases e
      · rw [if_neg h0] at e
        cases e
        have hl : 0 < bs.length := List.length_pos_iff.mpr h0
        cases hu : tupOf u with
        | none =>
          have h1' : lstOf S u = some ws := by cases u <;> first | exact h1 | cases hu
          obtain ⟨a, vs, rfl, e2, e3⟩ := lstOf_sq r rv h1'
          exact .inl ⟨a, bs, rfl, by rw [← ints_ok e3 h2]; exact e2, hl, fun m m1 m2 => by rw [minL_eq m1 m2]; exact k.here r _ (.int _)⟩
        | some us' =>
          cases u <;> first | (cases hu; done) | skip
          cases h1
          obtain ⟨a, vs, rfl, e2, e3⟩ := tup_sq rv
          exact .inr ⟨a, bs, rfl, by rw [← ints_ok e3 h2]; exact e2, hl, fun m m1 m2 => by rw [minL_eq m1 m2]; exact k.here r _ (.int _)⟩
theorem bi_ok (hc : X.calm = true) (f : BF) : BiOk X f := by
  cases f
  · exact bi_len
  · exact bi_tuple
  · exact bi_int
  · exact bi_abs
  · exact bi_all hc
  · exact bi_any hc
  · exact bi_sum hc
  · exact bi_min hc
/-! ### isinstance -/
def BT.nm : BT → String
  | .int => "int" | .bool => "bool" | .str => "str" | .tuple => "tuple" | .list => "list" | .dict => "dict"
def tyNm : Option BT → String
  | none => "NoneType"
  | some t => t.nm
theorem kit_isiT (t : Option BT) (T : BT) : kitB (tyNm t) T.nm = some (isiT t T) := by
  cases t with
  | none => cases T <;> decide +kernel
  | some t => cases t <;> cases T <;> decide +kernel
theorem SqT.ty {K : PySem.W.Frag} {H : Hp} {a : Addr} {xs : List V} (h : SqT K H a xs) : TyX K H (.ref a) (.type "tuple") := by
  rcases h with (h | ⟨o, h⟩) | ⟨o, its, n, h1, h2, _⟩
  · exact .base (.tup h)
  · exact .fTuple h
  · exact .kTuple h1 h2
theorem ty_ok {μ : Nat → Addr} {S : Sto} {Y : List Addr} {H : Hp} {u : U} {x : V} {t : Option BT} (r : RS X.K X.mg μ S Y H) (ru : RU X.K X.mg μ S.length Y H u x) (e : tyE S u = some t) : TyX X.K H x (.type (tyNm t)) := by
  cases ru with
  | non => cases e; exact .base .non
  | bl b => cases e; exact .base (.bl b)
  | int i => cases e; exact .base (.int i)
  | str s => cases e; exact .base (.str s)
  | tup h _ => cases e; exact SqT.ty h
  | tl h _ _ _ => cases e; exact .base (.lst h)
  | rl h _ =>
    cases e
    rcases h with ⟨o, h⟩ | h
    · exact .base (.frz h)
    · rcases h with (h | ⟨_, h⟩) | ⟨o, its, n, h1, h2, _⟩
      · cases h
      · cases h
      · exact .kList h1 h2
  | @obj k a hk ha =>
    replace e : (match S[k]? with
      | some (.lst _) => some (some BT.list)
      | some (.dct _) => some (some .dict)
      | _ => none) = some t := e
    cases q : S[k]? with
    | none => rw [q] at e; cases e
    | some o =>
      rw [q] at e
      cases o with
      | lst us => cases e; obtain ⟨vs, h, _⟩ := r.at_ k _ q; exact .base (.lst (by rw [ha]; exact h))
      | dct us => cases e; obtain ⟨vs, h, _⟩ := r.at_ k _ q; exact .base (.dK (by rw [ha]; exact h))
      | ins C fs => cases e
  | fn h => cases e
  | exc => cases e
theorem isi_ok {μ : Nat → Addr} {S : Sto} {Y : List Addr} {H : Hp} {u z : U} {x : V} {T : BT} {Q : VK} (r : RS X.K X.mg μ S Y H) (ru : RU X.K X.mg μ S.length Y H u x) (e : (isiE S u T).map U.bl = some z) (k : KX X μ S Y H z Q) :
    rIsi X.K [x, .ty T.nm] H Q := by
  unfold isiE at e
  simp only [Option.map_eq_some_iff] at e
  obtain ⟨b, ⟨t, h1, rfl⟩, rfl⟩ := e
  exact ⟨x, .ty T.nm, _, _, _, rfl, .ty _, ty_ok r ru h1, kit_ty (kit_isiT t T), k.here r _ (.bl _)⟩
end
end Z

set_option Elab.async false
set_option linter.all false
set_option maxRecDepth 100000
set_option maxHeartbeats 800000
/-! Z5: the text beside its short form; readings of both. -/
namespace Z
open PySem PySem.Spec PyProof.Rows L2

/-! ### the text beside its short form -/
def boOp : BO → Operator
  | .add => .Add | .sub => .Sub | .mul => .Mult | .md => .Mod | .fd => .FloorDiv | .pw => .Pow
def coOp : CO → CmpOp
  | .lt => .Lt | .le => .LtE | .gt => .Gt | .ge => .GtE | .eq => .Eq | .ne => .NotEq | .inn => .In | .nin => .NotIn
def notStar : Expr → Bool
  | .Starred .. => false
  | _ => true
theorem star_cons {e : Expr} {es : List Expr} {env : Env} (h : notStar e = true) : starEach (e :: es) env = (false, eval e env) :: starEach es env := by
  cases e <;> first | rfl | cases h
theorem noStar_any : ∀ {es : List Expr} {env : Env} {pos : Pos}, es.all notStar = true → (backTo pos (starEach es env)).any (·.1) = false
  | [], _, _, _ => rfl
  | e :: es, env, pos, h => by
    rw [List.all_cons, Bool.and_eq_true] at h
    rw [star_cons h.1]
    have := noStar_any (env := env) (pos := pos) h.2
    simp only [backTo] at this ⊢
    simpa using this
def plainIxB : Expr → Bool
  | .Name .. | .Constant .. | .BinOp .. | .UnaryOp .. | .Call .. | .Subscript .. | .Attribute .. | .IfExp .. => true
  | _ => false
theorem plainIx_of {b : Expr} (h : plainIxB b = true) : PlainIx b := by
  cases b <;> first | (cases h; done) | exact fun _ _ => rfl
def plainTB : Expr → Bool
  | .Name .. | .Constant .. | .Call .. | .Subscript .. | .Attribute .. => true
  | _ => false
section
variable {X : Cx}
theorem pt_plain {e : Expr} {t : TE} (he : plainTB e = true) (h : PE X e t) : PT X e (tB t) := by
  refine pt_val h ?_
  cases e <;> first | (cases he; done) | (intro _; rfl)
theorem PE.imp {e : Expr} {t t' : TE} (h : PE X e t) (k : ∀ σ H Q, t' σ H Q → t σ H Q) : PE X e t' := ⟨fun pins s σ H Q I q => h.run pins s σ H Q I (k σ H Q q)⟩
theorem PT.imp {e : Expr} {t t' : TT} (h : PT X e t) (k : ∀ σ H Q, t' σ H Q → t σ H Q) : PT X e t' := ⟨fun pins s σ H Q I q => h.run pins s σ H Q I (k σ H Q q)⟩
theorem PW.imp {e : Expr} {t t' : TT} (h : PW X e t) (k : ∀ σ H Q, t' σ H Q → t σ H Q) : PW X e t' := ⟨fun w pins s σ H Q I q => h.run w pins s σ H Q I (k σ H Q q)⟩
theorem PA.imp {e : List Expr} {t t' : TA} (h : PA X e t) (k : ∀ σ H Q, t' σ H Q → t σ H Q) : PA X e t' := ⟨fun w pins s σ H Q I q => h.run w pins s σ H Q I (k σ H Q q)⟩
theorem PO.imp {e : Option Expr} {t t' : TO} (h : PO X e t) (k : ∀ σ H Q, t' σ H Q → t σ H Q) : PO X e t' := ⟨fun pins s σ H Q I q => h.run pins s σ H Q I (k σ H Q q)⟩
theorem PI.imp {tg e : Expr} {t t' : TI} (h : PI X tg e t) (k : ∀ σ H R, t' σ H R → t σ H R) : PI X tg e t' := ⟨fun pins s σ H Q I q => h.run pins s σ H Q I (k σ H Q q)⟩
theorem PI.or {tg e : Expr} {t t' : TI} (h : PI X tg e t) (h' : PI X tg e t') : PI X tg e (fun σ H R => t σ H R ∨ t' σ H R) :=
  ⟨fun pins s σ H Q I q => q.elim (h.run pins s σ H Q I) (h'.run pins s σ H Q I)⟩
theorem PE.false {e : Expr} {t : TE} (k : ∀ σ H Q, ¬ t σ H Q) : PE X e t := ⟨fun _ _ σ H Q _ q => (k σ H Q q).elim⟩
end
def visB (N : List Str) (sc : Scope) (i : Nat) (x : Str) : Bool :=
  decide (N[i]? = some x) && (match sc.names.lookup x with | some .local => true | some .cell => true | some .free => true | _ => false) && !(x == ("__debug__" : Str)) && !(x == ("__classdict__" : Str))
def glB (sc : Scope) (x : Str) : Bool := decide (sc.names.lookup x = some .globalImplicit) && !(x == ("__debug__" : Str))
def locB (N : List Str) (sc : Scope) (i : Nat) (x : Str) : Bool :=
  decide (N[i]? = some x) && (match sc.names.lookup x with | some .local => true | some .cell => true | _ => false)
-- views of a text
def asName : Expr → Option Str
  | .Name x _ => some x
  | _ => none
def asInt : Expr → Option Int
  | .Constant (.int j) _ _ => some j
  | _ => none
def asStr : Expr → Option Str
  | .Constant (.str j) _ _ => some j
  | _ => none
def asBool : Expr → Option Bool
  | .Constant (.bool j) _ _ => some j
  | _ => none
def asNon : Expr → Bool
  | .Constant .none _ _ => true
  | _ => false
def asBin : Expr → Option (Operator × Expr × Expr)
  | .BinOp p op q _ => some (op, p, q)
  | _ => none
def asUn : Expr → Option (UnaryOp × Expr)
  | .UnaryOp op p _ => some (op, p)
  | _ => none
def asCmp : Expr → Option (Expr × CmpOp × Expr)
  | .Compare p [op] [q] _ => some (p, op, q)
  | _ => none
def asChn : Expr → Option (Expr × CmpOp × Expr × CmpOp × Expr)
  | .Compare p [op, op'] [q, r] _ => some (p, op, q, op', r)
  | _ => none
def asBop : Expr → Option (BoolOp × List Expr)
  | .BoolOp op es _ => some (op, es)
  | _ => none
def asIf : Expr → Option (Expr × Expr × Expr)
  | .IfExp c p q _ => some (c, p, q)
  | _ => none
def asCall : Expr → Option (Str × List Expr)
  | .Call (.Name g _) es [] _ => some (g, es)
  | _ => none
def asSub : Expr → Option (Expr × Expr)
  | .Subscript p q _ => some (p, q)
  | _ => none
def asSl : Expr → Option (Option Expr × Option Expr)
  | .Slice l h none _ => some (l, h)
  | _ => none
def asRev : Expr → Bool
  | .Slice none none (some (.UnaryOp .USub (.Constant (.int 1) _ _) _)) _ => true
  | _ => false
def asTup : Expr → Option (List Expr)
  | .Tuple es _ _ => some es
  | _ => none
def asLst : Expr → Option (List Expr)
  | .List es _ => some es
  | _ => none
def asLc : Expr → Option (Expr × Expr × Expr × List Expr × Scope)
  | .ListComp e [⟨tg, it, ifs, 0⟩] s2 _ => some (e, tg, it, ifs, s2)
  | _ => none
theorem asName_ok {e : Expr} {x : Str} (h : asName e = some x) : ∃ pos, e = .Name x pos := by cases e <;> simp [asName] at h; subst h; exact ⟨_, rfl⟩
theorem asInt_ok {e : Expr} {x : Int} (h : asInt e = some x) : ∃ k pos, e = .Constant (.int x) k pos := by
  unfold asInt at h; split at h <;> simp at h; subst h; exact ⟨_, _, rfl⟩
theorem asStr_ok {e : Expr} {x : Str} (h : asStr e = some x) : ∃ k pos, e = .Constant (.str x) k pos := by
  unfold asStr at h; split at h <;> simp at h; subst h; exact ⟨_, _, rfl⟩
theorem asBool_ok {e : Expr} {x : Bool} (h : asBool e = some x) : ∃ k pos, e = .Constant (.bool x) k pos := by
  unfold asBool at h; split at h <;> simp at h; subst h; exact ⟨_, _, rfl⟩
theorem asNon_ok {e : Expr} (h : asNon e = true) : ∃ k pos, e = .Constant .none k pos := by
  unfold asNon at h; split at h <;> simp at h; exact ⟨_, _, rfl⟩
theorem asBin_ok {e p q : Expr} {op : Operator} (h : asBin e = some (op, p, q)) : ∃ pos, e = .BinOp p op q pos := by cases e <;> simp [asBin] at h; obtain ⟨rfl, rfl, rfl⟩ := h; exact ⟨_, rfl⟩
theorem asUn_ok {e p : Expr} {op : UnaryOp} (h : asUn e = some (op, p)) : ∃ pos, e = .UnaryOp op p pos := by cases e <;> simp [asUn] at h; obtain ⟨rfl, rfl⟩ := h; exact ⟨_, rfl⟩
theorem asCmp_ok {e p q : Expr} {op : CmpOp} (h : asCmp e = some (p, op, q)) : ∃ pos, e = .Compare p [op] [q] pos := by
  unfold asCmp at h; split at h <;> simp at h; obtain ⟨rfl, rfl, rfl⟩ := h; exact ⟨_, rfl⟩
theorem asChn_ok {e p q r : Expr} {op op' : CmpOp} (h : asChn e = some (p, op, q, op', r)) : ∃ pos, e = .Compare p [op, op'] [q, r] pos := by
  unfold asChn at h; split at h <;> simp at h; obtain ⟨rfl, rfl, rfl, rfl, rfl⟩ := h; exact ⟨_, rfl⟩
theorem asBop_ok {e : Expr} {op : BoolOp} {es : List Expr} (h : asBop e = some (op, es)) : ∃ pos, e = .BoolOp op es pos := by cases e <;> simp [asBop] at h; obtain ⟨rfl, rfl⟩ := h; exact ⟨_, rfl⟩
theorem asIf_ok {e c p q : Expr} (h : asIf e = some (c, p, q)) : ∃ pos, e = .IfExp c p q pos := by cases e <;> simp [asIf] at h; obtain ⟨rfl, rfl, rfl⟩ := h; exact ⟨_, rfl⟩
theorem asCall_ok {e : Expr} {g : Str} {es : List Expr} (h : asCall e = some (g, es)) : ∃ p pos, e = .Call (.Name g p) es [] pos := by
  unfold asCall at h; split at h <;> simp at h; obtain ⟨rfl, rfl⟩ := h; exact ⟨_, _, rfl⟩
theorem asSub_ok {e p q : Expr} (h : asSub e = some (p, q)) : ∃ pos, e = .Subscript p q pos := by cases e <;> simp [asSub] at h; obtain ⟨rfl, rfl⟩ := h; exact ⟨_, rfl⟩
theorem asSl_ok {e : Expr} {l u : Option Expr} (h : asSl e = some (l, u)) : ∃ pos, e = .Slice l u none pos := by
  unfold asSl at h; split at h <;> simp at h; obtain ⟨rfl, rfl⟩ := h; exact ⟨_, rfl⟩
theorem asRev_ok {e : Expr} (h : asRev e = true) : ∃ k p1 p2 p3, e = .Slice none none (some (.UnaryOp .USub (.Constant (.int 1) k p1) p2)) p3 := by
  unfold asRev at h; split at h <;> simp at h; exact ⟨_, _, _, _, rfl⟩
theorem asTup_ok {e : Expr} {es : List Expr} (h : asTup e = some es) : ∃ k pos, e = .Tuple es k pos := by cases e <;> simp [asTup] at h; subst h; exact ⟨_, _, rfl⟩
theorem asLst_ok {e : Expr} {es : List Expr} (h : asLst e = some es) : ∃ pos, e = .List es pos := by cases e <;> simp [asLst] at h; subst h; exact ⟨_, rfl⟩
theorem asLc_ok {e x tg it : Expr} {ifs : List Expr} {s2 : Scope} (h : asLc e = some (x, tg, it, ifs, s2)) : ∃ pos, e = .ListComp x [⟨tg, it, ifs, 0⟩] s2 pos := by
  unfold asLc at h; split at h <;> simp at h; obtain ⟨rfl, rfl, rfl, rfl, rfl⟩ := h; exact ⟨_, rfl⟩
def asZipS : Expr → Option (Expr × Expr)
  | .Call (.Name g _) [p, q] [⟨some k, .Constant (.bool true) _ _, _⟩] _ => if g = ("zip" : Str) ∧ k = ("strict" : Str) then some (p, q) else none
  | _ => none
theorem asZipS_ok {e p q : Expr} (h : asZipS e = some (p, q)) : ∃ p1 j cp kp pos, e = .Call (.Name "zip" p1) [p, q] [⟨some "strict", .Constant (.bool true) j cp, kp⟩] pos := by
  unfold asZipS at h
  split at h
  · split at h
    · rename_i hk
      obtain ⟨rfl, rfl⟩ := hk
      simp at h
      obtain ⟨rfl, rfl⟩ := h
      exact ⟨_, _, _, _, _, rfl⟩
    · cases h
  · cases h
-- o.f, o.m(e, .., k = v, ..)
def asAttr : Expr → Option (Expr × Str)
  | .Attribute o f _ => some (o, f)
  | _ => none
theorem asAttr_ok {e o : Expr} {f : Str} (h : asAttr e = some (o, f)) : ∃ pos, e = .Attribute o f pos := by cases e <;> simp [asAttr] at h; obtain ⟨rfl, rfl⟩ := h; exact ⟨_, rfl⟩
def asMeth : Expr → Option (Expr × Str × List Expr × List Keyword × Pos × Pos)
  | .Call (.Attribute o m p) es kvs q => some (o, m, es, kvs, p, q)
  | _ => none
theorem asMeth_ok {x o : Expr} {m : Str} {es : List Expr} {kvs : List Keyword} {p q : Pos} (h : asMeth x = some (o, m, es, kvs, p, q)) : x = .Call (.Attribute o m p) es kvs q := by
  unfold asMeth at h; split at h <;> simp at h; obtain ⟨rfl, rfl, rfl, rfl, rfl, rfl⟩ := h; rfl
def kwE : Keyword → Expr
  | ⟨_, e, _⟩ => e
def kwN : Keyword → Option Str
  | ⟨n, _, _⟩ => n
def plainO : Expr → Bool
  | .Name .. | .Subscript .. | .Attribute .. => true
  | _ => false
theorem attr_plain {o : Expr} {m : Str} {env : Env} {w : Sem Value} (h : plainO o = true) : attributeBase o m env w = w := by cases o <;> first | rfl | cases h
def namesOf : List Expr → Option (List Str)
  | [] => some []
  | e :: es => match asName e, namesOf es with
    | some x, some r => some (x :: r)
    | _, _ => none
def notSet : Expr → Bool
  | .Set .. => false
  | _ => true
mutual
def slT : CT → List Nat
  | .name i => [i]
  | .tup ts => slTs ts
def slTs : CTs → List Nat
  | .nil => []
  | .cons t ts => slT t ++ slTs ts
end
mutual
def matchT (N : List Str) (sc : Scope) : CT → Expr → Bool
  | .name i, e => match asName e with
    | some x => locB N sc i x
    | none => false
  | .tup ts, e => match asTup e with
    | some es => matchTs N sc ts es
    | none => false
def matchTs (N : List Str) (sc : Scope) : CTs → List Expr → Bool
  | .nil, es => es.isEmpty
  | .cons t ts, es => match es with
    | e :: es => matchT N sc t e && matchTs N sc ts es
    | [] => false
end
-- a test's form is served
mutual
def okT : CE → Expr → Bool
  | .bop _ as, e => match asBop e with
    | some (_, es) => okTs as es
    | none => false
  | .not a, e => match asUn e with
    | some (_, p) => okT a p
    | none => false
  | .cmp .., _ => true
  | .isN .., _ => true
  | .notN .., _ => true
  | .chn .., _ => true
  | .nope, _ => true
  | .din .., _ => true
  | _, e => plainTB e
def okTs : CEs → List Expr → Bool
  | .nil, _ => true
  | .cons c cs, es => match es with
    | e :: es => okT c e && okTs cs es
    | [] => false
end
mutual
def matchE (N : List Str) (sc : Scope) : CE → Expr → Bool
  | .var i, e => match asName e with
    | some x => visB N sc i x
    | none => false
  | .int i, e => asInt e == some i
  | .str s, e => decide (asStr e = some s)
  | .non, e => asNon e
  | .bl b, e => asBool e == some b
  | .glob x, e => decide (asName e = some x) && glB sc x
  | .bin o a b, e => match asBin e with
    | some (op, p, q) => decide (op = boOp o) && (matchE N sc a p && matchE N sc b q)
    | none => false
  | .neg a, e => match asUn e with
    | some (op, p) => decide (op = .USub) && matchE N sc a p
    | none => false
  | .cmp o a b, e => match asCmp e with
    | some (p, op, q) => decide (op = coOp o) && !behindInMarks op q && (matchE N sc a p && matchE N sc b q)
    | none => false
  | .isN a, e => match asCmp e with
    | some (p, op, q) => decide (op = .Is) && asNon q && matchE N sc a p
    | none => false
  | .notN a, e => match asCmp e with
    | some (p, op, q) => decide (op = .IsNot) && asNon q && matchE N sc a p
    | none => false
  | .chn o o' a b c, e => match asChn e with
    | some (p, op, q, op', r) => decide (op = coOp o) && decide (op' = coOp o') && !lastMarks [op, op'] [q, r] && (matchE N sc a p && (matchE N sc b q && matchE N sc c r))
    | none => false
  | .bop an as, e => match asBop e with
    | some (op, es) => decide (op = if an then .And else .Or) && matchEs N sc as es
    | none => false
  | .not a, e => match asUn e with
    | some (op, p) => decide (op = .Not) && matchE N sc a p
    | none => false
  | .ite t a b, e => match asIf e with
    | some (c, p, q) => (okT t c && matchE N sc t c) && (matchE N sc a p && matchE N sc b q)
    | none => false
  | .call f as, e => match asCall e with
    | some (g, es) => decide (f = g) && glB sc f && es.all notStar && (!es.isEmpty && matchEs N sc as es)
    | none => false
  | .bi f as, e => match asCall e with
    | some (g, es) => decide (f.nm = g) && glB sc f.nm && es.all notStar && (!es.isEmpty && matchEs N sc as es)
    | none => false
  | .isi a t, e => match asCall e with
    | some (g, [p, q]) => decide (g = ("isinstance" : Str)) && glB sc "isinstance" && decide (asName q = some (Str.ofString t.nm)) && glB sc (Str.ofString t.nm) && (notStar p && matchE N sc a p)
    | _ => false
  | .idx a i, e => match asSub e with
    | some (p, q) => plainIxB q && (matchE N sc a p && matchE N sc i q)
    | none => false
  | .sl a lo hi, e => match asSub e with
    | some (p, q) => match asSl q with
      | some (l, h) => matchE N sc a p && (matchO N sc lo l && matchO N sc hi h)
      | none => false
    | none => false
  | .rev a, e => match asSub e with
    | some (p, q) => asRev q && matchE N sc a p
    | none => false
  | .tup as, e => match asTup e with
    | some es => es.all notStar && matchEs N sc as es
    | none => false
  | .tmp n, e => matchN N sc n e
  | .mk n, e => matchN N sc n e
  | .meth C m o as ks kws, e => match asMeth e with
    | some (p, g, es, kvs, p1, p2) => decide (g = m) && plainO p && (p1.endLine == p2.line) && matchE N sc o p && (es.all notStar && matchEs N sc as es) && (decide (kvs.map kwN = ks.map some) && matchEs N sc kws (kvs.map kwE)) && decide (es.length + kvs.length < 29)
    | none => false
  | .fld _ f o, e => match asAttr e with
    | some (p, g) => decide (g = f) && plainO p && matchE N sc o p
    | none => false
  | .new C as, e => match asCall e with
    | some (g, es) => decide (C = g) && glB sc C && es.all notStar && (!es.isEmpty && matchEs N sc as es)
    | none => false
  | .isE a C, e => match asCall e with
    | some (g, [p, q]) => decide (g = ("isinstance" : Str)) && glB sc "isinstance" && decide (asName q = some C) && glB sc C && (notStar p && matchE N sc a p)
    | _ => false
  | .isEs a Cs, e => match asCall e with
    | some (g, [p, q]) => match asTup q with
      | some qs => decide (g = ("isinstance" : Str)) && glB sc "isinstance" && decide (namesOf qs = some Cs) && Cs.all (glB sc) && (notStar p && matchE N sc a p)
      | none => false
    | _ => false
  | .cntB o b, e => match asMeth e with
    | some (p, g, [q], [], p1, p2) => decide (g = ("count" : Str)) && plainO p && (p1.endLine == p2.line) && matchE N sc o p && (asBool q == some b)
    | _ => false
  | .ixOf o a, e => match asMeth e with
    | some (p, g, [q], [], p1, p2) => decide (g = ("index" : Str)) && plainO p && (p1.endLine == p2.line) && notStar q && (matchE N sc o p && matchE N sc a q)
    | _ => false
  | .nope, _ => true
  | .repr a, e => match asCall e with
    | some (g, [p]) => decide (g = ("repr" : Str)) && glB sc "repr" && (notStar p && matchE N sc a p)
    | _ => false
  | .dget x a, e => match asSub e with
    | some (p, q) => plainIxB q && decide (asName p = some x) && glB sc x && matchE N sc a q
    | none => false
  | .din x no a, e => match asCmp e with
    | some (p, op, q) => decide (op = if no then .NotIn else .In) && !behindInMarks op q && decide (asName q = some x) && glB sc x && matchE N sc a p
    | none => false
  | .callL i as, e => match asCall e with
    | some (g, es) => visB N sc i g && es.all notStar && (!es.isEmpty && matchEs N sc as es)
    | none => false
def matchEs (N : List Str) (sc : Scope) : CEs → List Expr → Bool
  | .nil, es => es.isEmpty
  | .cons c cs, es => match es with
    | e :: es => matchE N sc c e && matchEs N sc cs es
    | [] => false
def matchO (N : List Str) (sc : Scope) : CEs → Option Expr → Bool
  | .nil, o => o.isNone
  | .cons c _, o => match o with
    | some e => matchE N sc c e
    | none => false
def matchN (N : List Str) (sc : Scope) : CN → Expr → Bool
  | .lst as, e => match asLst e with
    | some es => es.all notStar && matchEs N sc as es
    | none => false
  | .listOf a, e => match asCall e with
    | some (g, [p]) => decide (g = ("list" : Str)) && glB sc "list" && (notStar p && matchE N sc a p)
    | _ => false
  | .cat a b, e => match asBin e with
    | some (op, p, q) => decide (op = .Add) && (matchE N sc a p && matchE N sc b q)
    | none => false
  | .rep a b, e => match asBin e with
    | some (op, p, q) => decide (op = .Mult) && (matchE N sc a p && matchE N sc b q)
    | none => false
  | .lc tg it cnd elt own, e => match asLc e with
    | some (x, tg', it', ifs, s2) => blkC N sc s2 own && (slT tg).all (fun i => decide (i ∈ own.map (·.2))) && matchT N s2 tg tg' && notSet it' && (matchI N sc it tg' it' && (matchEs N (relS s2 sc) cnd ifs && decide (ifs.length ≤ 1) && okTs cnd ifs) && matchE N (relS s2 sc) elt x)
    | none => false
def matchI (N : List Str) (sc : Scope) : CI → Expr → Expr → Bool
  | .seq a, _, e => matchE N sc a e
  | .rng1 a, _, e => match asCall e with
    | some (g, [p]) => decide (g = ("range" : Str)) && glB sc "range" && (notStar p && matchE N sc a p)
    | _ => false
  | .rng2 a b, _, e => match asCall e with
    | some (g, [p, q]) => decide (g = ("range" : Str)) && glB sc "range" && (notStar p && notStar q && (matchE N sc a p && matchE N sc b q))
    | _ => false
  | .enum a, tg, e => match asCall e with
    | some (g, [p]) => decide (g = ("enumerate" : Str)) && glB sc "enumerate" && (asTup tg).isSome && (notStar p && matchE N sc a p)
    | _ => false
  | .enumZ a b, tg, e => match asCall e with
    | some (g, [x]) => match asCall x with
      | some (g2, [p, q]) => decide (g = ("enumerate" : Str)) && decide (g2 = ("zip" : Str)) && glB sc "enumerate" && glB sc "zip" && (asTup tg).isSome && (notStar p && notStar q && (matchE N sc a p && matchE N sc b q))
      | _ => false
    | _ => false
  | .zip true a b, tg, e => match asZipS e with
    | some (p, q) => glB sc "zip" && (asTup tg).isSome && (notStar p && notStar q && (matchE N sc a p && matchE N sc b q))
    | none => false
  | .zip false a b, tg, e => match asCall e with
    | some (g, [p, q]) => decide (g = ("zip" : Str)) && glB sc "zip" && (asTup tg).isSome && (notStar p && notStar q && (matchE N sc a p && matchE N sc b q))
    | _ => false
end
end Z

set_option Elab.async false
set_option linter.all false
set_option maxRecDepth 100000
set_option maxHeartbeats 1600000
/-! Z6: what the short form comes to is what the text does. -/
namespace Z
open PySem PySem.Spec PyProof.Rows L2
section
variable {K : PySem.W.Frag} {mg : Str → Option Value} {Y : List Addr} {μ μ' μ1 : Nat → Addr} {n n' n1 : Nat} {H H' H1 : Hp} {S S1 S' : Sto} {α β : Type} {W : WX} {σ : L2.St}
theorem Fin.ofO {o : Option α} {P : α → Sto → (Nat → Addr) → Hp → Prop} (x : Fin K mg W σ μ S Y H (Z.ofO S o) P) : ∃ z, o = some z ∧ Nx K mg μ S Y H S (P z S) := by
  cases o with
  | none => exact x.elim
  | some z => exact ⟨z, rfl, x⟩
theorem Fin.ofOb {o : Option Bool} {P : U → Sto → (Nat → Addr) → Hp → Prop} (x : Fin K mg W σ μ S Y H (Z.ofO S (o.map U.bl)) P) : ∃ b, o = some b ∧ Nx K mg μ S Y H S (P (.bl b) S) := by
  cases o with
  | none => exact x.elim
  | some z => exact ⟨z, rfl, x⟩
/-! ### reserved places -/
mutual
theorem RU.addY {a : Addr} (ha : H a = none) : ∀ {u : U} {v : V}, RU K mg μ n Y H u v → RU K mg μ n (a :: Y) H u v
  | _, _, .non => .non
  | _, _, .bl b => .bl b
  | _, _, .int i => .int i
  | _, _, .str x => .str x
  | _, _, .tup h r => .tup h (RUs.addY ha r)
  | _, _, .obj h e => .obj h e
  | _, _, .tl h h1 h2 r => .tl h h1 (fun z => by rcases List.mem_cons.mp z with z | z; (rw [z, ha] at h; cases h); exact h2 z) (RUs.addY ha r)
  | _, _, .rl h r => .rl h (RUs.addY ha r)
  | _, _, .fn h => .fn h
  | _, _, .exc h h1 h2 h3 => .exc h h1 h2 (fun z => by rcases List.mem_cons.mp z with z | z; (rw [z, ha] at h1; cases h1); exact h3 z)
theorem RUs.addY {a : Addr} (ha : H a = none) : ∀ {us : List U} {vs : List V}, RUs K mg μ n Y H us vs → RUs K mg μ n (a :: Y) H us vs
  | _, _, .nil => .nil
  | _, _, .cons h r => .cons (RU.addY ha h) (RUs.addY ha r)
end
mutual
theorem RU.lessY {a : Addr} : ∀ {u : U} {v : V}, RU K mg μ n (a :: Y) H u v → RU K mg μ n Y H u v
  | _, _, .non => .non
  | _, _, .bl b => .bl b
  | _, _, .int i => .int i
  | _, _, .str x => .str x
  | _, _, .tup h r => .tup h (RUs.lessY r)
  | _, _, .obj h e => .obj h e
  | _, _, .tl h h1 h2 r => .tl h h1 (fun z => h2 (List.mem_cons_of_mem _ z)) (RUs.lessY r)
  | _, _, .rl h r => .rl h (RUs.lessY r)
  | _, _, .fn h => .fn h
  | _, _, .exc h h1 h2 h3 => .exc h h1 h2 (fun z => h3 (List.mem_cons_of_mem _ z))
theorem RUs.lessY {a : Addr} : ∀ {us : List U} {vs : List V}, RUs K mg μ n (a :: Y) H us vs → RUs K mg μ n Y H us vs
  | _, _, .nil => .nil
  | _, _, .cons h r => .cons (RU.lessY h) (RUs.lessY r)
end
mutual
theorem RU.ownY {a : Addr} : ∀ {u : U} {v : V}, RU K mg μ n (a :: Y) H u v → RU K mg (ext1 μ n a) (n + 1) Y H u v
  | _, _, .non => .non
  | _, _, .bl b => .bl b
  | _, _, .int i => .int i
  | _, _, .str x => .str x
  | _, _, .tup h r => .tup h (RUs.ownY r)
  | _, _, .obj h e => .obj (Nat.lt_succ_of_lt h) (by rw [e, ext1_lt h])
  | _, _, .tl h h1 h2 r => .tl h (fun i hi => by
      by_cases q : i < n
      · rw [ext1_lt q]; exact h1 i q
      · have : i = n := by omega
        subst this
        rw [ext1_at]
        exact fun z => h2 (by rw [z]; exact List.mem_cons_self)) (fun z => h2 (List.mem_cons_of_mem _ z)) (RUs.ownY r)
  | _, _, .rl h r => .rl h (RUs.ownY r)
  | _, _, .fn h => .fn h
  | _, _, .exc h h1 h2 h3 => .exc h h1 (fun i hi => by
      by_cases q : i < n
      · rw [ext1_lt q]; exact h2 i q
      · have : i = n := by omega
        subst this
        rw [ext1_at]
        exact fun z => h3 (by rw [z]; exact List.mem_cons_self)) (fun z => h3 (List.mem_cons_of_mem _ z))
theorem RUs.ownY {a : Addr} : ∀ {us : List U} {vs : List V}, RUs K mg μ n (a :: Y) H us vs → RUs K mg (ext1 μ n a) (n + 1) Y H us vs
  | _, _, .nil => .nil
  | _, _, .cons h r => .cons (RU.ownY h) (RUs.ownY r)
end
theorem RKs.addY {a : Addr} (ha : H a = none) : ∀ {us : List (Key × U)} {vs : List (Key × V)}, RKs K mg μ n Y H us vs → RKs K mg μ n (a :: Y) H us vs
  | _, _, .nil => .nil
  | _, _, .cons h r => .cons (RU.addY ha h) (RKs.addY ha r)
theorem RKs.lessY {a : Addr} : ∀ {us : List (Key × U)} {vs : List (Key × V)}, RKs K mg μ n (a :: Y) H us vs → RKs K mg μ n Y H us vs
  | _, _, .nil => .nil
  | _, _, .cons h r => .cons (RU.lessY h) (RKs.lessY r)
theorem RKs.ownY {a : Addr} : ∀ {us : List (Key × U)} {vs : List (Key × V)}, RKs K mg μ n (a :: Y) H us vs → RKs K mg (ext1 μ n a) (n + 1) Y H us vs
  | _, _, .nil => .nil
  | _, _, .cons h r => .cons (RU.ownY h) (RKs.ownY r)
theorem RFs.addY {a : Addr} (ha : H a = none) : ∀ {us : List (Str × U)} {vs : List (Str × V)}, RFs K mg μ n Y H us vs → RFs K mg μ n (a :: Y) H us vs
  | _, _, .nil => .nil
  | _, _, .cons h r => .cons (RU.addY ha h) (RFs.addY ha r)
theorem RFs.lessY {a : Addr} : ∀ {us : List (Str × U)} {vs : List (Str × V)}, RFs K mg μ n (a :: Y) H us vs → RFs K mg μ n Y H us vs
  | _, _, .nil => .nil
  | _, _, .cons h r => .cons (RU.lessY h) (RFs.lessY r)
theorem RFs.ownY {a : Addr} : ∀ {us : List (Str × U)} {vs : List (Str × V)}, RFs K mg μ n (a :: Y) H us vs → RFs K mg (ext1 μ n a) (n + 1) Y H us vs
  | _, _, .nil => .nil
  | _, _, .cons h r => .cons (RU.ownY h) (RFs.ownY r)
theorem RO.addY {a b : Addr} {o : SO} (ha : H a = none) (r : RO K mg μ n Y H b o) : RO K mg μ n (a :: Y) H b o := by
  cases o with
  | lst us => obtain ⟨vs, h, r⟩ := r; exact ⟨vs, h, r.addY ha⟩
  | dct us => obtain ⟨vs, h, r⟩ := r; exact ⟨vs, h, r.addY ha⟩
  | ins C fs => obtain ⟨c, dx, vs, g, h, r, d⟩ := r; exact ⟨c, dx, vs, g, h, r.addY ha, d⟩
theorem RO.lessY {a b : Addr} {o : SO} (r : RO K mg μ n (a :: Y) H b o) : RO K mg μ n Y H b o := by
  cases o with
  | lst us => obtain ⟨vs, h, r⟩ := r; exact ⟨vs, h, r.lessY⟩
  | dct us => obtain ⟨vs, h, r⟩ := r; exact ⟨vs, h, r.lessY⟩
  | ins C fs => obtain ⟨c, dx, vs, g, h, r, d⟩ := r; exact ⟨c, dx, vs, g, h, r.lessY, d⟩
theorem RO.ownY {a b : Addr} {o : SO} (r : RO K mg μ n (a :: Y) H b o) : RO K mg (ext1 μ n a) (n + 1) Y H b o := by
  cases o with
  | lst us => obtain ⟨vs, h, r⟩ := r; exact ⟨vs, h, r.ownY⟩
  | dct us => obtain ⟨vs, h, r⟩ := r; exact ⟨vs, h, r.ownY⟩
  | ins C fs => obtain ⟨c, dx, vs, g, h, r, d⟩ := r; exact ⟨c, dx, vs, g, h, r.ownY, d⟩
theorem RE.addY {a : Addr} {ρ : Rho} (ha : H a = none) (e : RE K mg μ n Y H ρ σ) : RE K mg μ n (a :: Y) H ρ σ := ⟨e.1, fun i u h => let ⟨v, h1, h2⟩ := e.2 i u h; ⟨v, h1, h2.addY ha⟩⟩
/-- a fresh place is laid and reserved -/
theorem RS.resv {a : Addr} {ho : HO} (r : RS K mg μ S Y H) (ha : H a = none) : RS K mg μ S (a :: Y) (upd H a ho) := by
  have f := r.fresh (ho := ho) ha
  refine ⟨r.inj, fun i o h => ?_, fun b hb => ?_⟩
  · have g := Gr.fresh (ho := ho) r ha
    exact (RO.addY ha (r.at_ i o h)).mono g (upd_ne (r.off ha i (List.getElem?_eq_some_iff.mp h).1)) fun c dx fs _ hd => by
      rw [upd_ne (fun q => by rw [q, ha] at hd; cases hd)]; exact hd
  · rcases List.mem_cons.mp hb with hb | hb
    · rw [hb, upd_same]
      exact ⟨by simp, fun i hi q => r.off ha i hi q.symm⟩
    · exact f.res b hb
theorem RS.lessY {a : Addr} (r : RS K mg μ S (a :: Y) H) : RS K mg μ S Y H := ⟨r.inj, fun i o h => (r.at_ i o h).lessY, fun b hb => r.res b (List.mem_cons_of_mem _ hb)⟩
/-- a reserved list becomes a thing of the store -/
theorem RS.ownY {a : Addr} {us : List U} {vs : List V} (r : RS K mg μ S (a :: Y) H) (hn : a ∉ Y) (h : H a = some (.lst vs)) (ru : RUs K mg μ S.length (a :: Y) H us vs) : RS K mg (ext1 μ S.length a) (S ++ [.lst us]) Y H := by
  have hl := (r.res a List.mem_cons_self).2
  refine ⟨fun i j hi hj e => ?_, fun i o' h' => ?_, fun b hb => ⟨(r.res b (List.mem_cons_of_mem _ hb)).1, fun i hi => ?_⟩⟩
  · rw [List.length_append, List.length_singleton] at hi hj
    by_cases qi : i = S.length
    · by_cases qj : j = S.length
      · omega
      · have hj' : j < S.length := by omega
        rw [ext1_lt hj', qi, ext1_at] at e
        exact (hl j hj' e).elim
    · have hi' : i < S.length := by omega
      by_cases qj : j = S.length
      · rw [ext1_lt hi', qj, ext1_at] at e
        exact (hl i hi' e.symm).elim
      · have hj' : j < S.length := by omega
        rw [ext1_lt hi', ext1_lt hj'] at e
        exact r.inj i j hi' hj' e
  · rw [List.length_append, List.length_singleton]
    by_cases qi : i < S.length
    · rw [List.getElem?_append_left qi] at h'
      rw [ext1_lt qi]
      exact (r.at_ i o' h').ownY
    · have : i = S.length := by
        have := (List.getElem?_eq_some_iff.mp h').1
        rw [List.length_append, List.length_singleton] at this
        omega
      subst this
      rw [List.getElem?_append_right (Nat.le_refl _), Nat.sub_self] at h'
      have h' := Option.some.inj h'
      subst h'
      rw [ext1_at]
      exact ⟨vs, h, ru.ownY⟩
  · rw [List.length_append, List.length_singleton] at hi
    by_cases qi : i < S.length
    · rw [ext1_lt qi]; exact (r.res b (List.mem_cons_of_mem _ hb)).2 i qi
    · have : i = S.length := by omega
      subst this
      rw [ext1_at]
      exact fun z => hn (by rw [← z]; exact hb)
theorem Gr.own {a : Addr} (g : Gr μ n H μ' n' H') (ha : H a = none) : Gr μ n H (ext1 μ' n' a) (n' + 1) H' := by
  refine ⟨Nat.le_succ_of_le g.le, fun i hi => by rw [ext1_lt (Nat.lt_of_lt_of_le hi g.le)]; exact g.at_ i hi, fun i h h' => ?_, g.all, g.tup, g.frz⟩
  by_cases q : i < n'
  · rw [ext1_lt q]; exact g.new i h q
  · have : i = n' := by omega
    subst this
    rw [ext1_at]; exact ha
/-- the reading of what makes a new list -/
def FinN (K : PySem.W.Frag) (mg : Str → Option Value) (W : WX) (σ : L2.St) (μ : Nat → Addr) (S : Sto) (Y : List Addr) (H : Hp) (r : Res (List U)) (Q : VK) : Prop := match r with
  | .ok us S' => ∀ μ' H' a vs, Gr μ S.length H μ' S'.length H' → H a = none → H' a = some (.lst vs) → RS K mg μ' S' (a :: Y) H' → RUs K mg μ' S'.length (a :: Y) H' us vs → Q (.ref a) H'
  | .ex x S' => Nx K mg μ S Y H S' fun μ' H' => ∀ cls d, RX K mg μ' S'.length Y H' x cls d → W cls d σ H'
  | .no => False
def tN (K : PySem.W.Frag) (mg : Str → Option Value) (W : WX) (f : Rho → Sto → Res (List U)) : TE := fun σ H Q => ∃ μ ρ S Y, RS K mg μ S Y H ∧ RE K mg μ S.length Y H ρ σ ∧ FinN K mg W σ μ S Y H (f ρ S) Q
theorem RS.notY {a : Addr} (r : RS K mg μ S Y H) (ha : H a = none) : a ∉ Y := fun h => (r.res a h).1 ha
theorem tN_tmp {f : Rho → Sto → Res (List U)} {Q : VK} (x : tE K mg W (fun ρ S => (f ρ S).bind fun us S1 => .ok (.tl us) S1) σ H Q) : tN K mg W f σ H Q := by
  obtain ⟨μ, ρ, S, Y, r, e, x⟩ := x
  refine ⟨μ, ρ, S, Y, r, e, ?_⟩
  replace x : Fin K mg W σ μ S Y H ((f ρ S).bind fun us S1 => .ok (.tl us) S1) (PU K mg Y Q) := x
  cases q : f ρ S with
  | ok us S' =>
    rw [q] at x
    exact fun μ' H' a vs g ha hl rs ru => x μ' H' g rs.lessY (.ref a) (.tl hl (rs.res a List.mem_cons_self).2 (r.notY ha) ru.lessY)
  | ex z S' => rw [q] at x; exact x
  | no => rw [q] at x; exact x
theorem tN_mk {f : Rho → Sto → Res (List U)} {Q : VK} (x : tE K mg W (fun ρ S => (f ρ S).bind fun us S1 => .ok (.obj S1.length) (S1 ++ [.lst us])) σ H Q) : tN K mg W f σ H Q := by
  obtain ⟨μ, ρ, S, Y, r, e, x⟩ := x
  refine ⟨μ, ρ, S, Y, r, e, ?_⟩
  replace x : Fin K mg W σ μ S Y H ((f ρ S).bind fun us S1 => .ok (.obj S1.length) (S1 ++ [.lst us])) (PU K mg Y Q) := x
  cases q : f ρ S with
  | ok us S' =>
    rw [q] at x
    refine fun μ' H' a vs g ha hl rs ru => x (ext1 μ' S'.length a) H' (by rw [List.length_append, List.length_singleton]; exact g.own ha) (rs.ownY (r.notY ha) hl ru) (.ref a) ?_
    exact .obj (by rw [List.length_append, List.length_singleton]; omega) ext1_at.symm
  | ex z S' => rw [q] at x; exact x
  | no => rw [q] at x; exact x
/-- a list laid at the end, of values that stand -/
theorem FinN.lay {us : List U} {vs : List V} {Q : VK} {p : Addr} (r1 : RS K mg μ1 S1 Y H1) (g : Gr μ S.length H μ1 S1.length H1) (r : RS K mg μ S Y H) (x : FinN K mg W σ μ S Y H (.ok us S1) Q) (ru : RUs K mg μ1 S1.length Y H1 us vs) (hp : H1 p = none) : Q (.ref p) (upd H1 p (.lst vs)) := by
  have h0 : H p = none := by
    cases q : H p with
    | none => rfl
    | some o =>
      by_cases z : ∃ i, i < S.length ∧ p = μ i
      · obtain ⟨i, hi, e⟩ := z
        have := (r1.at_ i _ (List.getElem?_eq_getElem (Nat.lt_of_lt_of_le hi g.le))).some_
        rw [g.at_ i hi, ← e] at this
        exact absurd hp this
      · have := g.all p o (fun i hi e => z ⟨i, hi, e⟩) q
        rw [hp] at this; cases this
  exact x μ1 _ p vs (g.trans (Gr.fresh r1 hp) r1.inj) h0 upd_same (r1.resv hp) ((ru.addY hp).mono (Gr.fresh r1 hp))
theorem Gr.none_of {p : Addr} (r1 : RS K mg μ1 S1 Y H1) (g : Gr μ S.length H μ1 S1.length H1) (hp : H1 p = none) : H p = none := by
  cases q : H p with
  | none => rfl
  | some o =>
    by_cases z : ∃ i, i < S.length ∧ p = μ i
    · obtain ⟨i, hi, e⟩ := z
      have := (r1.at_ i _ (List.getElem?_eq_getElem (Nat.lt_of_lt_of_le hi g.le))).some_
      rw [g.at_ i hi, ← e] at this
      exact absurd hp this
    · have := g.all p o (fun i hi e => z ⟨i, hi, e⟩) q
      rw [hp] at this; cases this
theorem Gr.upd_new {D : Addr} {ho : HO} (g : Gr μ n H μ' n' H') (hD : H D = none) : Gr μ n H μ' n' (upd H' D ho) := by
  refine ⟨g.le, g.at_, g.new, fun a o ha h => ?_, fun a xs h => ?_, fun a o u h => ?_⟩
  · rw [upd_ne (fun q => by rw [q, hD] at h; cases h)]; exact g.all a o ha h
  · rw [upd_ne (fun q => by rw [q, hD] at h; cases h)]; exact g.tup a xs h
  · rw [upd_ne (fun q => by rw [q, hD] at h; cases h)]; exact g.frz a o u h
/-- a reserved list is written: nothing hangs on it -/
theorem SqT.reput {D a : Addr} {ho : HO} {l xs : List V} (h : H D = some (.lst l)) (q : SqT K H a xs) : SqT K (upd H D ho) a xs := by
  rcases q with (q | ⟨o, q⟩) | q
  · exact .inl (.inl (by rw [upd_ne (fun z => by rw [z, h] at q; cases q)]; exact q))
  · exact .inl (.inr ⟨o, by rw [upd_ne (fun z => by rw [z, h] at q; cases q)]; exact q⟩)
  · exact .inr q
mutual
theorem RU.reput {D : Addr} {ho : HO} {l : List V} (hD : D ∈ Y) (h : H D = some (.lst l)) : ∀ {u : U} {v : V}, RU K mg μ n Y H u v → RU K mg μ n Y (upd H D ho) u v
  | _, _, .non => .non
  | _, _, .bl b => .bl b
  | _, _, .int i => .int i
  | _, _, .str x => .str x
  | _, _, .tup q r => .tup (SqT.reput h q) (RUs.reput hD h r)
  | _, _, .obj q e => .obj q e
  | _, _, .tl q h1 h2 r => .tl (by rw [upd_ne (fun z => h2 (by rw [z]; exact hD))]; exact q) h1 h2 (RUs.reput hD h r)
  | _, _, .rl q r => .rl (q.to fun o q => by rw [upd_ne (fun z => by rw [z, h] at q; cases q)]; exact q) (RUs.reput hD h r)
  | _, _, .fn q => .fn q
  | _, _, .exc q h1 h2 h3 => .exc q (by rw [upd_ne (fun z => h3 (by rw [z]; exact hD))]; exact h1) h2 h3
theorem RUs.reput {D : Addr} {ho : HO} {l : List V} (hD : D ∈ Y) (h : H D = some (.lst l)) : ∀ {us : List U} {vs : List V}, RUs K mg μ n Y H us vs → RUs K mg μ n Y (upd H D ho) us vs
  | _, _, .nil => .nil
  | _, _, .cons q r => .cons (RU.reput hD h q) (RUs.reput hD h r)
end
theorem RKs.reput {D : Addr} {ho : HO} {l : List V} (hD : D ∈ Y) (h : H D = some (.lst l)) : ∀ {us : List (Key × U)} {vs : List (Key × V)}, RKs K mg μ n Y H us vs → RKs K mg μ n Y (upd H D ho) us vs
  | _, _, .nil => .nil
  | _, _, .cons q r => .cons (RU.reput hD h q) (RKs.reput hD h r)
theorem RFs.reput {D : Addr} {ho : HO} {l : List V} (hD : D ∈ Y) (h : H D = some (.lst l)) : ∀ {us : List (Str × U)} {vs : List (Str × V)}, RFs K mg μ n Y H us vs → RFs K mg μ n Y (upd H D ho) us vs
  | _, _, .nil => .nil
  | _, _, .cons q r => .cons (RU.reput hD h q) (RFs.reput hD h r)
theorem RS.reput {D : Addr} {l l' : List V} (r : RS K mg μ S Y H) (hD : D ∈ Y) (h : H D = some (.lst l)) : RS K mg μ S Y (upd H D (.lst l')) := by
  refine ⟨r.inj, fun i o q => ?_, fun b hb => ⟨?_, (r.res b hb).2⟩⟩
  · have hi := (List.getElem?_eq_some_iff.mp q).1
    have ne : μ i ≠ D := fun z => (r.res D hD).2 i hi z.symm
    have x := r.at_ i o q
    cases o with
    | lst us => obtain ⟨vs, h1, h2⟩ := x; exact ⟨vs, by rw [upd_ne ne]; exact h1, h2.reput hD h⟩
    | dct us => obtain ⟨vs, h1, h2⟩ := x; exact ⟨vs, by rw [upd_ne ne]; exact h1, h2.reput hD h⟩
    | ins C fs =>
      obtain ⟨c, dx, vs, g, h1, h2, d⟩ := x
      exact ⟨c, dx, vs, g, by rw [upd_ne ne]; exact h1, h2.reput hD h, by rw [upd_ne (fun z => by rw [z, h] at d; cases d)]; exact d⟩
  · by_cases z : b = D
    · rw [z, upd_same]; simp
    · rw [upd_ne z]; exact (r.res b hb).1
end
end Z

set_option Elab.async false
set_option linter.all false
set_option maxRecDepth 100000
set_option maxHeartbeats 1600000
/-! Z7: defs by what they come to; walks; targets. -/
namespace Z
open PySem PySem.Spec PyProof.Rows L2
section
variable {K : PySem.W.Frag} {mg : Str → Option Value} {Y : List Addr} {μ μ' μ1 : Nat → Addr} {n n' n1 : Nat} {H H' H1 : Hp} {S S1 S' : Sto} {α β : Type} {W : WX} {σ : L2.St}
theorem FinN.bind {r : Res α} {f : α → Sto → Res (List U)} {Q : VK} (g : Gr μ S.length H μ1 S1.length H1) (x : FinN K mg W σ μ S Y H (r.bind f) Q) : Fin K mg W σ μ1 S1 Y H1 r (fun a S2 _ _ => FinN K mg W σ μ S Y H (f a S2) Q) := by
  cases r with
  | ok a S2 => exact fun _ _ _ _ => x
  | ex z S' => exact Nx.shift x g
  | no => exact x
theorem FinN.ofO {o : Option (List U)} {Q : VK} (x : FinN K mg W σ μ S Y H (Z.ofO S1 o) Q) : ∃ z, o = some z ∧ FinN K mg W σ μ S Y H (.ok z S1) Q := by
  cases o with
  | none => exact x.elim
  | some z => exact ⟨z, rfl, x⟩
/-! ### a def by what it comes to -/
def SpF (K : PySem.W.Frag) (mg : Str → Option Value) (φ : List U → Sto → Res U) : Sp := fun vs H Q E => ∃ μ S Y us, RS K mg μ S Y H ∧ RUs K mg μ S.length Y H us vs ∧ Fin K mg (fun cls d _ H' => E cls d H') [] μ S Y H (φ us S) (PU K mg Y Q)
def DefIn (P : Program) (w : World) (K : PySem.W.Frag) (mg : Str → Option Value) (base : Heap) (k : Nat) (f : Str) (φ : List U → Sto → Res U) : Prop :=
  ∃ fa fd ps, mg f = some (.ref fa) ∧ PySem.W.keepIn K (.ref fa) = true ∧ ZG.FnG P w K mg base k fa fd ps (SpF K mg φ) ∧ Binds K fd ps []
/-- a class's method -/
def MethIn (P : Program) (w : World) (K : PySem.W.Frag) (mg : Str → Option Value) (base : Heap) (k : Nat) (C m : Str) (ks : List Str) (φ : List U → Sto → Res U) : Prop :=
  ∃ c g fd ps j, mg C = some (.ref c) ∧ Cls K c ∧ (if m = "__init__" then Mk K c g ∧ j + 1 ≤ k else Meth K c m g ∧ j ≤ k) ∧ ZG.FnG P w K mg base j g fd ps (SpF K mg φ) ∧ ks.length ≤ ps.length ∧ ZG.BindG K fd ps ks (ps.length - ks.length)
/-- what a class's name is worth -/
def ClsVal (mg : Str → Option Value) (C : Str) (v : V) (cv : Value) : Prop := (∃ c, mg C = some (.ref c) ∧ v = .ref c ∧ cv = .ref c) ∨ (∃ t, mg C = none ∧ bootBuiltins C = some (.type t) ∧ C ≠ ("__name__" : Str) ∧ v = .ty t ∧ cv = .type t)
structure ErrIn (K : PySem.W.Frag) (mg : Str → Option Value) (T : Th) : Prop where
  cls : ∀ C, T.clsB C = true → ∃ v cv, ClsVal mg C v cv
  sub : ∀ D C b, T.sub D C = some b → ∃ d, mg D = some (.ref d) ∧ ExcC K d ∧ ∀ v cv, ClsVal mg C v cv → PySem.W.kitOne K (.ref d) cv = some b ∧ PySem.W.exmOne K (.ref d) cv = some b
  make : ∀ C, T.excB C = true → ∃ c, mg C = some (.ref c) ∧ PySem.W.excIn K c [.type "ValueError", .type "Exception", .type "BaseException", .type "object"] "ValueError.__new__" = true ∧ PySem.W.keepIn K (.ref c) = true ∧ PySem.W.subIn K (.ref c) (.type "BaseException") = some true ∧ PySem.W.typeIn K (.ref c) = some (.type "type")
  fld : ∀ C f, T.fldB C f = true → ∃ c, mg C = some (.ref c) ∧ Cls K c ∧ NoAttr K c f
def Tab (P : Program) (w : World) (K : PySem.W.Frag) (mg : Str → Option Value) (base : Heap) (k : Nat) (T : Th) : Prop :=
  (∀ f, T.dom f = true → DefIn P w K mg base k f (T.fn f)) ∧ ∀ C m, T.mdom C m = true → MethIn P w K mg base k C m (T.mks C m) (T.me C m)
theorem Fin.w {W' : WX} {σ' : L2.St} {r : Res α} {P : α → Sto → (Nat → Addr) → Hp → Prop} (h : ∀ cls d H, W cls d σ H → W' cls d σ' H) (x : Fin K mg W σ μ S Y H r P) : Fin K mg W' σ' μ S Y H r P := by
  cases r with
  | ok a S' => exact x
  | ex e S' => exact fun μ' H' g r cls d z => h cls d H' (x μ' H' g r cls d z)
  | no => exact x
/-- the names that stay the interpreter's -/
def bnames : List Str := ["len", "tuple", "int", "abs", "all", "any", "sum", "isinstance", "bool", "str", "list", "dict", "range", "enumerate", "zip", "min", "repr"]
/-- a dict of the module, by text keys: what it holds -/
def DctIn (K : PySem.W.Frag) (w : World) (mg : Str → Option Value) (x : Str) (d : Str → Option (Option U)) : Prop :=
  ∃ a es n, mg x = some (.ref a) ∧ KDict K w a es n ∧ ∀ z r, d z = some r → match r with
    | none => PySem.W.nsIn K a z = some none
    | some u => ∃ u0 v, PySem.W.nsIn K a z = some (some u0) ∧ RelV v u0 ∧ ∀ μ n Y H, RU K mg μ n Y H u v
structure Good (X : Cx) (T : Th) : Prop where
  calm : X.calm = true
  units : X.A.units + 65 < cLine
  gu : X.A.guards = some []
  nd : X.N.Nodup
  free : ∀ x, x ∈ bnames → X.mg x = none
  gl : ∀ x u, T.gl x = some u → ∃ v w, X.mg x = some w ∧ RelV v w ∧ ∀ μ n Y H, RU X.K X.mg μ n Y H u v
  dct : ∀ x d, T.dct x = some d → DctIn X.K X.w X.mg x d
  err : ErrIn X.K X.mg T
  tab : ∃ k, Room k X.A ∧ Tab X.prog X.w X.K X.mg X.base k T
theorem Good.blk {X : Cx} {T : Th} (G : Good X T) (s : Shared) (H : Hp) (scope : Scope) (env : Env) (fp : List Addr) : Good (X.blk s H scope env fp) T := ⟨G.calm, G.units, G.gu, G.nd, G.free, G.gl, G.dct, G.err, G.tab⟩
end
section
variable {X : Cx}
theorem bin_ok (o : BO) : OpOk X (binaryOp (boOp o)) fun S => binE S o := by
  cases o
  · exact bin_add
  · exact bin_sub
  · exact bin_mul
  · exact bin_md
  · exact bin_fd
  · exact bin_pw
theorem cmp_ok (hu : X.A.units + 64 < cLine) (o : CO) : OpOk X (compareOp (coOp o)) fun S u w => (cmpE S o u w).map U.bl := by
  cases o
  · exact cmp_lt
  · exact cmp_le
  · exact cmp_gt
  · exact cmp_ge
  · exact cmp_eq hu
  · exact cmp_ne hu
  · exact cmp_in
  · exact cmp_nin
end
/-! ### targets -/
mutual
def gOf (K : PySem.W.Frag) : CT → TG
  | .name i => gName i
  | .tup ts => gTup K (lenTs ts) (gsOf K ts)
def gsOf (K : PySem.W.Frag) : CTs → TGs
  | .nil => gNil
  | .cons t ts => gCons (gOf K t) (gsOf K ts)
def lenTs : CTs → Nat
  | .nil => 0
  | .cons _ ts => lenTs ts + 1
end
theorem locB_ok {N : List Str} {sc : Scope} {i : Nat} {x : Str} (h : locB N sc i x = true) : N[i]? = some x ∧ (sc.names.lookup x = some .local ∨ sc.names.lookup x = some .cell) := by
  unfold locB at h
  rw [Bool.and_eq_true] at h
  refine ⟨of_decide_eq_true h.1, ?_⟩
  have h2 := h.2
  split at h2
  · exact .inl (by assumption)
  · exact .inr (by assumption)
  · cases h2
theorem visB_ok {N : List Str} {sc : Scope} {i : Nat} {x : Str} (h : visB N sc i x = true) : N[i]? = some x ∧ Vis sc x ∧ (x == ("__debug__" : Str)) = false ∧ (x == ("__classdict__" : Str)) = false := by
  unfold visB at h
  simp only [Bool.and_eq_true, Bool.not_eq_true'] at h
  obtain ⟨⟨⟨h1, h2⟩, h3⟩, h4⟩ := h
  refine ⟨of_decide_eq_true h1, ?_, h3, h4⟩
  split at h2
  · exact .inl (by assumption)
  · exact .inr (.inl (by assumption))
  · exact .inr (.inr (by assumption))
  · cases h2
theorem glB_ok {sc : Scope} {x : Str} (h : glB sc x = true) : sc.names.lookup x = some .globalImplicit ∧ (x == ("__debug__" : Str)) = false := by
  unfold glB at h
  simp only [Bool.and_eq_true, Bool.not_eq_true'] at h
  exact ⟨of_decide_eq_true h.1, h.2⟩
theorem asg_cons {N : List Str} {sc : Scope} {t : CT} {e : Expr} {es : List Expr} {env : Env} (h : matchT N sc t e = true) : assignEach (e :: es) env = (false, assign e env) :: assignEach es env := by
  cases t with
  | name i =>
    simp only [matchT] at h
    cases q : asName e with
    | none => rw [q] at h; cases h
    | some x => obtain ⟨pos, rfl⟩ := asName_ok q; rfl
  | tup ts =>
    simp only [matchT] at h
    cases q : asTup e with
    | none => rw [q] at h; cases h
    | some es => obtain ⟨k, pos, rfl⟩ := asTup_ok q; rfl
theorem relabel_kept {s2 : Scope} {env : Env} {x : Str} {k : NameKind} (hk : k ≠ .free) (h : s2.names.lookup x = some k) : (relabel s2 env).names.lookup x = some k := by
  have aux : ∀ l : List (Str × NameKind), l.lookup x = some k → (l.map fun p : Str × NameKind => match p with | (n, k) => if (k == NameKind.free && env.scope.kind == .function && env.kindOf n == some .cell) then (n, NameKind.cell) else (n, k)).lookup x = some k := by
    intro l
    induction l with
    | nil => intro h; cases h
    | cons p l ih =>
      obtain ⟨m, j⟩ := p
      intro h
      rw [List.lookup_cons] at h
      rw [List.map_cons]
      cases q : x == m with
      | true =>
        rw [q] at h
        simp only [Option.some.injEq] at h
        subst h
        have : (j == NameKind.free) = false := by
          cases j <;> first | rfl | exact absurd rfl hk
        simp [this, List.lookup_cons, q]
      | false =>
        rw [q] at h
        have e := ih h
        by_cases c : (j == NameKind.free && env.scope.kind == .function && env.kindOf m == some .cell) = true
        · simp only [c, if_true]
          rw [List.lookup_cons, q]; exact e
        · simp only [c]
          rw [List.lookup_cons]
          simp only [Bool.false_eq_true, if_false, q]
          exact e
  exact aux s2.names h
section
variable {X : Cx}
mutual
theorem pg_ok {sc : Scope} (hc : X.calm = true) (hN : X.N.Nodup) (hf : ∀ x, Loc sc x → Loc X.env.scope x ∧ (X.fn x = true ∨ X.env.scope.names.lookup x = some .local)) : ∀ (t : CT) {e : Expr}, matchT X.N sc t e = true → PG X e (gOf X.K t)
  | .name i, e, h => by
    simp only [matchT] at h
    cases q : asName e with
    | none => rw [q] at h; cases h
    | some x =>
      rw [q] at h
      obtain ⟨pos, rfl⟩ := asName_ok q
      obtain ⟨h1, h2⟩ := locB_ok h
      exact pg_name hN h1 (hf x h2).1 (hf x h2).2
  | .tup ts, e, h => by
    simp only [matchT] at h
    cases q : asTup e with
    | none => rw [q] at h; cases h
    | some es =>
      rw [q] at h
      obtain ⟨k, pos, rfl⟩ := asTup_ok q
      obtain ⟨h1, h2, h3⟩ := pgs_ok hc hN hf ts h
      exact pg_tup hc h1 h2 (List.findIdx?_eq_none_iff.mpr fun y hy => h3 y hy)
theorem pgs_ok {sc : Scope} (hc : X.calm = true) (hN : X.N.Nodup) (hf : ∀ x, Loc sc x → Loc X.env.scope x ∧ (X.fn x = true ∨ X.env.scope.names.lookup x = some .local)) : ∀ (ts : CTs) {es : List Expr}, matchTs X.N sc ts es = true → PGs X es (gsOf X.K ts) ∧ (assignEach es X.env).length = lenTs ts ∧ ∀ y, y ∈ assignEach es X.env → y.1 = false
  | .nil, es, h => by
    cases es with
    | nil => exact ⟨pgs_nil, rfl, fun y hy => by cases hy⟩
    | cons e es => simp [matchTs] at h
  | .cons t ts, es, h => by
    cases es with
    | nil => simp [matchTs] at h
    | cons e es =>
      simp only [matchTs, Bool.and_eq_true] at h
      obtain ⟨h1, h2, h3⟩ := pgs_ok hc hN hf ts h.2
      have ea := asg_cons (es := es) (env := X.env) h.1
      refine ⟨pgs_cons (pg_ok hc hN hf t h.1) h1 (by rw [ea]; rfl), by rw [ea, List.length_cons, h2]; rfl, fun y hy => ?_⟩
      rw [ea] at hy
      rcases List.mem_cons.mp hy with hy | hy
      · rw [hy]
      · exact h3 y hy
end
end
section
variable {K : PySem.W.Frag} {mg : Str → Option Value} {Y : List Addr} {μ : Nat → Addr} {n : Nat} {H : Hp}
theorem wipe_at {σ : L2.St} {j : Nat} : ∀ {vs : List Nat}, (wipe σ vs)[j]? = if j ∈ vs then (σ[j]?.map fun _ => none) else σ[j]?
  | [] => by simp [wipe]
  | v :: vs => by
    unfold wipe
    by_cases q : v = j
    · subst q
      rw [if_pos List.mem_cons_self]
      by_cases hv : v < σ.length
      · rw [List.getElem?_set_self (by rw [wipe_length]; exact hv), List.getElem?_eq_getElem hv]; rfl
      · rw [List.getElem?_eq_none (by rw [List.length_set, wipe_length]; omega), List.getElem?_eq_none (by omega)]; rfl
    · rw [List.getElem?_set_ne q, wipe_at]
      by_cases z : j ∈ vs
      · rw [if_pos z, if_pos (List.mem_cons_of_mem _ z)]
      · rw [if_neg z, if_neg (fun w => by rcases List.mem_cons.mp w with w | w; exact q w.symm; exact z w)]
theorem wipe_set {σ : L2.St} {i : Nat} {v : Option V} {vs : List Nat} (h : i ∈ vs) : wipe (σ.set i v) vs = wipe σ vs := by
  apply List.ext_getElem?
  intro j
  rw [wipe_at, wipe_at]
  by_cases z : j ∈ vs
  · rw [if_pos z, if_pos z]
    by_cases q : i = j
    · subst q
      by_cases hv : i < σ.length
      · rw [List.getElem?_set_self hv, List.getElem?_eq_getElem hv]; rfl
      · rw [List.getElem?_eq_none (by rw [List.length_set]; omega), List.getElem?_eq_none (by omega)]
    · rw [List.getElem?_set_ne q]
  · rw [if_neg z, if_neg z, List.getElem?_set_ne (fun q => z (by rw [← q]; exact h))]
theorem wipe_wipe {σ : L2.St} {vs : List Nat} : wipe (wipe σ vs) vs = wipe σ vs := by
  apply List.ext_getElem?
  intro j
  rw [wipe_at]
  by_cases z : j ∈ vs
  · rw [if_pos z, wipe_at, if_pos z]; cases σ[j]? <;> rfl
  · rw [if_neg z]
theorem RE.wipe {ρ : Rho} {σ : L2.St} (e : RE K mg μ n Y H ρ σ) : ∀ vs : List Nat, RE K mg μ n Y H (wipeR ρ vs) (wipe σ vs)
  | [] => e
  | v :: vs => (RE.wipe e vs).wipe1 v
mutual
theorem gOf_ok : ∀ (t : CT) {u : U} {v : V} {ρ ρ' : Rho} {σ : L2.St} {P : L2.St → Hp → Prop}, RU K mg μ n Y H u v → RE K mg μ n Y H ρ σ → asgT t u ρ = some ρ' →
    (∀ σ', RE K mg μ n Y H ρ' σ' → (∀ vs : List Nat, (∀ i, i ∈ slT t → i ∈ vs) → L2.wipe σ' vs = L2.wipe σ vs) → P σ' H) → gOf K t v σ H P
  | .name i, u, v, ρ, ρ', σ, P, r, e, h, k => by
    simp only [asgT, Option.some.injEq] at h
    subst h
    exact k _ (e.set i r) fun vs hv => wipe_set (hv i (by simp [slT]))
  | .tup ts, u, v, ρ, ρ', σ, P, r, e, h, k => by
    cases r with
    | @tup us a vs h1 h2 =>
      simp only [asgT] at h
      obtain ⟨hl, hk⟩ := gsOf_ok ts h2 e h (P := P) (fun σ' e' w => k σ' e' fun vs hv => w vs (by simpa only [slT] using hv))
      exact ⟨a, vs, rfl, h1, by rw [← h2.length]; exact hl, hk⟩
    | _ => simp [asgT] at h
theorem gsOf_ok : ∀ (ts : CTs) {us : List U} {vs : List V} {ρ ρ' : Rho} {σ : L2.St} {P : L2.St → Hp → Prop}, RUs K mg μ n Y H us vs → RE K mg μ n Y H ρ σ → asgTs ts us ρ = some ρ' →
    (∀ σ', RE K mg μ n Y H ρ' σ' → (∀ vs : List Nat, (∀ i, i ∈ slTs ts → i ∈ vs) → L2.wipe σ' vs = L2.wipe σ vs) → P σ' H) → us.length = lenTs ts ∧ gsOf K ts vs σ H P
  | .nil, us, vs, ρ, ρ', σ, P, r, e, h, k => by
    cases r with
    | nil =>
      simp only [asgTs, Option.some.injEq] at h
      subst h
      exact ⟨rfl, rfl, k σ e fun _ _ => rfl⟩
    | cons _ _ => simp [asgTs] at h
  | .cons t ts, us, vs, ρ, ρ', σ, P, r, e, h, k => by
    cases r with
    | nil => simp [asgTs] at h
    | @cons u v us vs r1 r2 =>
      simp only [asgTs, Option.bind_eq_some_iff] at h
      obtain ⟨ρ1, h1, h2⟩ := h
      have hlen : us.length = lenTs ts := by
        have aux : ∀ (ts : CTs) (us : List U) (ρ ρ' : Rho), asgTs ts us ρ = some ρ' → us.length = lenTs ts := by
          intro ts
          induction ts using CTs.rec (motive_1 := fun _ => True) with
          | name _ => trivial
          | tup _ _ => trivial
          | nil => intro us ρ ρ' h; cases us with
            | nil => rfl
            | cons _ _ => simp [asgTs] at h
          | cons t ts _ ih => intro us ρ ρ' h; cases us with
            | nil => simp [asgTs] at h
            | cons u us =>
              simp only [asgTs, Option.bind_eq_some_iff] at h
              obtain ⟨_, _, h⟩ := h
              simp [lenTs, ih us _ _ h]
        exact aux ts us ρ1 ρ' h2
      refine ⟨by simp [lenTs, hlen], v, vs, rfl, gOf_ok t r1 e h1 fun σ1 e1 w1 => ?_⟩
      exact (gsOf_ok ts r2 e1 h2 fun σ' e' w' => k σ' e' fun vs hv => by
        rw [w' vs fun i hi => hv i (by simp only [slTs, List.mem_append]; exact .inr hi), w1 vs fun i hi => hv i (by simp only [slTs, List.mem_append]; exact .inl hi)]).2
end
end
end Z

set_option Elab.async false
set_option linter.all false
set_option maxRecDepth 100000
set_option maxHeartbeats 1600000
/-! Z8: what is walked. -/
namespace Z
open PySem PySem.Spec PyProof.Rows L2 RZ
section
variable {K : PySem.W.Frag} {mg : Str → Option Value} {Y : List Addr} {μ μ' μ1 : Nat → Addr} {n n' n1 : Nat} {H H' H1 : Hp} {S S1 S' : Sto} {α β : Type} {W : WX} {σ : L2.St}
inductive SrcR (K : PySem.W.Frag) (mg : Str → Option Value) (μ : Nat → Addr) (n : Nat) (Y : List Addr) (H : Hp) : Src → It → Prop
  | lst {u : U} {a : Addr} : RU K mg μ n Y H u (.ref a) → tupOf u = none → SrcR K mg μ n Y H (.seq u) (Itl K a)
  | tup {us : List U} {a : Addr} : RU K mg μ n Y H (.tup us) (.ref a) → SrcR K mg μ n Y H (.seq (.tup us)) (Itt K a)
  | rng {lo : Int} {m : Nat} : SrcR K mg μ n Y H (.rng lo m) (Itr lo m)
  | enum {u : U} {a : Addr} : RU K mg μ n Y H u (.ref a) → tupOf u = none → SrcR K mg μ n Y H (.enum u) (Ite K a)
  | zipL {u w : U} {a b : Addr} : RU K mg μ n Y H u (.ref a) → tupOf u = none → RU K mg μ n Y H w (.ref b) → tupOf w = none → SrcR K mg μ n Y H (.zip false u w) (Itz K a b)
  | zipT {us ws : List U} {a b : Addr} : RU K mg μ n Y H (.tup us) (.ref a) → RU K mg μ n Y H (.tup ws) (.ref b) → SrcR K mg μ n Y H (.zip false (.tup us) (.tup ws)) (ItzT K a b)
  | enumT {us : List U} {a : Addr} : RU K mg μ n Y H (.tup us) (.ref a) → SrcR K mg μ n Y H (.enum (.tup us)) (ZS.IteT K a)
  | zipS {us ws : List U} {a b : Addr} : RU K mg μ n Y H (.tup us) (.ref a) → RU K mg μ n Y H (.tup ws) (.ref b) → SrcR K mg μ n Y H (.zip true (.tup us) (.tup ws)) (ZS.ItzS K a b)
  | ez {us ws : List U} {a b : Addr} : RU K mg μ n Y H (.tup us) (.ref a) → RU K mg μ n Y H (.tup ws) (.ref b) → SrcR K mg μ n Y H (.ez (.tup us) (.tup ws)) (ZS.ItEZ K a b)
theorem SrcR.mono {src : Src} {J : It} (g : Gr μ n H μ' n' H') (h : SrcR K mg μ n Y H src J) : SrcR K mg μ' n' Y H' src J := by
  cases h with
  | lst a b => exact .lst (a.mono g) b
  | tup a => exact .tup (a.mono g)
  | rng => exact .rng
  | enum a b => exact .enum (a.mono g) b
  | zipL a b c d => exact .zipL (a.mono g) b (c.mono g) d
  | zipT a b => exact .zipT (a.mono g) (b.mono g)
  | enumT a => exact .enumT (a.mono g)
  | zipS a b => exact .zipS (a.mono g) (b.mono g)
  | ez a b => exact .ez (a.mono g) (b.mono g)
theorem SrcR.addY {src : Src} {J : It} {D : Addr} (hD : H D = none) (h : SrcR K mg μ n Y H src J) : SrcR K mg μ n (D :: Y) H src J := by
  cases h with
  | lst a b => exact .lst (a.addY hD) b
  | tup a => exact .tup (a.addY hD)
  | rng => exact .rng
  | enum a b => exact .enum (a.addY hD) b
  | zipL a b c d => exact .zipL (a.addY hD) b (c.addY hD) d
  | zipT a b => exact .zipT (a.addY hD) (b.addY hD)
  | enumT a => exact .enumT (a.addY hD)
  | zipS a b => exact .zipS (a.addY hD) (b.addY hD)
  | ez a b => exact .ez (a.addY hD) (b.addY hD)
theorem seqOf_lst {u : U} (h : tupOf u = none) : seqOf S u = lstOf S u := by cases u <;> first | rfl | cases h
/-- a turn of a walk -/
theorem SrcR.use {src : Src} {J : It} (r : RS K mg μ S Y H) (h : SrcR K mg μ S.length Y H src J) (i : Nat) : (src.at_ S i = some none → J.stop i H) ∧ ∀ u, src.at_ S i = some (some u) → J.go i H ∧ ∀ x H3, J.yld i H x H3 →
    Gr μ S.length H μ S.length H3 ∧ RS K mg μ S Y H3 ∧ RU K mg μ S.length Y H3 u x := by
  cases h with
  | @lst u a h1 h2 =>
    simp only [Src.at_, seqOf_lst h2]
    cases q : lstOf S u with
    | none => exact ⟨fun e => (by cases e), fun w e => (by cases e)⟩
    | some us =>
      obtain ⟨a', vs, e1, e2, e3⟩ := lstOf_sq r h1 q
      cases e1
      refine ⟨fun e => ⟨vs, e2, ?_⟩, fun w e => ?_⟩
      · rw [← e3.length]
        exact List.getElem?_eq_none_iff.mp (Option.some.inj e)
      · obtain ⟨x, hx, rx⟩ := e3.get (Option.some.inj e)
        refine ⟨⟨vs, x, e2, hx⟩, fun y H3 hy => ?_⟩
        obtain ⟨rfl, hy⟩ := hy
        have := hy vs e2
        rw [hx] at this
        cases this
        exact ⟨Gr.refl, r, rx⟩
  | @tup us a h1 =>
    obtain ⟨a', vs, e1, e2, e3⟩ := tup_sq h1
    cases e1
    simp only [Src.at_, seqOf, Option.map_some, Option.some.injEq]
    refine ⟨fun e => ⟨vs, e2, ?_⟩, fun w e => ?_⟩
    · rw [← e3.length]; exact List.getElem?_eq_none_iff.mp e
    · obtain ⟨x, hx, rx⟩ := e3.get e
      refine ⟨⟨vs, x, e2, hx⟩, fun y H3 hy => ?_⟩
      obtain ⟨rfl, hy⟩ := hy
      have := hy vs e2
      rw [hx] at this
      cases this
      exact ⟨Gr.refl, r, rx⟩
  | @rng lo m =>
    simp only [Src.at_, Option.some.injEq]
    refine ⟨fun e => ?_, fun w e => ?_⟩
    · by_cases q : i < m
      · rw [if_pos q] at e; cases e
      · exact Nat.le_of_not_lt q
    · by_cases q : i < m
      · rw [if_pos q] at e
        cases e
        refine ⟨q, fun y H3 hy => ?_⟩
        obtain ⟨rfl, rfl⟩ := hy
        exact ⟨Gr.refl, r, .int _⟩
      · rw [if_neg q] at e; cases e
  | @enum u a h1 h2 =>
    simp only [Src.at_, seqOf_lst h2]
    cases q : lstOf S u with
    | none => exact ⟨fun e => (by cases e), fun w e => (by cases e)⟩
    | some us =>
      obtain ⟨a', vs, e1, e2, e3⟩ := lstOf_sq r h1 q
      cases e1
      by_cases hz : us.length < i
      · simp only [if_pos hz]
        exact ⟨fun e => (by cases e), fun w e => (by cases e)⟩
      simp only [if_neg hz, Option.some.injEq]
      refine ⟨fun e => ⟨vs, e2, ?_⟩, fun w e => ?_⟩
      · rw [← e3.length]
        rw [Option.map_eq_none_iff] at e
        exact List.getElem?_eq_none_iff.mp e
      · rw [Option.map_eq_some_iff] at e
        obtain ⟨z, e, rfl⟩ := e
        obtain ⟨x, hx, rx⟩ := e3.get e
        refine ⟨⟨vs, x, e2, hx⟩, fun y H3 hy => ?_⟩
        obtain ⟨T, x', rfl, hT, rfl, hy⟩ := hy
        have := hy vs e2
        rw [hx] at this
        cases this
        exact ⟨Gr.fresh r hT, r.fresh hT, RU.newTup r hT (.cons (.int _) (.cons rx .nil))⟩
  | @zipL u w a b h1 h2 h3 h4 =>
    simp only [Src.at_, seqOf_lst h2, seqOf_lst h4]
    cases q : lstOf S u with
    | none => exact ⟨fun e => (by cases e), fun w e => (by cases e)⟩
    | some us =>
      cases q2 : lstOf S w with
      | none => exact ⟨fun e => (by cases e), fun w e => (by cases e)⟩
      | some ws =>
        obtain ⟨a', vs, e1, e2, e3⟩ := lstOf_sq r h1 q
        obtain ⟨b', vs2, f1, f2, f3⟩ := lstOf_sq r h3 q2
        cases e1
        cases f1
        cases z1 : us[i]? with
        | none =>
          have hz : vs.length ≤ i := by rw [← e3.length]; exact List.getElem?_eq_none_iff.mp z1
          cases z2 : ws[i]? <;> exact ⟨fun e => ⟨vs, vs2, e2, f2, .inl hz⟩, fun w e => by simp [z1, z2] at e⟩
        | some z =>
          cases z2 : ws[i]? with
          | none =>
            have hz : vs2.length ≤ i := by rw [← f3.length]; exact List.getElem?_eq_none_iff.mp z2
            exact ⟨fun e => ⟨vs, vs2, e2, f2, .inr hz⟩, fun w e => by simp [z1, z2] at e⟩
          | some z' =>
            refine ⟨fun e => (by simp [z1, z2] at e), fun w e => ?_⟩
            simp only [z1, z2, Option.some.injEq] at e
            subst e
            obtain ⟨x, hx, rx⟩ := e3.get z1
            obtain ⟨y, hy, ry⟩ := f3.get z2
            refine ⟨⟨vs, vs2, x, y, e2, f2, hx, hy⟩, fun v H3 hv => ?_⟩
            obtain ⟨T, x', y', rfl, hT, rfl, k1, k2⟩ := hv
            have := k1 vs e2
            rw [hx] at this
            cases this
            have := k2 vs2 f2
            rw [hy] at this
            cases this
            exact ⟨Gr.fresh r hT, r.fresh hT, RU.newTup r hT (.cons rx (.cons ry .nil))⟩
  | @zipT us ws a b h1 h2 =>
    obtain ⟨a', vs, e1, e2, e3⟩ := tup_sq h1
    obtain ⟨b', vs2, f1, f2, f3⟩ := tup_sq h2
    cases e1
    cases f1
    simp only [Src.at_, seqOf]
    cases z1 : us[i]? with
    | none =>
      have hz : vs.length ≤ i := by rw [← e3.length]; exact List.getElem?_eq_none_iff.mp z1
      cases z2 : ws[i]? <;> exact ⟨fun e => ⟨vs, vs2, e2, f2, .inl hz⟩, fun w e => by simp [z1, z2] at e⟩
    | some z =>
      cases z2 : ws[i]? with
      | none =>
        have hz : vs2.length ≤ i := by rw [← f3.length]; exact List.getElem?_eq_none_iff.mp z2
        exact ⟨fun e => ⟨vs, vs2, e2, f2, .inr hz⟩, fun w e => by simp [z1, z2] at e⟩
      | some z' =>
        refine ⟨fun e => (by simp [z1, z2] at e), fun w e => ?_⟩
        simp only [z1, z2, Option.some.injEq] at e
        subst e
        obtain ⟨x, hx, rx⟩ := e3.get z1
        obtain ⟨y, hy, ry⟩ := f3.get z2
        refine ⟨⟨vs, vs2, x, y, e2, f2, hx, hy⟩, fun v H3 hv => ?_⟩
        obtain ⟨T, x', y', rfl, hT, rfl, k1, k2⟩ := hv
        have := k1 vs e2
        rw [hx] at this
        cases this
        have := k2 vs2 f2
        rw [hy] at this
        cases this
        exact ⟨Gr.fresh r hT, r.fresh hT, RU.newTup r hT (.cons rx (.cons ry .nil))⟩
  | @enumT us a h1 =>
    obtain ⟨a', vs, e1, e2, e3⟩ := tup_sq h1
    cases e1
    simp only [Src.at_, seqOf]
    by_cases hz : us.length < i
    · simp only [if_pos hz]
      exact ⟨fun e => (by cases e), fun w e => (by cases e)⟩
    simp only [if_neg hz, Option.some.injEq]
    refine ⟨fun e => ⟨vs, e2, ?_⟩, fun w e => ?_⟩
    · rw [Option.map_eq_none_iff] at e
      have := List.getElem?_eq_none_iff.mp e
      rw [← e3.length]
      omega
    · rw [Option.map_eq_some_iff] at e
      obtain ⟨z, e, rfl⟩ := e
      obtain ⟨x, hx, rx⟩ := e3.get e
      refine ⟨⟨vs, x, e2, hx⟩, fun y H3 hy => ?_⟩
      obtain ⟨T, x', rfl, hT, rfl, hy⟩ := hy
      have := hy vs e2
      rw [hx] at this
      cases this
      exact ⟨Gr.fresh r hT, r.fresh hT, RU.newTup r hT (.cons (.int _) (.cons rx .nil))⟩
  | @zipS us ws a b h1 h2 =>
    obtain ⟨a', vs, e1, e2, e3⟩ := tup_sq h1
    obtain ⟨b', vs2, f1, f2, f3⟩ := tup_sq h2
    cases e1
    cases f1
    simp only [Src.at_, seqOf]
    cases z1 : us[i]? with
    | none =>
      have hz : vs.length ≤ i := by rw [← e3.length]; exact List.getElem?_eq_none_iff.mp z1
      cases z2 : ws[i]? with
      | none =>
        have hz2 : vs2.length ≤ i := by rw [← f3.length]; exact List.getElem?_eq_none_iff.mp z2
        exact ⟨fun e => ⟨vs, vs2, e2, f2, hz, hz2⟩, fun w e => by simp at e⟩
      | some _ => exact ⟨fun e => by simp at e, fun w e => by simp at e⟩
    | some z =>
      cases z2 : ws[i]? with
      | none => exact ⟨fun e => by simp at e, fun w e => by simp at e⟩
      | some z' =>
        refine ⟨fun e => (by simp [z1, z2] at e), fun w e => ?_⟩
        simp only [z1, z2, Option.some.injEq] at e
        subst e
        obtain ⟨x, hx, rx⟩ := e3.get z1
        obtain ⟨y, hy, ry⟩ := f3.get z2
        refine ⟨⟨vs, vs2, x, y, e2, f2, hx, hy⟩, fun v H3 hv => ?_⟩
        obtain ⟨T, x', y', rfl, hT, rfl, k1, k2⟩ := hv
        have := k1 vs e2
        rw [hx] at this
        cases this
        have := k2 vs2 f2
        rw [hy] at this
        cases this
        exact ⟨Gr.fresh r hT, r.fresh hT, RU.newTup r hT (.cons rx (.cons ry .nil))⟩
  | @ez us ws a b h1 h2 =>
    obtain ⟨a', vs, e1, e2, e3⟩ := tup_sq h1
    obtain ⟨b', vs2, f1, f2, f3⟩ := tup_sq h2
    cases e1
    cases f1
    simp only [Src.at_, tupOf]
    cases z1 : us[i]? with
    | none =>
      have hz : vs.length ≤ i := by rw [← e3.length]; exact List.getElem?_eq_none_iff.mp z1
      cases z2 : ws[i]? <;> exact ⟨fun e => ⟨vs, vs2, e2, f2, .inl hz⟩, fun w e => by simp [z1, z2] at e⟩
    | some z =>
      cases z2 : ws[i]? with
      | none =>
        have hz : vs2.length ≤ i := by rw [← f3.length]; exact List.getElem?_eq_none_iff.mp z2
        exact ⟨fun e => ⟨vs, vs2, e2, f2, .inr hz⟩, fun w e => by simp [z1, z2] at e⟩
      | some z' =>
        refine ⟨fun e => (by simp [z1, z2] at e), fun w e => ?_⟩
        simp only [z1, z2, Option.some.injEq] at e
        subst e
        obtain ⟨x, hx, rx⟩ := e3.get z1
        obtain ⟨y, hy, ry⟩ := f3.get z2
        refine ⟨⟨vs, vs2, x, y, e2, f2, hx, hy⟩, fun v H3 hv => ?_⟩
        obtain ⟨T, T2, x', y', rfl, hT, hT2, hne, rfl, k1, k2⟩ := hv
        have := k1 vs e2
        rw [hx] at this
        cases this
        have := k2 vs2 f2
        rw [hy] at this
        cases this
        have hT2' : upd H T (.tup [x, y]) T2 = none := by rw [upd_ne (Ne.symm hne)]; exact hT2
        have r1 := r.fresh (ho := .tup [x, y]) hT
        exact ⟨(Gr.fresh r hT).trans (Gr.fresh r1 hT2') r1.inj, r1.fresh hT2', RU.newTup r1 hT2' (.cons (.int _) (.cons (RU.newTup r hT (.cons rx (.cons ry .nil))) .nil))⟩
/-- the reading of what is walked -/
def tI (K : PySem.W.Frag) (mg : Str → Option Value) (W : WX) (f : Rho → Sto → Res Src) : TI := fun σ H R => ∃ μ ρ S Y, RS K mg μ S Y H ∧ RE K mg μ S.length Y H ρ σ ∧ Fin K mg W σ μ S Y H (f ρ S) fun src S' μ' H' => ∀ J, SrcR K mg μ' S'.length Y H' src J → R J H'
end
end Z

set_option Elab.async false
set_option linter.all false
set_option maxRecDepth 100000
set_option maxHeartbeats 1600000
/-! Z8b: fields, keywords, classes by name. -/
namespace Z
open PySem PySem.Spec PyProof.Rows L2 RZ
section
variable {K : PySem.W.Frag} {mg : Str → Option Value} {Y : List Addr} {μ μ' μ1 : Nat → Addr} {n n' n1 : Nat} {H H' H1 : Hp} {S S1 S' : Sto}
theorem RFs.look (g : Str) : ∀ {us : List (Str × U)} {vs : List (Str × V)}, RFs K mg μ n Y H us vs → (∀ u, us.lookup g = some u → ∃ v, vs.lookup g = some v ∧ RU K mg μ n Y H u v) ∧ (us.lookup g = none → vs.lookup g = none)
  | _, _, .nil => ⟨fun u e => (by cases e), fun _ => rfl⟩
  | _, _, .cons (k := k) h r => by
    have ih := RFs.look g r
    simp only [List.lookup_cons]
    cases q : g == k with
    | true => exact ⟨fun u e => (by cases e; exact ⟨_, rfl, h⟩), fun e => (by cases e)⟩
    | false => exact ih
theorem RFs.len : ∀ {us : List (Str × U)} {vs : List (Str × V)}, RFs K mg μ n Y H us vs → us.length = vs.length
  | _, _, .nil => rfl
  | _, _, .cons _ r => by simp [RFs.len r]
theorem kw_names {pos : Pos} {env : Env} : ∀ (kvs : List Keyword) (ks : List Str), kvs.map kwN = ks.map some → (backToKw pos (keywordEach kvs env)).filterMap (·.1) = ks ∧ (backToKw pos (keywordEach kvs env)).all (·.1.isSome) = true ∧ (backToKw pos (keywordEach kvs env)).any (·.1.isNone) = false
  | [], [], _ => ⟨rfl, rfl, rfl⟩
  | [], _ :: _, h => by simp at h
  | _ :: _, [], h => by simp at h
  | ⟨nm, e, p⟩ :: kvs, k :: ks, h => by
    simp only [List.map_cons, List.cons.injEq, kwN] at h
    obtain ⟨h1, h2⟩ := h
    subst h1
    obtain ⟨i1, i2, i3⟩ := kw_names kvs ks h2
    simp only [backToKw] at i1 i2 i3
    have e0 : keywordEach (⟨some k, e, p⟩ :: kvs) env = (some k, eval e env) :: keywordEach kvs env := rfl
    rw [e0]
    simp only [backToKw, List.map_cons, List.filterMap_cons, List.all_cons, List.any_cons]
    exact ⟨by rw [i1], by rw [i2]; rfl, by rw [i3]; rfl⟩
theorem starEach_length {env : Env} {es : List Expr} (h : es.all notStar = true) : (starEach es env).all (fun x => !x.1) = true := by
  induction es with
  | nil => rfl
  | cons e es ih =>
    rw [List.all_cons, Bool.and_eq_true] at h
    rw [star_cons h.1, List.all_cons, ih h.2]; rfl
theorem meth_form {pos : Pos} {env : Env} {es : List Expr} {kvs : List Keyword} {ks : List Str} (h : es.all notStar = true) (hk : kvs.map kwN = ks.map some) (hl : es.length + kvs.length < 29) : methodCallForm (es.length + kvs.length) (backTo pos (starEach es env)) (backToKw pos (keywordEach kvs env)) = true := by
  unfold methodCallForm
  have h1 : (backTo pos (starEach es env)).all (!·.1) = true := by
    have := starEach_length (env := env) h
    simp only [backTo, List.all_map] at this ⊢
    exact this
  rw [h1, (kw_names (pos := pos) (env := env) kvs ks hk).2.1]
  simp only [Bool.true_and, decide_eq_true_eq]
  split <;> omega
theorem ixFlat_ok {y : U} : ∀ {us : List U} {j : Nat}, ixFlat y us = some j → ∃ z, us[j]? = some z ∧ eqV (flatD z) (flatD y) = true ∧ ∀ (m : Nat) (z' : U), m < j → us[m]? = some z' → eqV (flatD z') (flatD y) = false
  | [], _, e => by simp [ixFlat] at e
  | x :: r, j, e => by
    simp only [ixFlat] at e
    by_cases q : eqV (flatD x) (flatD y) = true
    · rw [if_pos q] at e
      cases e
      exact ⟨x, rfl, q, fun m z' hm => absurd hm (by omega)⟩
    · rw [if_neg q, Option.map_eq_some_iff] at e
      obtain ⟨i, e, rfl⟩ := e
      obtain ⟨z, h1, h2, h3⟩ := ixFlat_ok e
      refine ⟨z, by simpa using h1, h2, fun m z' hm hz => ?_⟩
      cases m with
      | zero => simp at hz; subst hz; simpa using q
      | succ m => exact h3 m z' (by omega) (by simpa using hz)
end
section
variable {X : Cx} {T : Th}
theorem PK.imp {kvs : List Keyword} {t t' : TA} (h : PK X kvs t) (k : ∀ σ H Q, t' σ H Q → t σ H Q) : PK X kvs t' := ⟨fun pos pins s σ H Q I q => h.run pos pins s σ H Q I (k σ H Q q)⟩
theorem ClsVal.only {mg : Str → Option Value} {C : Str} {v : V} {cv u : Value} (h : ClsVal mg C v cv) (r : RelV v u) : u = cv := by
  rcases h with ⟨c, _, rfl, rfl⟩ | ⟨t, _, _, _, rfl, rfl⟩
  · exact r
  · exact r
theorem pe_cls (G : Good X T) {C : Str} {pos : Pos} (hc : T.clsB C = true) (hg : glB X.env.scope C = true) : ∃ v cv, ClsVal X.mg C v cv ∧ PE X (.Name C pos) (tC v) := by
  obtain ⟨v, cv, h⟩ := G.err.cls C hc
  obtain ⟨h1, h2⟩ := glB_ok hg
  refine ⟨v, cv, h, ?_⟩
  rcases h with ⟨c, m, rfl, rfl⟩ | ⟨t, m, b, nn, rfl, rfl⟩
  · exact pe_glob h1 m rfl h2
  · exact pe_bltn h1 m b rfl nn h2
def tVs (vs : List V) : TA := fun σ H Q => Q vs H
theorem pa_clss (G : Good X T) : ∀ {qs : List Expr} {Cs : List Str}, namesOf qs = some Cs → Cs.all T.clsB = true → Cs.all (glB X.env.scope) = true →
    ∃ vs ws, PA X qs (tVs vs) ∧ vs.length = Cs.length ∧ (∀ its, Vals vs its → its = ws) ∧ ∀ D b, subAny T D Cs = some b → (∃ d, X.mg D = some (.ref d) ∧ ExcC X.K d) → ∃ d, X.mg D = some (.ref d) ∧ PySem.W.kitAny X.K (.ref d) ws = some b
  | [], Cs, h, _, _ => by
    simp only [namesOf, Option.some.injEq] at h
    subst h
    exact ⟨[], [], PA.imp pa_nil fun σ H Q x => x, rfl, fun its r => by cases r; rfl, fun D b e ⟨d, m, _⟩ => by
      cases e
      exact ⟨d, m, rfl⟩⟩
  | e :: qs, Cs, h, hc, hg => by
    simp only [namesOf] at h
    cases q1 : asName e with
    | none => rw [q1] at h; cases h
    | some C =>
      cases q2 : namesOf qs with
      | none => rw [q1, q2] at h; cases h
      | some Cs' =>
        rw [q1, q2] at h
        cases h
        rw [List.all_cons, Bool.and_eq_true] at hc hg
        obtain ⟨pos, rfl⟩ := asName_ok q1
        obtain ⟨v, cv, c1, c2⟩ := pe_cls G (pos := pos) hc.1 hg.1
        obtain ⟨vs, ws, h1, h2, h3, h4⟩ := pa_clss G q2 hc.2 hg.2
        refine ⟨v :: vs, cv :: ws, PA.imp (pa_cons c2 h1 rfl) fun σ H Q x => x, by simp [h2], fun its r => ?_, fun D b e hD => ?_⟩
        · cases r with
          | cons r1 r2 => rw [c1.only r1, h3 _ r2]
        · obtain ⟨d0, m0, E0⟩ := hD
          simp only [subAny] at e
          cases z : T.sub D C with
          | none => rw [z] at e; cases e
          | some b0 =>
            obtain ⟨d, md, _, hk⟩ := G.err.sub D C b0 z
            obtain ⟨k1, _⟩ := hk v cv c1
            rw [z] at e
            rw [m0] at md
            cases md
            refine ⟨d0, m0, ?_⟩
            simp only [PySem.W.kitAny, k1]
            cases b0 with
            | true => cases e; rfl
            | false =>
              obtain ⟨d', m', h'⟩ := h4 D b e ⟨d0, m0, E0⟩
              rw [m0] at m'
              cases m'
              exact h'
end
end Z

set_option Elab.async false
set_option linter.all false
set_option maxRecDepth 100000
set_option maxHeartbeats 3200000
/-! Z9: what the short form comes to is what the text does. -/
namespace Z
open PySem PySem.Spec PyProof.Rows L2 RZ
section
variable {K : PySem.W.Frag} {mg : Str → Option Value} {Y : List Addr} {μ μ' μ1 : Nat → Addr} {n n' n1 : Nat} {H H' H1 : Hp} {S S1 S' : Sto} {α β : Type} {W : WX} {σ : L2.St}
theorem RU.isN {u : U} {v : V} (h : RU K mg μ n Y H u v) : u.isNon = decide (v = .non) := by
  cases h <;> first | rfl | (symm; exact decide_eq_false (by simp))
/-- a step that stays -/
theorem SlR.imp {X : Cx} {r r' : V → Option Int → Option Int → Hp → VK → Prop} (h : SlR X r) (k : ∀ x lo hi H Q, r' x lo hi H Q → r x lo hi H Q) : SlR X r' :=
  fun pins s σ H x v vl vu lo hi sl Q I rx hs pl pu q => h pins s σ H x v vl vu lo hi sl Q I rx hs pl pu (k _ _ _ _ _ q)
def tO (K : PySem.W.Frag) (mg : Str → Option Value) (W : WX) (f : Rho → Sto → Res (Option Int)) : TO := fun σ H Q => ∃ μ ρ S Y, RS K mg μ S Y H ∧ RE K mg μ S.length Y H ρ σ ∧ Fin K mg W σ μ S Y H (f ρ S) fun o S' μ' H' => Q o H'
theorem tO_of {f : Rho → Sto → Res (Option Int)} {k : Option Int → Sto → Res β} {ρ : Rho} {P : β → Sto → (Nat → Addr) → Hp → Prop} {Q : Option Int → Hp → Prop} (r : RS K mg μ S Y H) (e : RE K mg μ S.length Y H ρ σ) (x : Fin K mg W σ μ S Y H ((f ρ S).bind k) P)
    (h : ∀ o S1 μ1 H1, RS K mg μ1 S1 Y H1 → RE K mg μ1 S1.length Y H1 ρ σ → Gr μ S.length H μ1 S1.length H1 → Fin K mg W σ μ1 S1 Y H1 (k o S1) P → Q o H1) : tO K mg W f σ H Q :=
  ⟨μ, ρ, S, Y, r, e, (Fin.bind x).imp fun u S1 μ1 H1 g r1 y => h u S1 μ1 H1 r1 (e.mono g) g y⟩
theorem BT.inB (t : BT) : (Str.ofString t.nm) ∈ bnames ∧ (Str.ofString t.nm ≠ ("__name__" : Str)) ∧ ((Str.ofString t.nm == ("__debug__" : Str)) = false) ∧ bootBuiltins (Str.ofString t.nm) = some (.type t.nm) := by
  cases t <;> exact ⟨by decide +kernel, by decide +kernel, by decide +kernel, by decide +kernel⟩
theorem BF.inB (f : BF) : f.nm ∈ bnames ∧ (f.nm ≠ ("__name__" : Str)) ∧ ((f.nm == ("__debug__" : Str)) = false) := by
  cases f <;> exact ⟨by decide +kernel, by decide +kernel, by decide +kernel⟩
end
theorem all2 {es : List Expr} {e : Expr} (h : (e :: es).all notStar = true) : notStar e = true ∧ es.all notStar = true := by
  rw [List.all_cons, Bool.and_eq_true] at h; exact h
theorem soundP {X : Cx} {W : WX} {e : Expr} {f : Rho → Sto → Res U} (h : PE X e (tE X.K X.mg W f)) (ho : plainTB e = true) : PT X e (tT X.K X.mg W f) :=
  PT.imp (pt_plain ho h) fun σ H Q ⟨μ, ρ, S, Y, r, re, x⟩ => ⟨μ, ρ, S, Y, r, re, x.imp fun u S1 μ1 H1 g1 r1 z v ru => by
    obtain ⟨b, rfl, q⟩ := z
    cases ru
    exact ⟨b, rfl, q⟩⟩
/-- a comprehension's parts, and what its reading asks -/
theorem lcOk {T : Th} {X : Cx} (G : Good X T) {W : WX} (tk : Takes X W) {tg : CT} {it : CI} {cnd : CEs} {elt : CE} {own : List (Str × Nat)} {x tg' it' : Expr} {ifs : List Expr} {s2 : Scope}
    (hb : blkC X.N X.env.scope s2 own = true) (hsl : ((slT tg).all fun i => decide (i ∈ own.map (·.2))) = true) (ht : matchT X.N s2 tg tg' = true) (hset : notSet it' = true) (hl : ifs.length ≤ 1)
    (hpi : PI X tg' it' (tI X.K X.mg W (evI T it)))
    (hpe : ∀ (s : Shared) (H : Hp) (C : Addr) (cl : List (Str × Addr)) (fp : List Addr), PE (X.blk s H s2 (compEnvC s2 cl C X.env) fp) x (tE X.K X.mg (fun _ _ _ _ => False) (ev T elt)))
    (hpt : ∀ (c : CE) (cs : CEs) (e1 : Expr), cnd = .cons c cs → ifs = [e1] → ∀ (s : Shared) (H : Hp) (C : Addr) (cl : List (Str × Addr)) (fp : List Addr), PT (X.blk s H s2 (compEnvC s2 cl C X.env) fp) e1 (tT X.K X.mg (fun _ _ _ _ => False) (ev T c)))
    (hnil : cnd = .nil → ifs = []) (hcons : ∀ c cs, cnd = .cons c cs → ifs = [] → False) :
    ∃ (wi : TI) (g : TG) (tt : TT) (te : TE), PI X tg' it' wi ∧ BlkOk X.N X.env.scope s2 own ∧ (∀ (s : Shared) (H : Hp) (C : Addr) (cl : List (Str × Addr)) (fp : List Addr), PG (X.blk s H s2 (compEnvC s2 cl C X.env) fp) tg' g) ∧
      (∀ (s : Shared) (H : Hp) (C : Addr) (cl : List (Str × Addr)) (fp : List Addr), PTs (X.blk s H s2 (compEnvC s2 cl C X.env) fp) ifs tt) ∧ (∀ (s : Shared) (H : Hp) (C : Addr) (cl : List (Str × Addr)) (fp : List Addr), PE (X.blk s H s2 (compEnvC s2 cl C X.env) fp) x te) ∧
      (∀ z, foldedSetIterable it' X.env z = pure z) ∧ ∀ σ H Q, tN X.K X.mg W (evN T (.lc tg it cnd elt own)) σ H Q → tLc wi g tt te (own.map (·.2)) σ H Q := by
  have hfn : ∀ (s : Shared) (H : Hp) (C : Addr) (cl : List (Str × Addr)) (fp : List Addr) (y : Str), Loc s2 y → Loc (X.blk s H s2 (compEnvC s2 cl C X.env) fp).env.scope y ∧ ((X.blk s H s2 (compEnvC s2 cl C X.env) fp).fn y = true ∨ (X.blk s H s2 (compEnvC s2 cl C X.env) fp).env.scope.names.lookup y = some .local) := by
    intro s H C cl fp y hy
    rcases hy with hy | hy
    · have := relabel_kept (env := X.env) (by simp) hy
      exact ⟨.inl this, .inr this⟩
    · have := relabel_kept (env := X.env) (by simp) hy
      refine ⟨.inr this, .inl ?_⟩
      show (s2.names.lookup y == some .cell) = true
      rw [hy]; rfl
  have hpg : ∀ (s : Shared) (H : Hp) (C : Addr) (cl : List (Str × Addr)) (fp : List Addr), PG (X.blk s H s2 (compEnvC s2 cl C X.env) fp) tg' (gOf X.K tg) := fun s H C cl fp => pg_ok (X := X.blk s H s2 (compEnvC s2 cl C X.env) fp) G.calm G.nd (hfn s H C cl fp) tg ht
  have hsi : ∀ z, foldedSetIterable it' X.env z = pure z := by
    intro z
    cases it' <;> first | rfl | cases hset
  have hsl' : ∀ i, i ∈ slT tg → i ∈ own.map (·.2) := fun i hi => by
    have := List.all_eq_true.mp hsl i hi
    exact of_decide_eq_true this
  -- the turns, whatever the tests are
  have key : ∀ (tt : TT) (st : U → Sto → Res (Option U)) (σ : L2.St) (H : Hp) (Q : VK) (μ : Nat → Addr) (ρ : Rho) (S : Sto) (Y : List Addr), RS X.K X.mg μ S Y H → RE X.K X.mg μ S.length Y H ρ σ →
      FinN X.K X.mg W σ μ S Y H ((evI T it ρ S).bind fun src S1 => lcGo src st (src.len S1) 0 [] S1) Q →
      (∀ (u : U) (S2 : Sto) (o : Option U) (S3 : Sto) (D : Addr) (σ2 : L2.St) (ρ' : Rho) (μ2 : Nat → Addr) (H2 : Hp) (P : Option V → Hp → Prop), st u S2 = .ok o S3 → asgT tg u (wipeR ρ (own.map (·.2))) = some ρ' → RS X.K X.mg μ2 S2 (D :: Y) H2 → RE X.K X.mg μ2 S2.length (D :: Y) H2 ρ' σ2 →
        (∀ μ3 H3 ov, Gr μ2 S2.length H2 μ3 S3.length H3 → RS X.K X.mg μ3 S3 (D :: Y) H3 → (match o with | some w => ∃ v, ov = some v ∧ RU X.K X.mg μ3 S3.length (D :: Y) H3 w v | none => ov = none) → P ov H3) →
        tt σ2 H2 fun b H3 => if b = true then tE X.K X.mg (fun _ _ _ _ => False) (ev T elt) σ2 H3 fun y H4 => P (some y) H4 else P none H3) →
      (∀ u S2 o S3, st u S2 = .ok o S3 → ∃ ρ', asgT tg u (wipeR ρ (own.map (·.2))) = some ρ') →
      tLc (tI X.K X.mg W (evI T it)) (gOf X.K tg) tt (tE X.K X.mg (fun _ _ _ _ => False) (ev T elt)) (own.map (·.2)) σ H Q := by
    intro tt st σ H Q μ ρ S Y r re f htt hst
    refine ⟨μ, ρ, S, Y, r, re, (f.bind Gr.refl).imp fun src S1 μ1 H1 g1 r1 f1 J hJ D hD => ?_⟩
    have hD0 : H D = none := Gr.none_of r1 g1 hD
    refine ⟨fun i m H' => ∃ μ2 S2 acc accV nl, Gr μ1 S1.length H1 μ2 S2.length H' ∧ RS X.K X.mg μ2 S2 (D :: Y) H' ∧ H' D = some (.lst accV) ∧ RUs X.K X.mg μ2 S2.length (D :: Y) H' acc accV ∧ m = nl ∧
      FinN X.K X.mg W σ μ S Y H (lcGo src st nl i acc S2) Q, ⟨src.len S1, μ1, S1, [], [], src.len S1, Gr.fresh r1 hD, r1.resv hD, upd_same, .nil, rfl, f1⟩, ?_⟩
    rintro i m H' ⟨μ2, S2, acc, accV, nl, g2, r2, hl2, ra, rfl, f2⟩
    have hJ2 : SrcR X.K X.mg μ2 S2.length (D :: Y) H' src J := (hJ.addY hD).mono g2
    obtain ⟨ustop, ugo⟩ := hJ2.use r2 i
    have f2' := f2
    unfold lcGo at f2'
    cases z : src.at_ S2 i with
    | none => rw [z] at f2'; exact f2'.elim
    | some o =>
      cases o with
      | none =>
        rw [z] at f2'
        exact .inl ⟨ustop z, f2' μ2 H' D accV (g1.trans g2 r2.inj) hD0 hl2 r2 ra⟩
      | some u =>
        rw [z] at f2'
        cases m with
        | zero => exact f2'.elim
        | succ m =>
          right
          obtain ⟨hgo, hy⟩ := ugo u z
          refine ⟨hgo, ?_⟩
          simp only at f2'
          cases zs : st u S2 with
          | ex _ _ => rw [zs] at f2'; exact f2'.elim
          | no => rw [zs] at f2'; exact f2'.elim
          | ok o S3 =>
            rw [zs] at f2'
            refine ⟨fun H3 => ∃ μ3 acc' accV', Gr μ1 S1.length H1 μ3 S3.length H3 ∧ RS X.K X.mg μ3 S3 (D :: Y) H3 ∧ H3 D = some (.lst accV') ∧ RUs X.K X.mg μ3 S3.length (D :: Y) H3 acc' accV' ∧
              FinN X.K X.mg W σ μ S Y H (lcGo src st m (i + 1) acc' S3) Q, fun H3 ⟨μ3, acc', accV', k1, k2, k3, k4, k5⟩ => ⟨m, Nat.lt_succ_self _, μ3, S3, acc', accV', m, k1, k2, k3, k4, rfl, k5⟩, ?_⟩
            intro y H3 hyld
            obtain ⟨g3, r3, ry⟩ := hy y H3 hyld
            obtain ⟨ρ', hρ⟩ := hst u S2 o S3 zs
            have reW : RE X.K X.mg μ2 S2.length (D :: Y) H3 (wipeR ρ (own.map (·.2))) (wipe σ (own.map (·.2))) := ((((re.mono g1).addY hD).mono g2).mono g3).wipe _
            refine gOf_ok tg ry reW hρ fun σ2 re2 hw => ⟨by rw [hw _ hsl', wipe_wipe], ?_⟩
            have hl3 : H3 D = some (.lst accV) := g3.all D _ (r2.res D List.mem_cons_self).2 hl2
            refine (htt u S2 o S3 D σ2 ρ' μ2 H3 (fun ov H4 => match ov with
              | some y => ∃ acc, H4 D = some (.lst acc) ∧ acc.length < sizeLine ∧ ∃ μ3 acc' accV', Gr μ1 S1.length H1 μ3 S3.length (upd H4 D (.lst (acc ++ [y]))) ∧ RS X.K X.mg μ3 S3 (D :: Y) (upd H4 D (.lst (acc ++ [y]))) ∧ (upd H4 D (.lst (acc ++ [y]))) D = some (.lst accV') ∧ RUs X.K X.mg μ3 S3.length (D :: Y) (upd H4 D (.lst (acc ++ [y]))) acc' accV' ∧ FinN X.K X.mg W σ μ S Y H (lcGo src st m (i + 1) acc' S3) Q
              | none => ∃ μ3 acc' accV', Gr μ1 S1.length H1 μ3 S3.length H4 ∧ RS X.K X.mg μ3 S3 (D :: Y) H4 ∧ H4 D = some (.lst accV') ∧ RUs X.K X.mg μ3 S3.length (D :: Y) H4 acc' accV' ∧ FinN X.K X.mg W σ μ S Y H (lcGo src st m (i + 1) acc' S3) Q) zs hρ r3 re2 fun μ3 H4 ov g4 r4 hov => ?_)
            have hl4 : H4 D = some (.lst accV) := g4.all D _ (r3.res D List.mem_cons_self).2 hl3
            have gg : Gr μ1 S1.length H1 μ3 S3.length H4 := (g2.trans g3 r3.inj).trans g4 r4.inj
            have ra4 : RUs X.K X.mg μ3 S3.length (D :: Y) H4 acc accV := (ra.mono g3).mono g4
            cases o with
            | none =>
              subst hov
              exact ⟨μ3, acc, accV, gg, r4, hl4, ra4, f2'⟩
            | some w =>
              obtain ⟨v, rfl, rv⟩ := hov
              simp only at f2'
              by_cases hz : acc.length < sizeLine
              · rw [if_pos hz] at f2'
                refine ⟨accV, hl4, by rw [← ra4.length]; exact hz, μ3, acc ++ [w], accV ++ [v], gg.upd_new hD, r4.reput List.mem_cons_self hl4, upd_same, RUs.reput List.mem_cons_self hl4 (ra4.append (.cons rv .nil)), f2'⟩
              · rw [if_neg hz] at f2'; exact f2'.elim
  cases cnd with
  | nil =>
    have := hnil rfl
    subst this
    refine ⟨_, _, tYes, _, hpi, blkOk_by hb, hpg, fun _ _ _ _ _ => pts_nil, hpe, hsi, fun σ H Q ⟨μ, ρ, S, Y, r, re, f⟩ => ?_⟩
    simp only [evN] at f
    refine key tYes _ σ H Q μ ρ S Y r re f (fun u S2 o S3 D σ2 ρ' μ2 H2 P hs ha r2 re2 hP => ?_) (fun u S2 o S3 hs => ?_)
    · simp only [ha] at hs
      show if true = true then tE X.K X.mg (fun _ _ _ _ => False) (ev T elt) σ2 H2 (fun y H4 => P (some y) H4) else P none H2
      refine iteT ⟨μ2, ρ', S2, D :: Y, r2, re2, ?_⟩
      cases z : ev T elt ρ' S2 with
      | ok w S4 =>
        rw [z] at hs
        cases hs
        exact fun μ3 H3 g3 r3 v rv => hP μ3 H3 (some v) g3 r3 ⟨v, rfl, rv⟩
      | ex _ _ => rw [z] at hs; cases hs
      | no => rw [z] at hs; cases hs
    · cases z : asgT tg u (wipeR ρ (own.map (·.2))) with
      | none => simp only [z] at hs; cases hs
      | some ρ' => exact ⟨ρ', rfl⟩
  | cons c cs =>
    rcases ifs with _ | ⟨e1, _ | ⟨e2, ifs⟩⟩
    · exact (hcons c cs rfl rfl).elim
    · have hpt := hpt c cs e1 rfl rfl
      refine ⟨_, _, _, _, hpi, blkOk_by hb, hpg, fun s H C cl fp => pts_one (hpt s H C cl fp), hpe, hsi, fun σ H Q ⟨μ, ρ, S, Y, r, re, f⟩ => ?_⟩
      simp only [evN] at f
      refine key _ _ σ H Q μ ρ S Y r re f (fun u S2 o S3 D σ2 ρ' μ2 H2 P hs ha r2 re2 hP => ?_) (fun u S2 o S3 hs => ?_)
      · simp only [ha] at hs
        refine ⟨μ2, ρ', S2, D :: Y, r2, re2, ?_⟩
        cases z : ev T c ρ' S2 with
        | ex _ _ => rw [z] at hs; cases hs
        | no => rw [z] at hs; cases hs
        | ok b S4 =>
          rw [z] at hs
          intro μ4 H4 g4 r4
          cases b with
          | bl b0 =>
            refine ⟨b0, rfl, ?_⟩
            cases b0 with
            | false =>
              simp only [Res.bind] at hs
              cases hs
              exact iteF (hP μ4 H4 none g4 r4 rfl)
            | true =>
              simp only [Res.bind] at hs
              refine iteT ⟨μ4, ρ', S4, D :: Y, r4, re2.mono g4, ?_⟩
              cases z2 : ev T elt ρ' S4 with
              | ok w S5 =>
                rw [z2] at hs
                cases hs
                exact fun μ3 H3 g3 r3 v rv => hP μ3 H3 (some v) (g4.trans g3 r3.inj) r3 ⟨v, rfl, rv⟩
              | ex _ _ => rw [z2] at hs; cases hs
              | no => rw [z2] at hs; cases hs
          | _ => simp only [Res.bind] at hs; cases hs
      · cases z : asgT tg u (wipeR ρ (own.map (·.2))) with
        | none => simp only [z] at hs; cases hs
        | some ρ' => exact ⟨ρ', rfl⟩
    · simp at hl

theorem PE.or {X : Cx} {e : Expr} {t t' : TE} (h : PE X e t) (h' : PE X e t') : PE X e (fun σ H Q => t σ H Q ∨ t' σ H Q) := ⟨fun pins s σ H Q I q => q.elim (h.run pins s σ H Q I) (h'.run pins s σ H Q I)⟩
theorem PT.false {X : Cx} {e : Expr} {t : TT} (k : ∀ σ H Q, ¬ t σ H Q) : PT X e t := ⟨fun _ _ σ H Q _ q => (k σ H Q q).elim⟩
theorem din_ok {X : Cx} {a : Addr} {es : Array DictEntry} {n : Nat} (D : KDict X.K X.w a es n) (no : Bool) : ∃ rr, OpR X (compareOp (if no then .NotIn else .In)) rr ∧
    ∀ z (o : Option U) H Q, (∃ r : Option Value, PySem.W.nsIn X.K a z = some r ∧ r.isSome = o.isSome) → Q (.bl (if no then !o.isSome else o.isSome)) H → rr (.str z) (.ref a) H Q := by
  cases no with
  | true => exact ⟨_, op_notIn_kd D, fun z o H Q ⟨r, h1, h2⟩ q => ⟨z, r, rfl, rfl, h1, by rw [h2]; exact q⟩⟩
  | false => exact ⟨_, op_in_kd D, fun z o H Q ⟨r, h1, h2⟩ q => ⟨z, r, rfl, rfl, h1, by rw [h2]; exact q⟩⟩
theorem din_at {K : PySem.W.Frag} {mg : Str → Option Value} {a : Addr} {z : Str} {o : Option U} (h : match o with
    | none => PySem.W.nsIn K a z = some none
    | some u => ∃ u0 v, PySem.W.nsIn K a z = some (some u0) ∧ RelV v u0 ∧ ∀ μ n Y H, RU K mg μ n Y H u v) : ∃ r : Option Value, PySem.W.nsIn K a z = some r ∧ r.isSome = o.isSome := by
  cases o with
  | none => exact ⟨none, h, rfl⟩
  | some u => obtain ⟨u0, v, h, _⟩ := h; exact ⟨some u0, h, rfl⟩
section
variable {T : Th}
mutual
theorem soundE : ∀ (c : CE) {X : Cx} (_ : Good X T) {W : WX} (_ : Takes X W) {e : Expr}, matchE X.N X.env.scope c e = true → PE X e (tE X.K X.mg W (ev T c))
  | .var i, X, G, W, tk, e, h => by
    simp only [matchE] at h
    cases q : asName e with
    | none => rw [q] at h; cases h
    | some x =>
      rw [q] at h
      obtain ⟨pos, rfl⟩ := asName_ok q
      obtain ⟨h1, h2, h3, h4⟩ := visB_ok h
      refine PE.imp (pe_var h1 h2 h3 h4) fun σ H Q ⟨μ, ρ, S, Y, r, re, f⟩ => ?_
      simp only [ev] at f
      cases z : ρ[i]? with
      | none => rw [z] at f; exact f.elim
      | some o =>
        cases o with
        | none => rw [z] at f; exact f.elim
        | some u =>
          rw [z] at f
          obtain ⟨v, e1, e2⟩ := re.2 i u z
          exact ⟨v, e1, Nx.here f r v e2⟩
  | .int i, X, G, W, tk, e, h => by
    simp only [matchE] at h
    obtain ⟨k, pos, rfl⟩ := asInt_ok (eq_of_beq h)
    exact PE.imp pe_int fun σ H Q ⟨μ, ρ, S, Y, r, re, f⟩ => Nx.here f r _ (.int i)
  | .str s, X, G, W, tk, e, h => by
    simp only [matchE, decide_eq_true_eq] at h
    obtain ⟨k, pos, rfl⟩ := asStr_ok h
    exact PE.imp pe_str fun σ H Q ⟨μ, ρ, S, Y, r, re, f⟩ => Nx.here f r _ (.str s)
  | .non, X, G, W, tk, e, h => by
    simp only [matchE] at h
    obtain ⟨k, pos, rfl⟩ := asNon_ok h
    exact PE.imp pe_non fun σ H Q ⟨μ, ρ, S, Y, r, re, f⟩ => Nx.here f r _ .non
  | .bl b, X, G, W, tk, e, h => by
    simp only [matchE] at h
    obtain ⟨k, pos, rfl⟩ := asBool_ok (eq_of_beq h)
    exact PE.imp pe_bl fun σ H Q ⟨μ, ρ, S, Y, r, re, f⟩ => Nx.here f r _ (.bl b)
  | .glob x, X, G, W, tk, e, h => by
    simp only [matchE, Bool.and_eq_true, decide_eq_true_eq] at h
    obtain ⟨pos, rfl⟩ := asName_ok h.1
    obtain ⟨h1, h2⟩ := glB_ok h.2
    cases q : T.gl x with
    | none => exact PE.false fun σ H Q ⟨μ, ρ, S, Y, r, re, f⟩ => by simp only [ev, q] at f; exact f
    | some u =>
      obtain ⟨v, w, e1, e2, e3⟩ := G.gl x u q
      refine PE.imp (pe_glob h1 e1 e2 h2) fun σ H Q ⟨μ, ρ, S, Y, r, re, f⟩ => ?_
      simp only [ev, q] at f
      exact Nx.here f r v (e3 _ _ _ _)
  | .bin o a b, X, G, W, tk, e, h => by
    simp only [matchE] at h
    cases q : asBin e with
    | none => rw [q] at h; cases h
    | some z =>
      obtain ⟨op, p, q'⟩ := z
      rw [q] at h
      simp only [Bool.and_eq_true, decide_eq_true_eq] at h
      obtain ⟨pos, rfl⟩ := asBin_ok q
      obtain ⟨rfl, ha, hb⟩ := h
      obtain ⟨rr, ho, hh⟩ := bin_ok (X := X) o
      refine PE.imp (pe_op ho (soundE a G tk ha) (soundE b G tk hb)) fun σ H Q ⟨μ, ρ, S, Y, r, re, f⟩ => ?_
      simp only [ev] at f
      exact tE_of r re f fun u S1 μ1 H1 v r1 re1 g1 ru f1 => tE_of r1 re1 f1 fun w S2 μ2 H2 y r2 re2 g2 rw' f2 => by
        obtain ⟨z, e1, k⟩ := f2.ofO
        exact hh _ _ _ _ _ _ _ _ _ _ r2 (ru.mono g2) rw' e1 k
  | .neg a, X, G, W, tk, e, h => by
    simp only [matchE] at h
    cases q : asUn e with
    | none => rw [q] at h; cases h
    | some z =>
      obtain ⟨op, p⟩ := z
      rw [q] at h
      simp only [Bool.and_eq_true, decide_eq_true_eq] at h
      obtain ⟨pos, rfl⟩ := asUn_ok q
      obtain ⟨rfl, ha⟩ := h
      refine PE.imp (pe_un un_neg (soundE a G tk ha)) fun σ H Q ⟨μ, ρ, S, Y, r, re, f⟩ => ?_
      simp only [ev] at f
      exact tE_of r re f fun u S1 μ1 H1 v r1 re1 g1 ru f1 => by
        cases ru with
        | int i => exact ⟨i, rfl, Nx.here f1 r1 _ (.int _)⟩
        | _ => exact f1.elim
  | .cmp o a b, X, G, W, tk, e, h => by
    simp only [matchE] at h
    cases q : asCmp e with
    | none => rw [q] at h; cases h
    | some z =>
      obtain ⟨p, op, q'⟩ := z
      rw [q] at h
      simp only [Bool.and_eq_true, decide_eq_true_eq, Bool.not_eq_true'] at h
      obtain ⟨pos, rfl⟩ := asCmp_ok q
      obtain ⟨⟨rfl, hm⟩, ha, hb⟩ := h
      obtain ⟨rr, ho, hh⟩ := cmp_ok (X := X) (by have := G.units; omega) o
      refine PE.imp (pe_cmpR ho (soundE a G tk ha) (soundE b G tk hb) hm) fun σ H Q ⟨μ, ρ, S, Y, r, re, f⟩ => ?_
      simp only [ev] at f
      exact tE_of r re f fun u S1 μ1 H1 v r1 re1 g1 ru f1 => tE_of r1 re1 f1 fun w S2 μ2 H2 y r2 re2 g2 rw' f2 => by
        obtain ⟨z, e1, k⟩ := f2.ofO
        exact hh _ _ _ _ _ _ _ _ _ _ r2 (ru.mono g2) rw' e1 k
  | .isN a, X, G, W, tk, e, h => by
    simp only [matchE] at h
    cases q : asCmp e with
    | none => rw [q] at h; cases h
    | some z =>
      obtain ⟨p, op, q'⟩ := z
      rw [q] at h
      simp only [Bool.and_eq_true, decide_eq_true_eq] at h
      obtain ⟨pos, rfl⟩ := asCmp_ok q
      obtain ⟨⟨rfl, hn⟩, ha⟩ := h
      obtain ⟨k, pos', rfl⟩ := asNon_ok hn
      refine PE.imp (pe_cmpR op_isN (soundE a G tk ha) pe_non (nomark _)) fun σ H Q ⟨μ, ρ, S, Y, r, re, f⟩ => ?_
      simp only [ev] at f
      exact tE_of r re f fun u S1 μ1 H1 v r1 re1 g1 ru f1 => by
        rw [ru.isN] at f1
        exact ⟨rfl, Nx.here f1 r1 _ (.bl _)⟩
  | .notN a, X, G, W, tk, e, h => by
    simp only [matchE] at h
    cases q : asCmp e with
    | none => rw [q] at h; cases h
    | some z =>
      obtain ⟨p, op, q'⟩ := z
      rw [q] at h
      simp only [Bool.and_eq_true, decide_eq_true_eq] at h
      obtain ⟨pos, rfl⟩ := asCmp_ok q
      obtain ⟨⟨rfl, hn⟩, ha⟩ := h
      obtain ⟨k, pos', rfl⟩ := asNon_ok hn
      refine PE.imp (pe_cmpR op_notN (soundE a G tk ha) pe_non (nomark _)) fun σ H Q ⟨μ, ρ, S, Y, r, re, f⟩ => ?_
      simp only [ev] at f
      exact tE_of r re f fun u S1 μ1 H1 v r1 re1 g1 ru f1 => by
        rw [ru.isN] at f1
        exact ⟨rfl, Nx.here f1 r1 _ (.bl _)⟩
  | .chn o o' a b c, X, G, W, tk, e, h => by
    simp only [matchE] at h
    cases q : asChn e with
    | none => rw [q] at h; cases h
    | some z =>
      obtain ⟨p, op, q', op', r'⟩ := z
      rw [q] at h
      simp only [Bool.and_eq_true, decide_eq_true_eq, Bool.not_eq_true'] at h
      obtain ⟨pos, rfl⟩ := asChn_ok q
      obtain ⟨⟨⟨rfl, rfl⟩, hm⟩, ha, hb, hc⟩ := h
      have hu : X.A.units + 64 < cLine := by have := G.units; omega
      obtain ⟨rr, ho, hh⟩ := cmp_ok (X := X) hu o
      obtain ⟨rr', ho', hh'⟩ := cmp_ok (X := X) hu o'
      refine PE.imp (pe_chain ho ho' (soundE a G tk ha) (soundE b G tk hb) (soundE c G tk hc) hm) fun σ H Q ⟨μ, ρ, S, Y, r, re, f⟩ => ?_
      simp only [ev] at f
      exact tE_of r re f fun u S1 μ1 H1 v r1 re1 g1 ru f1 => tE_of r1 re1 f1 fun w S2 μ2 H2 y r2 re2 g2 rw' f2 => by
        cases z1 : cmpE S2 o u w with
        | none => rw [z1] at f2; exact f2.elim
        | some b0 =>
          rw [z1] at f2
          refine hh μ2 S2 Y H2 u w (.bl b0) v y _ r2 (ru.mono g2) rw' (show (cmpE S2 o u w).map U.bl = some (.bl b0) by rw [z1]; rfl) fun μ3 H3 g3 r3 v3 rv3 => ?_
          cases rv3
          refine ⟨b0, rfl, ?_⟩
          cases b0 with
          | false => exact iteF (Nx.here (Nx.shift f2 g3) r3 _ (.bl _))
          | true =>
            refine iteT (tE_of r3 (re2.mono g3) (Fin.shift f2 g3) fun z S4 μ4 H4 y4 r4 re4 g4 rz f4 => ?_)
            obtain ⟨z', e1, k⟩ := f4.ofO
            exact hh' _ _ _ _ _ _ _ _ _ _ r4 ((rw'.mono g3).mono g4) rz e1 k
  | .bop an as, X, G, W, tk, e, h => by
    simp only [matchE] at h
    cases q : asBop e with
    | none => rw [q] at h; cases h
    | some z =>
      obtain ⟨op, es⟩ := z
      rw [q] at h
      simp only [Bool.and_eq_true, decide_eq_true_eq] at h
      obtain ⟨pos, rfl⟩ := asBop_ok q
      obtain ⟨rfl, ha⟩ := h
      exact PE.imp (soundB as G tk an ha) fun σ H Q x => x
  | .not a, X, G, W, tk, e, h => by
    simp only [matchE] at h
    cases q : asUn e with
    | none => rw [q] at h; cases h
    | some z =>
      obtain ⟨op, p⟩ := z
      rw [q] at h
      simp only [Bool.and_eq_true, decide_eq_true_eq] at h
      obtain ⟨pos, rfl⟩ := asUn_ok q
      obtain ⟨rfl, ha⟩ := h
      refine PE.imp (pe_not (soundE a G tk ha)) fun σ H Q ⟨μ, ρ, S, Y, r, re, f⟩ => ?_
      simp only [ev] at f
      exact tE_of r re f fun u S1 μ1 H1 v r1 re1 g1 ru f1 => by
        cases ru with
        | bl b => exact ⟨b, rfl, Nx.here f1 r1 _ (.bl _)⟩
        | _ => exact f1.elim
  | .ite t a b, X, G, W, tk, e, h => by
    simp only [matchE] at h
    cases q : asIf e with
    | none => rw [q] at h; cases h
    | some z =>
      obtain ⟨c, p, q'⟩ := z
      rw [q] at h
      simp only [Bool.and_eq_true] at h
      obtain ⟨pos, rfl⟩ := asIf_ok q
      obtain ⟨⟨hk, ht⟩, ha, hb⟩ := h
      refine PE.imp (pe_ifExp (soundT t G tk hk ht) (soundE a G tk ha) (soundE b G tk hb)) fun σ H Q ⟨μ, ρ, S, Y, r, re, f⟩ => ?_
      simp only [ev] at f
      exact tT_of r re f fun u S1 μ1 H1 r1 re1 g1 f1 => by
        cases u with
        | bl b0 =>
          refine ⟨b0, rfl, ?_⟩
          cases b0 with
          | true => exact iteT ⟨μ1, ρ, S1, Y, r1, re1, f1⟩
          | false => exact iteF ⟨μ1, ρ, S1, Y, r1, re1, f1⟩
        | _ => exact f1.elim
  | .call fn as, X, G, W, tk, e, h => by
    simp only [matchE] at h
    cases q : asCall e with
    | none => rw [q] at h; cases h
    | some z =>
      obtain ⟨g, es⟩ := z
      rw [q] at h
      simp only [Bool.and_eq_true, decide_eq_true_eq, Bool.not_eq_true'] at h
      obtain ⟨p, pos, rfl⟩ := asCall_ok q
      obtain ⟨⟨⟨rfl, hg⟩, hs⟩, hne, ha⟩ := h
      obtain ⟨k, hr, tb⟩ := G.tab
      cases hd : T.dom fn with
      | true =>
        obtain ⟨fa, fd, ps, hm, hk, F, hb⟩ := tb.1 fn hd
        obtain ⟨h1, h2⟩ := glB_ok hg
        cases es with
        | nil => cases hne
        | cons e1 es =>
          obtain ⟨s1, s2⟩ := all2 hs
          refine PE.imp (ZG.pe_callG F hr G.gu h1 hm hk hb tk (soundEs as G tk hs ha) h2 (star_cons s1) (noStar_any s2)) fun σ H Q ⟨μ, ρ, S, Y, r, re, f⟩ => ?_
          simp only [ev, hd, if_true] at f
          exact tA_of r re f fun us S1 μ1 H1 vs r1 re1 g1 rus f1 => ⟨μ1, S1, Y, us, r1, rus, f1.w fun cls d H z => z⟩
      | false =>
        refine PE.false fun σ H Q ⟨μ, ρ, S, Y, r, re, f⟩ => ?_
        simp only [ev, hd] at f
        exact f
  | .bi fn as, X, G, W, tk, e, h => by
    simp only [matchE] at h
    cases q : asCall e with
    | none => rw [q] at h; cases h
    | some z =>
      obtain ⟨g, es⟩ := z
      rw [q] at h
      simp only [Bool.and_eq_true, decide_eq_true_eq, Bool.not_eq_true'] at h
      obtain ⟨p, pos, rfl⟩ := asCall_ok q
      obtain ⟨⟨⟨rfl, hg⟩, hs⟩, hne, ha⟩ := h
      obtain ⟨h1, h2⟩ := glB_ok hg
      obtain ⟨b1, b2, b3⟩ := fn.inB
      cases es with
      | nil => cases hne
      | cons e1 es =>
        obtain ⟨s1, s2⟩ := all2 hs
        rcases bi_ok G.calm fn with ⟨id, rr, hv, hc, hh⟩ | ⟨id, rr, hv, hc, hh⟩
        · refine PE.imp (pe_callB hc h1 (G.free _ b1) hv (soundEs as G tk hs ha) b2 b3 (star_cons s1) (noStar_any s2)) fun σ H Q ⟨μ, ρ, S, Y, r, re, f⟩ => ?_
          simp only [ev] at f
          exact tA_of r re f fun us S1 μ1 H1 vs r1 re1 g1 rus f1 => by
            obtain ⟨z, e1, k⟩ := f1.ofO
            exact hh _ _ _ _ _ _ _ _ r1 rus e1 k
        · refine PE.imp (pe_callTy hc h1 (G.free _ b1) hv (soundEs as G tk hs ha) b2 b3 (star_cons s1) (noStar_any s2)) fun σ H Q ⟨μ, ρ, S, Y, r, re, f⟩ => ?_
          simp only [ev] at f
          exact tA_of r re f fun us S1 μ1 H1 vs r1 re1 g1 rus f1 => by
            obtain ⟨z, e1, k⟩ := f1.ofO
            exact hh _ _ _ _ _ _ _ _ r1 rus e1 k
  | .isi a t, X, G, W, tk, e, h => by
    simp only [matchE] at h
    cases q : asCall e with
    | none => rw [q] at h; cases h
    | some z =>
      obtain ⟨g, es⟩ := z
      rw [q] at h
      rcases es with _ | ⟨p, _ | ⟨q', _ | ⟨q2, es⟩⟩⟩ <;> first | (cases h; done) | skip
      simp only [Bool.and_eq_true, decide_eq_true_eq] at h
      obtain ⟨p0, pos, rfl⟩ := asCall_ok q
      obtain ⟨⟨⟨⟨rfl, hg⟩, hq⟩, hg2⟩, hs, ha⟩ := h
      obtain ⟨pos2, rfl⟩ := asName_ok hq
      obtain ⟨h1, h2⟩ := glB_ok hg
      obtain ⟨h3, h4⟩ := glB_ok hg2
      obtain ⟨b1, b2, b3, b4⟩ := t.inB
      refine PE.imp (pe_callB call_isi h1 (G.free _ (by decide +kernel)) PyProof.Rows.boot_isinstance (pa_cons (soundE a G tk ha) (pa_cons (pe_bltn (v := .ty t.nm) h3 (G.free _ b1) b4 rfl b2 b3) pa_nil rfl) (star_cons hs)) (by decide +kernel) h2 (star_cons hs) (by rfl)) fun σ H Q ⟨μ, ρ, S, Y, r, re, f⟩ => ?_
      simp only [ev] at f
      exact tE_of r re f fun u S1 μ1 H1 v r1 re1 g1 ru f1 => by
        obtain ⟨z, e1, k⟩ := f1.ofO
        exact isi_ok r1 ru e1 k
  | .idx a i, X, G, W, tk, e, h => by
    simp only [matchE] at h
    cases q : asSub e with
    | none => rw [q] at h; cases h
    | some z =>
      obtain ⟨p, q'⟩ := z
      rw [q] at h
      simp only [Bool.and_eq_true] at h
      obtain ⟨pos, rfl⟩ := asSub_ok q
      obtain ⟨hp, ha, hb⟩ := h
      refine PE.imp (pe_ix (IxR.or ix_list ix_tup) (soundE a G tk ha) (soundE i G tk hb) (plainIx_of hp)) fun σ H Q ⟨μ, ρ, S, Y, r, re, f⟩ => ?_
      simp only [ev] at f
      exact tE_of r re f fun u S1 μ1 H1 v r1 re1 g1 ru f1 => tE_of r1 re1 f1 fun w S2 μ2 H2 y r2 re2 g2 rw' f2 => by
        obtain ⟨z, e1, k⟩ := f2.ofO
        exact ix_ok r2 (ru.mono g2) rw' e1 k
  | .sl a lo hi, X, G, W, tk, e, h => by
    simp only [matchE] at h
    cases q : asSub e with
    | none => rw [q] at h; cases h
    | some z =>
      obtain ⟨p, q'⟩ := z
      rw [q] at h
      simp only at h
      cases q2 : asSl q' with
      | none => rw [q2] at h; cases h
      | some z2 =>
        obtain ⟨l, u⟩ := z2
        rw [q2] at h
        simp only [Bool.and_eq_true] at h
        obtain ⟨pos, rfl⟩ := asSub_ok q
        obtain ⟨pos2, rfl⟩ := asSl_ok q2
        obtain ⟨ha, hl, hu⟩ := h
        refine PE.imp (pe_slice (SlR.or sl_list sl_tupA) (soundE a G tk ha) (soundO lo G tk hl) (soundO hi G tk hu)) fun σ H Q ⟨μ, ρ, S, Y, r, re, f⟩ => ?_
        simp only [ev] at f
        exact tE_of r re f fun u S1 μ1 H1 v r1 re1 g1 ru f1 => tO_of r1 re1 f1 fun o S2 μ2 H2 r2 re2 g2 f2 => tO_of r2 re2 f2 fun o' S3 μ3 H3 r3 re3 g3 f3 => by
          obtain ⟨z, e1, k⟩ := f3.ofO
          exact sl_ok r3 ((ru.mono g2).mono g3) e1 k
  | .rev a, X, G, W, tk, e, h => by
    simp only [matchE] at h
    cases q : asSub e with
    | none => rw [q] at h; cases h
    | some z =>
      obtain ⟨p, q'⟩ := z
      rw [q] at h
      simp only [Bool.and_eq_true] at h
      obtain ⟨pos, rfl⟩ := asSub_ok q
      obtain ⟨k, p1, p2, p3, rfl⟩ := asRev_ok h.1
      refine PE.imp (PE.or (pe_revL (soundE a G tk h.2)) (ZS.pe_revT (soundE a G tk h.2))) fun σ H Q ⟨μ, ρ, S, Y, r, re, f⟩ => ?_
      simp only [ev] at f
      have lf : (∀ u S1, ev T a ρ S = .ok u S1 → tupOf u = none) → _ := fun hu => Or.inl (b := ZS.tRevT X.K (tE X.K X.mg W (ev T a)) σ H Q) (⟨μ, ρ, S, Y, r, re, by
        cases z : ev T a ρ S with
        | ok u S1 =>
          rw [z] at f
          intro μ1 H1 g1 r1 v ru
          replace f : Fin X.K X.mg W σ μ S Y H (ofO S1 (revE S1 u)) _ := f
          have hu' := hu u S1 z
          have f1 := Fin.shift f g1
          obtain ⟨z, e1, k⟩ := f1.ofO
          have e1' : (lstOf S1 u).map (fun us => U.tl us.reverse) = some z := by
            cases u <;> first | (cases hu'; done) | exact e1
          simp only [Option.map_eq_some_iff] at e1'
          obtain ⟨us, e5, rfl⟩ := e1'
          obtain ⟨a', vs, rfl, e2, e3⟩ := lstOf_sq r1 ru e5
          exact ⟨a', vs, rfl, e2, fun p hp => Nx.fresh k r1 hp _ (RU.newTl r1 hp e3.reverse)⟩
        | ex _ _ => rw [z] at f; exact f
        | no => rw [z] at f; exact f⟩ : tRevL X.K (tE X.K X.mg W (ev T a)) σ H Q)
      cases z : ev T a ρ S with
      | ok u S1 =>
        cases q : tupOf u with
        | none => exact lf fun u' S' e' => by rw [z] at e'; cases e'; exact q
        | some us =>
          right
          refine ⟨μ, ρ, S, Y, r, re, ?_⟩
          rw [z] at f ⊢
          intro μ1 H1 g1 r1 v ru
          cases u <;> first | (cases q; done) | skip
          obtain ⟨a', vs, rfl, e2, e3⟩ := tup_sq ru
          have f1 := Fin.shift (show Fin X.K X.mg W σ μ S Y H (ofO S1 (revE S1 (.tup _))) _ from f) g1
          obtain ⟨z, e1, k⟩ := f1.ofO
          cases e1
          exact ⟨a', vs, rfl, e2, fun p hp => Nx.fresh k r1 hp _ (RU.newTup r1 hp e3.reverse)⟩
      | ex _ _ => exact lf fun u' S' e' => by rw [z] at e'; cases e'
      | no => exact lf fun u' S' e' => by rw [z] at e'; cases e'
  | .tup as, X, G, W, tk, e, h => by
    simp only [matchE] at h
    cases q : asTup e with
    | none => rw [q] at h; cases h
    | some es =>
      rw [q] at h
      simp only [Bool.and_eq_true] at h
      obtain ⟨k, pos, rfl⟩ := asTup_ok q
      refine PE.imp (pe_tup (soundEs as G tk h.1 h.2)) fun σ H Q ⟨μ, ρ, S, Y, r, re, f⟩ => ?_
      simp only [ev] at f
      exact tA_of r re f fun us S1 μ1 H1 vs r1 re1 g1 rus f1 => by
        by_cases hz : us.length ≤ sizeLine
        · rw [if_pos hz] at f1
          exact ⟨by rw [← rus.length]; exact hz, fun p hp => Nx.fresh f1 r1 hp _ (RU.newTup r1 hp rus)⟩
        · rw [if_neg hz] at f1; exact f1.elim
  | .tmp c, X, G, W, tk, e, h => by
    simp only [matchE] at h
    refine PE.imp (soundN c G tk h) fun σ H Q x => tN_tmp ?_
    obtain ⟨μ, ρ, S, Y, r, re, f⟩ := x
    simp only [ev] at f
    exact ⟨μ, ρ, S, Y, r, re, f⟩
  | .mk c, X, G, W, tk, e, h => by
    simp only [matchE] at h
    refine PE.imp (soundN c G tk h) fun σ H Q x => tN_mk ?_
    obtain ⟨μ, ρ, S, Y, r, re, f⟩ := x
    simp only [ev] at f
    exact ⟨μ, ρ, S, Y, r, re, f⟩
  | .fld C fl o, X, G, W, tk, e, h => by
    simp only [matchE] at h
    cases q : asAttr e with
    | none => rw [q] at h; cases h
    | some z =>
      obtain ⟨p, g⟩ := z
      rw [q] at h
      simp only [Bool.and_eq_true, decide_eq_true_eq] at h
      obtain ⟨pos, rfl⟩ := asAttr_ok q
      obtain ⟨⟨rfl, hp⟩, ho⟩ := h
      refine PE.imp (pe_fld (soundE o G tk ho) (attr_plain hp)) fun σ H Q ⟨μ, ρ, S, Y, r, re, f⟩ => ?_
      simp only [ev] at f
      exact tE_of r re f fun u S1 μ1 H1 v r1 re1 g1 ru f1 => by
        cases u <;> first | exact f1.elim | skip
        rename_i k
        simp only at f1
        cases e1 : S1[k]? with
        | none => rw [e1] at f1; exact f1.elim
        | some so =>
          rw [e1] at f1
          cases so with
          | ins D fs =>
            simp only at f1
            by_cases hz : D = C ∧ T.fldB C g = true
            · rw [if_pos hz] at f1
              obtain ⟨rfl, hf⟩ := hz
              obtain ⟨c, m1, m2, m3⟩ := G.err.fld _ _ hf
              obtain ⟨z, e2, k2⟩ := f1.ofO
              cases ru with
              | obj hk ha =>
                obtain ⟨c', dx, vs, gC, hv, rf, _⟩ := r1.at_ k _ e1
                rw [m1] at gC
                cases gC
                obtain ⟨v', l1, l2⟩ := (rf.look g).1 _ e2
                subst ha
                exact ⟨_, _, dx, vs, v', rfl, hv, m2, m3, l1, Nx.here k2 r1 _ l2⟩
            · rw [if_neg hz] at f1; exact f1.elim
          | _ => exact f1.elim
  | .new C as, X, G, W, tk, e, h => by
    simp only [matchE] at h
    cases q : asCall e with
    | none => rw [q] at h; cases h
    | some z =>
      obtain ⟨g, es⟩ := z
      rw [q] at h
      simp only [Bool.and_eq_true, decide_eq_true_eq, Bool.not_eq_true'] at h
      obtain ⟨p, pos, rfl⟩ := asCall_ok q
      obtain ⟨⟨⟨rfl, hg⟩, hs⟩, hne, ha⟩ := h
      obtain ⟨k, hr, tb⟩ := G.tab
      by_cases hz : T.mdom C "__init__" = true ∧ T.mks C "__init__" = []
      · obtain ⟨c, g', fd, ps, j, m1, m2, m3, F, m5, m6⟩ := tb.2 C "__init__" hz.1
        rw [if_pos rfl] at m3
        obtain ⟨M, hj⟩ := m3
        rw [hz.2] at m6
        obtain ⟨h1, h2⟩ := glB_ok hg
        cases es with
        | nil => cases hne
        | cons e1 es =>
          obtain ⟨s1, s2⟩ := all2 hs
          refine PE.imp (ZG.pe_makeG M F (hr.mono hj) G.gu h1 m1 m6 tk (soundEs as G tk hs ha) h2 (star_cons s1) (noStar_any s2)) fun σ H Q ⟨μ, ρ, S, Y, r, re, f⟩ => ?_
          simp only [ev, if_pos hz] at f
          refine tA_of r re f fun us S1 μ1 H1 vs r1 re1 g1 rus f1 x dx hx hdx hne => ?_
          have hx' : upd H1 dx (.own x) x = none := by rw [upd_ne (Ne.symm hne)]; exact hx
          have r2 := (r1.fresh (ho := .own x) hdx).new (ho := .ins c dx []) (o := .ins C []) hx' ⟨c, dx, [], m1, upd_same, .nil, by rw [upd_ne hne]; exact upd_same⟩
          have gr0 : Gr μ1 S1.length H1 μ1 S1.length (upd H1 dx (.own x)) := Gr.fresh r1 hdx
          have gr1 := Gr.new1 (ho := .ins c dx []) (r1.fresh (ho := .own x) hdx) hx'
          have gr2 := gr0.trans gr1 (by have := r2.inj; rw [List.length_append, List.length_singleton] at this; exact this)
          have ea : ext1 μ1 S1.length x S1.length = x := ext1_at
          have L : (S1 ++ [SO.ins C []]).length = S1.length + 1 := by simp
          have sp : SpF X.K X.mg (T.me C "__init__") (V.ref x :: vs) (upd (upd H1 dx (.own x)) x (.ins c dx [])) (fun v H2 => v = .non ∧ Q (.ref x) H2) (WE W σ) := by
            refine ⟨_, _, Y, .obj S1.length :: us, r2, .cons (.obj (by rw [L]; omega) ea.symm) (by rw [L]; exact rus.mono gr2), ?_⟩
            have f2 := Fin.bind (Fin.shift f1 (S1 := S1 ++ [.ins C []]) (by rw [L]; exact gr2))
            refine (f2.imp fun w S2 μ2 H2 g2 r3 f3 v rv => ?_).w fun cls d H z => z
            cases w <;> first | exact f3.elim | skip
            cases rv
            refine ⟨rfl, Nx.here f3 r3 _ (.obj (Nat.lt_of_lt_of_le (by rw [L]; omega) g2.le) ?_)⟩
            rw [g2.at_ _ (by rw [L]; omega), ea]
          exact ⟨by have := F.len _ _ _ _ sp; simp only [hz.2, List.length_nil, Nat.sub_zero, List.length_cons] at this ⊢; exact this, sp⟩
      · refine PE.false fun σ H Q ⟨μ, ρ, S, Y, r, re, f⟩ => ?_
        simp only [ev, if_neg hz] at f
        exact f
  | .meth C m o as ks kws, X, G, W, tk, e, h => by
    simp only [matchE] at h
    cases q : asMeth e with
    | none => rw [q] at h; cases h
    | some z =>
      obtain ⟨p, g, es, kvs, p1, p2⟩ := z
      rw [q] at h
      simp only [Bool.and_eq_true, decide_eq_true_eq] at h
      rw [asMeth_ok q]
      obtain ⟨⟨⟨⟨⟨⟨rfl, hp⟩, hl⟩, ho⟩, hs, ha⟩, hkn, hk⟩, h29⟩ := h
      obtain ⟨k, hr, tb⟩ := G.tab
      by_cases hz0 : T.mdom C g = true ∧ ks = T.mks C g ∧ g ≠ ("__init__" : Str)
      · obtain ⟨hd, rfl, hin⟩ := id hz0
        obtain ⟨c, g', fd, ps, j, m1, m2, m3, F, m5, m6⟩ := tb.2 C g hd
        rw [if_neg hin] at m3
        obtain ⟨M, hj⟩ := m3
        obtain ⟨k1, k2, k3⟩ := kw_names (pos := p2) (env := X.env) kvs (T.mks C g) hkn
        have fin : ∀ (t : TA) (_ : ∀ σ H Q, tA X.K X.mg W (evs T as) σ H Q → t σ H Q) (σ : L2.St) (H : Hp) (Q : VK), tE X.K X.mg W (ev T (.meth C g o as (T.mks C g) kws)) σ H Q → ZG.tMethG c g (SpF X.K X.mg (T.me C g)) W (ps.length - (T.mks C g).length) (T.mks C g).length (tE X.K X.mg W (ev T o)) t (tA X.K X.mg W (evs T kws)) σ H Q := by
          rintro t ht σ H Q ⟨μ, ρ, S, Y, r, re, f⟩
          rw [ev, if_pos hz0] at f
          exact tE_of r re f fun u S1 μ1 H1 v r1 re1 g1 ru f1 => by
            cases u <;> first | exact f1.elim | skip
            rename_i k
            simp only at f1
            cases e1 : S1[k]? with
            | none => rw [e1] at f1; exact f1.elim
            | some so =>
              rw [e1] at f1
              cases so with
              | ins D fs =>
                simp only at f1
                by_cases hz : D = C ∧ fs.lookup g = none
                · rw [if_pos hz] at f1
                  obtain ⟨rfl, hf⟩ := hz
                  cases ru with
                  | obj hk ha =>
                    obtain ⟨c', dx, vs, gC, hv, rf, _⟩ := r1.at_ k _ e1
                    rw [m1] at gC
                    cases gC
                    subst ha
                    refine ⟨_, dx, vs, rfl, hv, (rf.look g).2 hf, ht _ _ _ <| tA_of r1 re1 f1 fun us S2 μ2 H2 vs2 r2 re2 g2 rus f2 => tA_of r2 re2 f2 fun ws S3 μ3 H3 vs3 r3 re3 g3 rws f3 => ?_⟩
                    by_cases hw : ws.length = (T.mks D g).length
                    case neg => rw [if_neg hw] at f3; exact f3.elim
                    rw [if_pos hw] at f3
                    have sp : SpF X.K X.mg (T.me D g) (V.ref (μ1 k) :: vs2 ++ vs3) H3 Q (WE W σ) := by
                      refine ⟨μ3, S3, Y, .obj k :: us ++ ws, r3, .cons (.obj (Nat.lt_of_lt_of_le hk (Nat.le_trans g2.le g3.le)) (by rw [g3.at_ _ (Nat.lt_of_lt_of_le hk g2.le), g2.at_ _ hk])) ((rus.mono g3).append rws), f3.w fun cls d H z => z⟩
                    have l1 := F.len _ _ _ _ sp
                    have l2 := rws.length
                    simp only [List.length_append, List.length_cons] at l1
                    exact ⟨by omega, by omega, sp⟩
                · rw [if_neg hz] at f1; exact f1.elim
              | _ => exact f1.elim
        cases es with
        | nil =>
          refine PE.imp (ZG.pe_methG0 (soundE o G tk ho) m2 M F (hr.mono hj) G.gu m6 tk (soundK kws G tk hk) k1 k2 k3 (attr_plain hp) (meth_form (es := []) rfl hkn h29) hl) (fin tNil fun σ H Q x => ?_)
          cases as with
          | cons _ _ => simp [matchEs] at ha
          | nil =>
            obtain ⟨μ, ρ, S, Y, r, re, f⟩ := x
            exact Nx.here f r _ .nil
        | cons e1 es =>
          obtain ⟨s1, s2⟩ := all2 hs
          refine PE.imp (ZG.pe_methG (soundE o G tk ho) m2 M F (hr.mono hj) G.gu m6 tk (soundEs as G tk hs ha) (soundK kws G tk hk) k1 k2 (star_cons s1) (by rw [noStar_any hs, k3]; rfl) (attr_plain hp) (meth_form hs hkn h29) hl) (fin _ fun σ H Q x => x)
      · refine PE.false fun σ H Q ⟨μ, ρ, S, Y, r, re, f⟩ => ?_
        rw [ev, if_neg hz0] at f
        exact f
  | .isE a C, X, G, W, tk, e, h => by
    simp only [matchE] at h
    cases q : asCall e with
    | none => rw [q] at h; cases h
    | some z =>
      obtain ⟨g, es⟩ := z
      rw [q] at h
      rcases es with _ | ⟨p, _ | ⟨q', _ | ⟨q2, es⟩⟩⟩ <;> first | (cases h; done) | skip
      simp only [Bool.and_eq_true, decide_eq_true_eq] at h
      obtain ⟨p0, pos, rfl⟩ := asCall_ok q
      obtain ⟨⟨⟨⟨rfl, hg⟩, hq⟩, hg2⟩, hs, ha⟩ := h
      obtain ⟨pos2, rfl⟩ := asName_ok hq
      obtain ⟨h1, h2⟩ := glB_ok hg
      cases hc : T.clsB C with
      | false =>
        refine PE.false fun σ H Q ⟨μ, ρ, S, Y, r, re, f⟩ => ?_
        simp only [ev, hc] at f
        exact f
      | true =>
        obtain ⟨v, cv, c1, c2⟩ := pe_cls G (pos := pos2) hc hg2
        refine PE.imp (pe_callB ZC.call_isC h1 (G.free _ (by decide +kernel)) PyProof.Rows.boot_isinstance (pa_cons (soundE a G tk ha) (pa_cons c2 pa_nil rfl) (star_cons hs)) (by decide +kernel) h2 (star_cons hs) (by rfl)) fun σ H Q ⟨μ, ρ, S, Y, r, re, f⟩ => ?_
        simp only [ev, hc, if_true] at f
        exact tE_of r re f fun u S1 μ1 H1 v1 r1 re1 g1 ru f1 => by
          cases u <;> first | exact f1.elim | skip
          rename_i D
          obtain ⟨z, e1, k1⟩ := f1.ofO
          rw [Option.map_eq_some_iff] at e1
          obtain ⟨b, e1, rfl⟩ := e1
          obtain ⟨d, m1, E, hk⟩ := G.err.sub D C b e1
          obtain ⟨k2, _⟩ := hk v cv c1
          cases ru with
          | exc n1 n2 n3 n4 =>
            rw [m1] at n1
            cases n1
            exact ⟨_, _, v, cv, b, rfl, n2, E, fun u r => c1.only r, k2, Nx.here k1 r1 _ (.bl b)⟩
  | .isEs a Cs, X, G, W, tk, e, h => by
    simp only [matchE] at h
    cases q : asCall e with
    | none => rw [q] at h; cases h
    | some z =>
      obtain ⟨g, es⟩ := z
      rw [q] at h
      rcases es with _ | ⟨p, _ | ⟨q', _ | ⟨q2, es⟩⟩⟩ <;> first | (cases h; done) | skip
      simp only at h
      cases q3 : asTup q' with
      | none => rw [q3] at h; cases h
      | some qs =>
        rw [q3] at h
        simp only [Bool.and_eq_true, decide_eq_true_eq] at h
        obtain ⟨p0, pos, rfl⟩ := asCall_ok q
        obtain ⟨⟨⟨⟨rfl, hg⟩, hq⟩, hg2⟩, hs, ha⟩ := h
        obtain ⟨kk, pos2, rfl⟩ := asTup_ok q3
        obtain ⟨h1, h2⟩ := glB_ok hg
        cases hc : (Cs.all T.clsB && decide (0 < Cs.length ∧ Cs.length < 100)) with
        | false =>
          refine PE.false fun σ H Q ⟨μ, ρ, S, Y, r, re, f⟩ => ?_
          simp only [ev, hc] at f
          exact f
        | true =>
          have hc' := hc
          rw [Bool.and_eq_true, decide_eq_true_eq] at hc'
          obtain ⟨vs, ws, c1, c2, c3, c4⟩ := pa_clss G hq hc'.1 hg2
          refine PE.imp (pe_callB ZC.call_isCT h1 (G.free _ (by decide +kernel)) PyProof.Rows.boot_isinstance (pa_cons (soundE a G tk ha) (pa_cons (pe_tup c1) pa_nil rfl) (star_cons hs)) (by decide +kernel) h2 (star_cons hs) (by rfl)) fun σ H Q ⟨μ, ρ, S, Y, r, re, f⟩ => ?_
          simp only [ev, hc, if_true] at f
          exact tE_of r re f fun u S1 μ1 H1 v1 r1 re1 g1 ru f1 => by
            cases u <;> first | exact f1.elim | skip
            rename_i D
            obtain ⟨z, e1, k1⟩ := f1.ofO
            rw [Option.map_eq_some_iff] at e1
            obtain ⟨b, e1, rfl⟩ := e1
            cases ru with
            | @exc _ a0 c0 n1 n2 n3 n4 =>
              refine ⟨Nat.le_trans (by rw [c2]; exact Nat.le_of_lt hc'.2.2) (by decide +kernel : 100 ≤ sizeLine), fun p hp => ?_⟩
              have E : ∃ d, X.mg D = some (.ref d) ∧ ExcC X.K d := by
                cases Cs with
                | nil => exact absurd hc'.2.1 (by simp)
                | cons C Cs =>
                  simp only [subAny] at e1
                  cases z : T.sub D C with
                  | none => rw [z] at e1; cases e1
                  | some b0 =>
                    obtain ⟨d, m1, E, _⟩ := G.err.sub D C b0 z
                    exact ⟨d, m1, E⟩
              obtain ⟨d, m1, k2⟩ := c4 D b e1 E
              obtain ⟨d', m2, E'⟩ := E
              rw [n1] at m1 m2
              cases m1
              cases m2
              refine ⟨_, _, p, vs, ws, b, rfl, ?_, E', upd_same, c3, k2, Nx.fresh k1 r1 hp _ (.bl b)⟩
              rw [upd_ne (fun q => by rw [q, hp] at n2; cases n2)]
              exact n2
  | .cntB o b, X, G, W, tk, e, h => by
    simp only [matchE] at h
    cases q : asMeth e with
    | none => rw [q] at h; cases h
    | some z =>
      obtain ⟨p, g, es, kvs, p1, p2⟩ := z
      rw [q] at h
      rcases es with _ | ⟨q', _ | ⟨q2, es⟩⟩ <;> first | (cases h; done) | skip
      rcases kvs with _ | ⟨kv, kvs⟩ <;> first | (cases h; done) | skip
      simp only [Bool.and_eq_true, decide_eq_true_eq] at h
      rw [asMeth_ok q]
      obtain ⟨⟨⟨⟨rfl, hp⟩, hl⟩, ho⟩, hb⟩ := h
      obtain ⟨k', pos', rfl⟩ := asBool_ok (eq_of_beq hb)
      refine PE.imp (pe_bm PySem.F.plainAttrs_list PySem.F.slot_list_count PySem.F.type_list_count ZG.mt_countB (soundE o G tk ho) (pa_cons pe_bl pa_nil rfl) (attr_plain hp) (by rfl) hl rfl rfl) fun σ H Q ⟨μ, ρ, S, Y, r, re, f⟩ => ?_
      simp only [ev] at f
      exact tE_of r re f fun u S1 μ1 H1 v r1 re1 g1 ru f1 => by
        cases e0 : lstOf S1 u with
        | none => rw [e0] at f1; exact f1.elim
        | some us =>
          rw [e0] at f1
          obtain ⟨z, e1, k1⟩ := f1.ofO
          rw [Option.map_eq_some_iff] at e1
          obtain ⟨bs, e1, rfl⟩ := e1
          obtain ⟨a, vs, rfl, h1, h2⟩ := lstOf_sq r1 ru e0
          have := bls_ok h2 e1
          subst this
          exact ⟨.inl ⟨rfl, _, h1⟩, a, bs, b, rfl, rfl, h1, Nx.here k1 r1 _ (.int _)⟩
  | .ixOf o i, X, G, W, tk, e, h => by
    simp only [matchE] at h
    cases q : asMeth e with
    | none => rw [q] at h; cases h
    | some z =>
      obtain ⟨p, g, es, kvs, p1, p2⟩ := z
      rw [q] at h
      rcases es with _ | ⟨q', _ | ⟨q2, es⟩⟩ <;> first | (cases h; done) | skip
      rcases kvs with _ | ⟨kv, kvs⟩ <;> first | (cases h; done) | skip
      simp only [Bool.and_eq_true, decide_eq_true_eq] at h
      rw [asMeth_ok q]
      obtain ⟨⟨⟨⟨rfl, hp⟩, hl⟩, hs⟩, ho, hi⟩ := h
      have hst : starEach [q'] X.env = [(false, eval q' X.env)] := star_cons hs
      refine PE.imp (pe_bm PySem.F.plainAttrs_list PySem.F.slot_list_index PySem.F.type_list_index mt_index (soundE o G tk ho) (pa_cons (soundE i G tk hi) pa_nil hst) (attr_plain hp) (by rw [hst]; rfl) hl hst rfl) fun σ H Q ⟨μ, ρ, S, Y, r, re, f⟩ => ?_
      simp only [ev] at f
      exact tE_of r re f fun u S1 μ1 H1 v r1 re1 g1 ru f1 => by
        cases e0 : lstOf S1 u with
        | none => rw [if_neg (by rw [e0]; decide)] at f1; exact f1.elim
        | some us0 =>
          rw [if_pos (by rw [e0]; rfl)] at f1
          obtain ⟨a, vs0, rfl, k1, k2⟩ := lstOf_sq r1 ru e0
          refine ⟨.inl ⟨rfl, vs0, k1⟩, tE_of r1 re1 f1 fun w S2 μ2 H2 v2 r2 re2 g2 rw2 f2 => ?_⟩
          cases e2 : lstOf S2 u with
          | none => rw [e2] at f2; exact f2.elim
          | some us =>
            rw [e2] at f2
            simp only at f2
            by_cases hz : (w.flat && us.all U.flat) = true
            · rw [if_pos hz] at f2
              obtain ⟨z, e3, k3⟩ := f2.ofO
              rw [Option.map_eq_some_iff] at e3
              obtain ⟨j, e3, rfl⟩ := e3
              obtain ⟨a', vs, ea, h1, h2⟩ := lstOf_sq r2 (ru.mono g2) e2
              cases ea
              rw [Bool.and_eq_true] at hz
              obtain ⟨f3, f4⟩ := flat_ok rw2 hz.1
              obtain ⟨f5, f6⟩ := flats_ok h2 hz.2
              obtain ⟨y, i1, i2, i3⟩ := ixFlat_ok e3
              subst f5
              refine ⟨a, _, v2, j, flatD y, rfl, rfl, h1, f4, f6, by rw [List.getElem?_map, i1]; rfl, by rw [f3]; exact i2, fun m z' hm hz' => ?_, Nx.here k3 r2 _ (.int _)⟩
              rw [List.getElem?_map, Option.map_eq_some_iff] at hz'
              obtain ⟨y', hy, rfl⟩ := hz'
              rw [f3]
              exact i3 m y' hm hy
            · rw [if_neg hz] at f2; exact f2.elim
  | .nope, X, G, W, tk, e, h => PE.false fun σ H Q ⟨μ, ρ, S, Y, r, re, f⟩ => by simp only [ev] at f; exact f
  | .repr a, X, G, W, tk, e, h => by
    simp only [matchE] at h
    cases q : asCall e with
    | none => rw [q] at h; cases h
    | some z =>
      obtain ⟨g, es⟩ := z
      rw [q] at h
      rcases es with _ | ⟨p, _ | ⟨q', es⟩⟩ <;> first | (cases h; done) | skip
      simp only [Bool.and_eq_true, decide_eq_true_eq] at h
      obtain ⟨p0, pos, rfl⟩ := asCall_ok q
      obtain ⟨⟨rfl, hg⟩, hs, ha⟩ := h
      obtain ⟨h1, h2⟩ := glB_ok hg
      refine PE.imp (pe_callB (ZS.call_repr G.gu (by have := G.units; omega)) h1 (G.free _ (by decide +kernel)) (by decide +kernel) (pa_cons (soundE a G tk ha) pa_nil (star_cons hs)) (by decide +kernel) h2 (star_cons hs) (by rfl)) fun σ H Q ⟨μ, ρ, S, Y, r, re, f⟩ => ?_
      simp only [ev] at f
      exact tE_of r re f fun u S1 μ1 H1 v r1 re1 g1 ru f1 => by
        obtain ⟨z, e1, k⟩ := f1.ofO
        unfold reprE at e1
        cases qd : dat S1 12 u with
        | none => rw [qd] at e1; cases e1
        | some d =>
          rw [qd] at e1
          replace e1 : (if (u.isRef && (d.showable && decide (d.shown.length ≤ sizeLine))) = true then some (U.str d.shown) else none) = some z := e1
          by_cases hz : (u.isRef && (d.showable && decide (d.shown.length ≤ sizeLine))) = true
          · rw [if_pos hz] at e1
            cases e1
            rw [Bool.and_eq_true, Bool.and_eq_true, decide_eq_true_eq] at hz
            obtain ⟨a', rfl⟩ := ru.isRef hz.1
            obtain ⟨d1, d2⟩ := dat_depth 12 u qd
            exact ⟨a', d, rfl, dat_ok r1 12 ru qd, hz.2.1, by omega, d2, hz.2.2, Nx.here k r1 _ (.str _)⟩
          · rw [if_neg hz] at e1; cases e1
  | .dget x a, X, G, W, tk, e, h => by
    simp only [matchE] at h
    cases q : asSub e with
    | none => rw [q] at h; cases h
    | some z =>
      obtain ⟨p, q'⟩ := z
      rw [q] at h
      simp only [Bool.and_eq_true, decide_eq_true_eq] at h
      obtain ⟨pos, rfl⟩ := asSub_ok q
      obtain ⟨⟨⟨hp, hn⟩, hg⟩, ha⟩ := h
      obtain ⟨pos2, rfl⟩ := asName_ok hn
      obtain ⟨h1, h2⟩ := glB_ok hg
      cases hd : T.dct x with
      | none => exact PE.false fun σ H Q ⟨μ, ρ, S, Y, r, re, f⟩ => by simp only [ev, hd] at f; exact f
      | some d =>
        obtain ⟨a0, es, n, hm, hkd, hz⟩ := G.dct x d hd
        refine PE.imp (pe_ix ix_kdict (pe_glob (v := .ref a0) h1 hm rfl h2) (soundE a G tk ha) (plainIx_of hp)) fun σ H Q ⟨μ, ρ, S, Y, r, re, f⟩ => ?_
        simp only [ev, hd] at f
        exact tE_of r re f fun u S1 μ1 H1 v r1 re1 g1 ru f1 => by
          cases ru with
          | str z =>
            obtain ⟨w, e1, k⟩ := f1.ofO
            rw [Option.bind_eq_some_iff] at e1
            obtain ⟨o, e1, e2⟩ := e1
            cases o with
            | none => cases e2
            | some w' =>
              cases e2
              obtain ⟨u0, v0, e1, e2, e3⟩ := hz z _ e1
              exact ⟨a0, z, v0, rfl, rfl, ⟨es, n, u0, hkd.at_, hkd.lit, e1, e2⟩, Nx.here k r1 _ (e3 _ _ _ _)⟩
          | _ => exact f1.elim
  | .din x no a, X, G, W, tk, e, h => by
    simp only [matchE] at h
    cases q : asCmp e with
    | none => rw [q] at h; cases h
    | some z =>
      obtain ⟨p, op, q'⟩ := z
      rw [q] at h
      simp only [Bool.and_eq_true, decide_eq_true_eq, Bool.not_eq_true'] at h
      obtain ⟨pos, rfl⟩ := asCmp_ok q
      obtain ⟨⟨⟨⟨rfl, hmk⟩, hn⟩, hg⟩, ha⟩ := h
      obtain ⟨pos2, rfl⟩ := asName_ok hn
      obtain ⟨h1, h2⟩ := glB_ok hg
      cases hd : T.dct x with
      | none => exact PE.false fun σ H Q ⟨μ, ρ, S, Y, r, re, f⟩ => by simp only [ev, hd] at f; exact f
      | some d =>
        obtain ⟨a0, es, n, hm, hkd, hz⟩ := G.dct x d hd
        obtain ⟨rr, ho, hh⟩ := din_ok (X := X) hkd no
        refine PE.imp (pe_cmpR ho (soundE a G tk ha) (pe_glob (v := .ref a0) h1 hm rfl h2) hmk) fun σ H Q ⟨μ, ρ, S, Y, r, re, f⟩ => ?_
        simp only [ev, hd] at f
        exact tE_of r re f fun u S1 μ1 H1 v r1 re1 g1 ru f1 => by
          cases ru with
          | str z =>
            obtain ⟨w, e1, k⟩ := f1.ofO
            rw [Option.map_eq_some_iff] at e1
            obtain ⟨o, e1, rfl⟩ := e1
            refine hh z o H1 Q (din_at (hz z _ e1)) (Nx.here k r1 _ (.bl _))
          | _ => exact f1.elim
  | .callL i as, X, G, W, tk, e, h => by
    simp only [matchE] at h
    cases q : asCall e with
    | none => rw [q] at h; cases h
    | some z =>
      obtain ⟨g, es⟩ := z
      rw [q] at h
      simp only [Bool.and_eq_true, decide_eq_true_eq, Bool.not_eq_true'] at h
      obtain ⟨p, pos, rfl⟩ := asCall_ok q
      obtain ⟨⟨hv, hs⟩, hne, ha⟩ := h
      obtain ⟨v1, v2, v3, v4⟩ := visB_ok hv
      obtain ⟨k, hr, tb⟩ := G.tab
      cases es with
      | nil => cases hne
      | cons e1 es =>
        obtain ⟨s1, s2⟩ := all2 hs
        refine PE.imp (ZG.pe_callLG v1 v2 v3 v4 (hold := fun fa sp => ∃ f fd ps, X.mg f = some (.ref fa) ∧ T.dom f = true ∧ PySem.W.keepIn X.K (.ref fa) = true ∧ ZG.FnG X.prog X.w X.K X.mg X.base k fa fd ps sp ∧ Binds X.K fd ps [])
          (fun fa sp ⟨f, fd, ps, q1, q2, q3, q4, q5⟩ => ⟨k, fd, ps, q4, hr, q3, q5⟩) G.gu tk (soundEs as G tk hs ha) (star_cons s1) (noStar_any s2)) fun σ H Q ⟨μ, ρ, S, Y, r, re, f⟩ => ?_
        simp only [ev] at f
        cases z : ρ[i]? with
        | none => rw [z] at f; exact f.elim
        | some o =>
          cases o with
          | none => rw [z] at f; exact f.elim
          | some u =>
            rw [z] at f
            obtain ⟨v, e1, e2⟩ := re.2 i u z
            cases u <;> first | exact f.elim | skip
            rename_i fx
            cases e2 with
            | fn hmx =>
            cases hd : T.dom fx with
            | true =>
              simp only [hd, if_true] at f
              obtain ⟨fa, fd, ps, hm, hk, F, hb⟩ := tb.1 fx hd
              rw [hmx] at hm
              cases hm
              exact ⟨_, _, ⟨fx, fd, ps, hmx, hd, hk, F, hb⟩, e1, tA_of r re f fun us S1 μ1 H1 vs r1 re1 g1 rus f1 => ⟨μ1, S1, Y, us, r1, rus, f1.w fun cls d H z => z⟩⟩
            | false =>
              simp only [hd] at f
              exact f.elim
theorem soundT : ∀ (c : CE) {X : Cx} (_ : Good X T) {W : WX} (_ : Takes X W) {e : Expr}, okT c e = true → matchE X.N X.env.scope c e = true → PT X e (tT X.K X.mg W (ev T c))
  | .bop an as, X, G, W, tk, e, ho, h => by
    simp only [matchE] at h
    simp only [okT] at ho
    cases q : asBop e with
    | none => rw [q] at h; cases h
    | some z =>
      obtain ⟨op, es⟩ := z
      rw [q] at h ho
      simp only [Bool.and_eq_true, decide_eq_true_eq] at h
      obtain ⟨pos, rfl⟩ := asBop_ok q
      obtain ⟨rfl, ha⟩ := h
      exact PT.imp (PW.pt (soundW as G tk an ho ha)) fun σ H Q x => x
  | .not a, X, G, W, tk, e, ho, h => by
    simp only [matchE] at h
    simp only [okT] at ho
    cases q : asUn e with
    | none => rw [q] at h; cases h
    | some z =>
      obtain ⟨op, p⟩ := z
      rw [q] at h ho
      simp only [Bool.and_eq_true, decide_eq_true_eq] at h
      obtain ⟨pos, rfl⟩ := asUn_ok q
      obtain ⟨rfl, ha⟩ := h
      refine PT.imp (pt_not (soundT a G tk ho ha)) fun σ H Q ⟨μ, ρ, S, Y, r, re, f⟩ => ?_
      simp only [ev] at f
      exact tT_of r re f fun u S1 μ1 H1 r1 re1 g1 f1 => by
        cases u with
        | bl b =>
          obtain ⟨b', e1, q'⟩ := Nx.here f1 r1
          cases e1
          exact ⟨b, rfl, q'⟩
        | _ => exact f1.elim
  | .cmp o a b, X, G, W, tk, e, ho, h => by
    simp only [matchE] at h
    cases q : asCmp e with
    | none => rw [q] at h; cases h
    | some z =>
      obtain ⟨p, op, q'⟩ := z
      rw [q] at h
      simp only [Bool.and_eq_true, decide_eq_true_eq, Bool.not_eq_true'] at h
      obtain ⟨pos, rfl⟩ := asCmp_ok q
      obtain ⟨⟨rfl, hm⟩, ha, hb⟩ := h
      obtain ⟨rr, ho, hh⟩ := cmp_ok (X := X) (by have := G.units; omega) o
      refine PT.imp (pt_cmpR ho (soundE a G tk ha) (soundE b G tk hb) hm) fun σ H Q ⟨μ, ρ, S, Y, r, re, f⟩ => ?_
      simp only [ev] at f
      exact tE_of r re f fun u S1 μ1 H1 v r1 re1 g1 ru f1 => tE_of r1 re1 f1 fun w S2 μ2 H2 y r2 re2 g2 rw' f2 => by
        obtain ⟨z, e1, k⟩ := f2.ofO
        refine hh _ _ _ _ _ _ _ _ _ _ r2 (ru.mono g2) rw' e1 fun μ3 H3 g3 r3 v3 rv3 => ?_
        obtain ⟨b', rfl, q'⟩ := k μ3 H3 g3 r3
        cases rv3
        exact ⟨b', rfl, q'⟩
  | .isN a, X, G, W, tk, e, ho, h => by
    simp only [matchE] at h
    cases q : asCmp e with
    | none => rw [q] at h; cases h
    | some z =>
      obtain ⟨p, op, q'⟩ := z
      rw [q] at h
      simp only [Bool.and_eq_true, decide_eq_true_eq] at h
      obtain ⟨pos, rfl⟩ := asCmp_ok q
      obtain ⟨⟨rfl, hn⟩, ha⟩ := h
      obtain ⟨k, pos', rfl⟩ := asNon_ok hn
      refine PT.imp (pt_cmpR op_isN (soundE a G tk ha) pe_non (nomark _)) fun σ H Q ⟨μ, ρ, S, Y, r, re, f⟩ => ?_
      simp only [ev] at f
      exact tE_of r re f fun u S1 μ1 H1 v r1 re1 g1 ru f1 => by
        obtain ⟨b', e1, q'⟩ := Nx.here f1 r1
        cases e1
        rw [ru.isN] at q'
        exact ⟨rfl, _, rfl, q'⟩
  | .notN a, X, G, W, tk, e, ho, h => by
    simp only [matchE] at h
    cases q : asCmp e with
    | none => rw [q] at h; cases h
    | some z =>
      obtain ⟨p, op, q'⟩ := z
      rw [q] at h
      simp only [Bool.and_eq_true, decide_eq_true_eq] at h
      obtain ⟨pos, rfl⟩ := asCmp_ok q
      obtain ⟨⟨rfl, hn⟩, ha⟩ := h
      obtain ⟨k, pos', rfl⟩ := asNon_ok hn
      refine PT.imp (pt_cmpR op_notN (soundE a G tk ha) pe_non (nomark _)) fun σ H Q ⟨μ, ρ, S, Y, r, re, f⟩ => ?_
      simp only [ev] at f
      exact tE_of r re f fun u S1 μ1 H1 v r1 re1 g1 ru f1 => by
        obtain ⟨b', e1, q'⟩ := Nx.here f1 r1
        cases e1
        rw [ru.isN] at q'
        exact ⟨rfl, _, rfl, q'⟩
  | .chn o o' a b c, X, G, W, tk, e, ho, h => by
    simp only [matchE] at h
    cases q : asChn e with
    | none => rw [q] at h; cases h
    | some z =>
      obtain ⟨p, op, q', op', r'⟩ := z
      rw [q] at h
      simp only [Bool.and_eq_true, decide_eq_true_eq, Bool.not_eq_true'] at h
      obtain ⟨pos, rfl⟩ := asChn_ok q
      obtain ⟨⟨⟨rfl, rfl⟩, hm⟩, ha, hb, hc⟩ := h
      have hu : X.A.units + 64 < cLine := by have := G.units; omega
      obtain ⟨rr, ho, hh⟩ := cmp_ok (X := X) hu o
      obtain ⟨rr', ho', hh'⟩ := cmp_ok (X := X) hu o'
      refine PT.imp (pt_chain ho ho' (soundE a G tk ha) (soundE b G tk hb) (soundE c G tk hc) hm) fun σ H Q ⟨μ, ρ, S, Y, r, re, f⟩ => ?_
      simp only [ev] at f
      exact tE_of r re f fun u S1 μ1 H1 v r1 re1 g1 ru f1 => tE_of r1 re1 f1 fun w S2 μ2 H2 y r2 re2 g2 rw' f2 => by
        cases z1 : cmpE S2 o u w with
        | none => rw [z1] at f2; exact f2.elim
        | some b0 =>
          rw [z1] at f2
          refine hh μ2 S2 Y H2 u w (.bl b0) v y _ r2 (ru.mono g2) rw' (show (cmpE S2 o u w).map U.bl = some (.bl b0) by rw [z1]; rfl) fun μ3 H3 g3 r3 v3 rv3 => ?_
          cases rv3
          refine ⟨b0, rfl, ?_⟩
          cases b0 with
          | false =>
            obtain ⟨b', e1, q'⟩ := Nx.here (Nx.shift f2 g3) r3
            cases e1
            exact iteF ⟨_, rfl, q'⟩
          | true =>
            refine iteT (tE_of r3 (re2.mono g3) (Fin.shift f2 g3) fun z S4 μ4 H4 y4 r4 re4 g4 rz f4 => ?_)
            obtain ⟨z', e1, k⟩ := f4.ofO
            refine hh' _ _ _ _ _ _ _ _ _ _ r4 ((rw'.mono g3).mono g4) rz e1 fun μ5 H5 g5 r5 v5 rv5 => ?_
            obtain ⟨b', rfl, q'⟩ := k μ5 H5 g5 r5
            cases rv5
            exact ⟨b', rfl, q'⟩
  | .var i, X, G, W, tk, e, ho, h => soundP (soundE (.var i) G tk h) ho
  | .int i, X, G, W, tk, e, ho, h => soundP (soundE (.int i) G tk h) ho
  | .str i, X, G, W, tk, e, ho, h => soundP (soundE (.str i) G tk h) ho
  | .non, X, G, W, tk, e, ho, h => soundP (soundE .non G tk h) ho
  | .bl i, X, G, W, tk, e, ho, h => soundP (soundE (.bl i) G tk h) ho
  | .glob i, X, G, W, tk, e, ho, h => soundP (soundE (.glob i) G tk h) ho
  | .bin o a b, X, G, W, tk, e, ho, h => soundP (soundE (.bin o a b) G tk h) ho
  | .neg a, X, G, W, tk, e, ho, h => soundP (soundE (.neg a) G tk h) ho
  | .ite t a b, X, G, W, tk, e, ho, h => soundP (soundE (.ite t a b) G tk h) ho
  | .call f as, X, G, W, tk, e, ho, h => soundP (soundE (.call f as) G tk h) ho
  | .bi f as, X, G, W, tk, e, ho, h => soundP (soundE (.bi f as) G tk h) ho
  | .isi a t, X, G, W, tk, e, ho, h => soundP (soundE (.isi a t) G tk h) ho
  | .idx a i, X, G, W, tk, e, ho, h => soundP (soundE (.idx a i) G tk h) ho
  | .sl a lo hi, X, G, W, tk, e, ho, h => soundP (soundE (.sl a lo hi) G tk h) ho
  | .rev a, X, G, W, tk, e, ho, h => soundP (soundE (.rev a) G tk h) ho
  | .tup as, X, G, W, tk, e, ho, h => soundP (soundE (.tup as) G tk h) ho
  | .tmp c, X, G, W, tk, e, ho, h => soundP (soundE (.tmp c) G tk h) ho
  | .mk c, X, G, W, tk, e, ho, h => soundP (soundE (.mk c) G tk h) ho
  | .meth C m o as ks kws, X, G, W, tk, e, ho, h => soundP (soundE (.meth C m o as ks kws) G tk h) ho
  | .fld C g o, X, G, W, tk, e, ho, h => soundP (soundE (.fld C g o) G tk h) ho
  | .new C as, X, G, W, tk, e, ho, h => soundP (soundE (.new C as) G tk h) ho
  | .isE a C, X, G, W, tk, e, ho, h => soundP (soundE (.isE a C) G tk h) ho
  | .isEs a C, X, G, W, tk, e, ho, h => soundP (soundE (.isEs a C) G tk h) ho
  | .cntB o b, X, G, W, tk, e, ho, h => soundP (soundE (.cntB o b) G tk h) ho
  | .ixOf o i, X, G, W, tk, e, ho, h => soundP (soundE (.ixOf o i) G tk h) ho
  | .nope, X, G, W, tk, e, ho, h => PT.false fun σ H Q ⟨μ, ρ, S, Y, r, re, f⟩ => by simp only [ev] at f; exact f
  | .repr a, X, G, W, tk, e, ho, h => soundP (soundE (.repr a) G tk h) ho
  | .dget x a, X, G, W, tk, e, ho, h => soundP (soundE (.dget x a) G tk h) ho
  | .callL i as, X, G, W, tk, e, ho, h => soundP (soundE (.callL i as) G tk h) ho
  | .din x no a, X, G, W, tk, e, ho, h => by
    simp only [matchE] at h
    cases q : asCmp e with
    | none => rw [q] at h; cases h
    | some z =>
      obtain ⟨p, op, q'⟩ := z
      rw [q] at h
      simp only [Bool.and_eq_true, decide_eq_true_eq, Bool.not_eq_true'] at h
      obtain ⟨pos, rfl⟩ := asCmp_ok q
      obtain ⟨⟨⟨⟨rfl, hmk⟩, hn⟩, hg⟩, ha⟩ := h
      obtain ⟨pos2, rfl⟩ := asName_ok hn
      obtain ⟨h1, h2⟩ := glB_ok hg
      cases hd : T.dct x with
      | none => exact PT.false fun σ H Q ⟨μ, ρ, S, Y, r, re, f⟩ => by simp only [ev, hd] at f; exact f
      | some d =>
        obtain ⟨a0, es, n, hm, hkd, hz⟩ := G.dct x d hd
        obtain ⟨rr, ho, hh⟩ := din_ok (X := X) hkd no
        refine PT.imp (pt_cmpR ho (soundE a G tk ha) (pe_glob (v := .ref a0) h1 hm rfl h2) hmk) fun σ H Q ⟨μ, ρ, S, Y, r, re, f⟩ => ?_
        simp only [ev, hd] at f
        exact tE_of r re f fun u S1 μ1 H1 v r1 re1 g1 ru f1 => by
          cases ru with
          | str z =>
            obtain ⟨w, e1, k⟩ := f1.ofO
            rw [Option.map_eq_some_iff] at e1
            obtain ⟨o, e1, rfl⟩ := e1
            obtain ⟨b', e2, q'⟩ := Nx.here k r1
            cases e2
            exact hh z o H1 _ (din_at (hz z _ e1)) ⟨_, rfl, q'⟩
          | _ => exact f1.elim
theorem soundEs : ∀ (cs : CEs) {X : Cx} (_ : Good X T) {W : WX} (_ : Takes X W) {es : List Expr}, es.all notStar = true → matchEs X.N X.env.scope cs es = true → PA X es (tA X.K X.mg W (evs T cs))
  | .nil, X, G, W, tk, es, hs, h => by
    cases es with
    | cons _ _ => simp [matchEs] at h
    | nil => exact PA.imp pa_nil fun σ H Q ⟨μ, ρ, S, Y, r, re, f⟩ => Nx.here f r _ .nil
  | .cons c cs, X, G, W, tk, es, hs, h => by
    cases es with
    | nil => simp [matchEs] at h
    | cons e es =>
      simp only [matchEs, Bool.and_eq_true] at h
      obtain ⟨s1, s2⟩ := all2 hs
      refine PA.imp (pa_cons (soundE c G tk h.1) (soundEs cs G tk s2 h.2) (star_cons s1)) fun σ H Q ⟨μ, ρ, S, Y, r, re, f⟩ => ?_
      simp only [evs] at f
      exact tE_of r re f fun u S1 μ1 H1 v r1 re1 g1 ru f1 => tA_of r1 re1 f1 fun us S2 μ2 H2 vs r2 re2 g2 rus f2 => Nx.here f2 r2 _ (.cons (ru.mono g2) rus)
theorem soundK : ∀ (cs : CEs) {X : Cx} (_ : Good X T) {W : WX} (_ : Takes X W) {kvs : List Keyword}, matchEs X.N X.env.scope cs (kvs.map kwE) = true → PK X kvs (tA X.K X.mg W (evs T cs))
  | .nil, X, G, W, tk, kvs, h => by
    cases kvs with
    | cons _ _ => simp [matchEs] at h
    | nil => exact PK.imp pk_nil fun σ H Q ⟨μ, ρ, S, Y, r, re, f⟩ => Nx.here f r _ .nil
  | .cons c cs, X, G, W, tk, kvs, h => by
    rcases kvs with _ | ⟨⟨nm, e, p⟩, kvs⟩
    · simp [matchEs] at h
    · simp only [List.map_cons, matchEs, Bool.and_eq_true] at h
      refine PK.imp (pk_cons (soundE c G tk h.1) (soundK cs G tk h.2)) fun σ H Q ⟨μ, ρ, S, Y, r, re, f⟩ => ?_
      simp only [evs] at f
      exact tE_of r re f fun u S1 μ1 H1 v r1 re1 g1 ru f1 => tA_of r1 re1 f1 fun us S2 μ2 H2 vs r2 re2 g2 rus f2 => Nx.here f2 r2 _ (.cons (ru.mono g2) rus)
theorem soundB : ∀ (cs : CEs) {X : Cx} (_ : Good X T) {W : WX} (_ : Takes X W) (an : Bool) {es : List Expr} {pos : Pos}, matchEs X.N X.env.scope cs es = true → PE X (.BoolOp (if an then .And else .Or) es pos) (tE X.K X.mg W (evB T an cs))
  | .nil, X, G, W, tk, an, es, pos, h => PE.false fun σ H Q ⟨μ, ρ, S, Y, r, re, f⟩ => by simp only [evB] at f; exact f
  | .cons c .nil, X, G, W, tk, an, es, pos, h => by
    rcases es with _ | ⟨e, _ | ⟨e2, es⟩⟩ <;> simp only [matchEs, Bool.and_eq_true, List.isEmpty] at h <;> first | (cases h; done) | (cases h.2; done) | skip
    refine PE.imp (pe_one (soundE c G tk h.1)) fun σ H Q ⟨μ, ρ, S, Y, r, re, f⟩ => ⟨μ, ρ, S, Y, r, re, ?_⟩
    simp only [evB] at f
    exact f
  | .cons c (.cons c2 cs), X, G, W, tk, an, es, pos, h => by
    rcases es with _ | ⟨e, _ | ⟨e2, es⟩⟩
    · simp [matchEs] at h
    · simp [matchEs] at h
    · have h' : matchE X.N X.env.scope c e = true ∧ matchEs X.N X.env.scope (.cons c2 cs) (e2 :: es) = true := by
        rw [matchEs, Bool.and_eq_true] at h; exact h
      cases an with
      | true =>
        refine PE.imp (pe_and (soundE c G tk h'.1) (soundB (.cons c2 cs) G tk true h'.2)) fun σ H Q ⟨μ, ρ, S, Y, r, re, f⟩ => ?_
        rw [evB] at f
        rotate_left
        · exact fun z => by cases z
        exact tE_of r re f fun u S1 μ1 H1 v r1 re1 g1 ru f1 => by
          cases ru with
          | bl b =>
            refine ⟨b, rfl, ?_⟩
            cases b with
            | true => exact iteT ⟨μ1, ρ, S1, Y, r1, re1, f1⟩
            | false => exact iteF (Nx.here f1 r1 _ (.bl _))
          | _ => exact f1.elim
      | false =>
        refine PE.imp (pe_or (soundE c G tk h'.1) (soundB (.cons c2 cs) G tk false h'.2)) fun σ H Q ⟨μ, ρ, S, Y, r, re, f⟩ => ?_
        rw [evB] at f
        rotate_left
        · exact fun z => by cases z
        exact tE_of r re f fun u S1 μ1 H1 v r1 re1 g1 ru f1 => by
          cases ru with
          | bl b =>
            refine ⟨b, rfl, ?_⟩
            cases b with
            | true => exact iteT (Nx.here f1 r1 _ (.bl _))
            | false => exact iteF ⟨μ1, ρ, S1, Y, r1, re1, f1⟩
          | _ => exact f1.elim
theorem soundW : ∀ (cs : CEs) {X : Cx} (_ : Good X T) {W : WX} (_ : Takes X W) (an : Bool) {es : List Expr} {pos : Pos}, okTs cs es = true → matchEs X.N X.env.scope cs es = true → PW X (.BoolOp (if an then .And else .Or) es pos) (tT X.K X.mg W (evB T an cs))
  | .nil, X, G, W, tk, an, es, pos, ho, h => ⟨fun _ _ _ σ H Q _ ⟨μ, ρ, S, Y, r, re, f⟩ => by simp only [evB] at f; exact f.elim⟩
  | .cons c .nil, X, G, W, tk, an, es, pos, ho, h => by
    rcases es with _ | ⟨e, _ | ⟨e2, es⟩⟩ <;> simp only [matchEs, Bool.and_eq_true, List.isEmpty] at h <;> first | (cases h; done) | (cases h.2; done) | skip
    simp only [okTs, Bool.and_eq_true] at ho
    cases an with
    | true =>
      refine PW.imp (pw_and1 (soundT c G tk ho.1 h.1)) fun σ H Q ⟨μ, ρ, S, Y, r, re, f⟩ => ⟨μ, ρ, S, Y, r, re, ?_⟩
      simp only [evB] at f
      exact f
    | false =>
      refine PW.imp (pw_or1 (soundT c G tk ho.1 h.1)) fun σ H Q ⟨μ, ρ, S, Y, r, re, f⟩ => ⟨μ, ρ, S, Y, r, re, ?_⟩
      simp only [evB] at f
      exact f
  | .cons c (.cons c2 cs), X, G, W, tk, an, es, pos, ho, h => by
    rcases es with _ | ⟨e, _ | ⟨e2, es⟩⟩
    · simp [matchEs] at h
    · simp [matchEs] at h
    · have h' : matchE X.N X.env.scope c e = true ∧ matchEs X.N X.env.scope (.cons c2 cs) (e2 :: es) = true := by
        rw [matchEs, Bool.and_eq_true] at h; exact h
      have ho' : okT c e = true ∧ okTs (.cons c2 cs) (e2 :: es) = true := by
        rw [okTs, Bool.and_eq_true] at ho; exact ho
      cases an with
      | true =>
        refine PW.imp (pw_and (soundT c G tk ho'.1 h'.1) (soundW (.cons c2 cs) G tk true ho'.2 h'.2)) fun σ H Q ⟨μ, ρ, S, Y, r, re, f⟩ => ?_
        rw [evB] at f
        rotate_left
        · exact fun z => by cases z
        exact tT_of r re f fun u S1 μ1 H1 r1 re1 g1 f1 => by
          cases u with
          | bl b =>
            refine ⟨b, rfl, ?_⟩
            cases b with
            | true => exact iteT ⟨μ1, ρ, S1, Y, r1, re1, f1⟩
            | false =>
              obtain ⟨b', e1, q'⟩ := Nx.here f1 r1
              cases e1
              exact iteF q'
          | _ => exact f1.elim
      | false =>
        refine PW.imp (pw_or (soundT c G tk ho'.1 h'.1) (soundW (.cons c2 cs) G tk false ho'.2 h'.2)) fun σ H Q ⟨μ, ρ, S, Y, r, re, f⟩ => ?_
        rw [evB] at f
        rotate_left
        · exact fun z => by cases z
        exact tT_of r re f fun u S1 μ1 H1 r1 re1 g1 f1 => by
          cases u with
          | bl b =>
            refine ⟨b, rfl, ?_⟩
            cases b with
            | false => exact iteF ⟨μ1, ρ, S1, Y, r1, re1, f1⟩
            | true =>
              obtain ⟨b', e1, q'⟩ := Nx.here f1 r1
              cases e1
              exact iteT q'
          | _ => exact f1.elim
theorem soundO : ∀ (cs : CEs) {X : Cx} (_ : Good X T) {W : WX} (_ : Takes X W) {o : Option Expr}, matchO X.N X.env.scope cs o = true → PO X o (tO X.K X.mg W (evO T cs))
  | .nil, X, G, W, tk, o, h => by
    cases o with
    | some _ => simp [matchO] at h
    | none => exact PO.imp po_none fun σ H Q ⟨μ, ρ, S, Y, r, re, f⟩ => Nx.here f r
  | .cons c cs, X, G, W, tk, o, h => by
    cases o with
    | none => simp [matchO] at h
    | some e =>
      simp only [matchO] at h
      refine PO.imp (po_some (soundE c G tk h)) fun σ H Q ⟨μ, ρ, S, Y, r, re, f⟩ => ?_
      simp only [evO] at f
      exact tE_of r re f fun u S1 μ1 H1 v r1 re1 g1 ru f1 => by
        cases ru with
        | int i => exact ⟨i, rfl, Nx.here f1 r1⟩
        | _ => exact f1.elim
theorem soundN : ∀ (c : CN) {X : Cx} (_ : Good X T) {W : WX} (_ : Takes X W) {e : Expr}, matchN X.N X.env.scope c e = true → PE X e (tN X.K X.mg W (evN T c))
  | .lst as, X, G, W, tk, e, h => by
    simp only [matchN] at h
    cases q : asLst e with
    | none => rw [q] at h; cases h
    | some es =>
      rw [q] at h
      simp only [Bool.and_eq_true] at h
      obtain ⟨pos, rfl⟩ := asLst_ok q
      refine PE.imp (pe_lst (soundEs as G tk h.1 h.2)) fun σ H Q ⟨μ, ρ, S, Y, r, re, f⟩ => ?_
      simp only [evN] at f
      refine ⟨μ, ρ, S, Y, r, re, (f.bind Gr.refl).imp fun us S1 μ1 H1 g1 r1 f1 vs rus => ?_⟩
      by_cases hz : us.length ≤ sizeLine
      · rw [if_pos hz] at f1
        exact ⟨by rw [← rus.length]; exact hz, fun p hp => FinN.lay r1 g1 r f1 rus hp⟩
      · rw [if_neg hz] at f1; exact f1.elim
  | .listOf a, X, G, W, tk, e, h => by
    simp only [matchN] at h
    cases q : asCall e with
    | none => rw [q] at h; cases h
    | some z =>
      obtain ⟨g, es⟩ := z
      rw [q] at h
      rcases es with _ | ⟨p, _ | ⟨q', es⟩⟩ <;> first | (cases h; done) | skip
      simp only [Bool.and_eq_true, decide_eq_true_eq] at h
      obtain ⟨p0, pos, rfl⟩ := asCall_ok q
      obtain ⟨⟨rfl, hg⟩, hs, ha⟩ := h
      obtain ⟨h1, h2⟩ := glB_ok hg
      refine PE.imp (pe_callTy call_list_of h1 (G.free _ (by decide +kernel)) PyProof.Rows.boot_list (pa_cons (soundE a G tk ha) pa_nil (star_cons hs)) (by decide +kernel) h2 (star_cons hs) (by rfl)) fun σ H Q ⟨μ, ρ, S, Y, r, re, f⟩ => ?_
      simp only [evN] at f
      refine ⟨μ, ρ, S, Y, r, re, (f.bind Gr.refl).imp fun u S1 μ1 H1 g1 r1 f1 v ru => ?_⟩
      obtain ⟨us, e1, k⟩ := f1.ofO
      obtain ⟨a', vs, rfl, e2, e3⟩ := seqOf_sq r1 ru e1
      exact ⟨a', vs, rfl, e2, fun p hp => FinN.lay r1 g1 r k e3 hp⟩
  | .cat a b, X, G, W, tk, e, h => by
    simp only [matchN] at h
    cases q : asBin e with
    | none => rw [q] at h; cases h
    | some z =>
      obtain ⟨op, p, q'⟩ := z
      rw [q] at h
      simp only [Bool.and_eq_true, decide_eq_true_eq] at h
      obtain ⟨pos, rfl⟩ := asBin_ok q
      obtain ⟨rfl, ha, hb⟩ := h
      refine PE.imp (pe_op op_cat (soundE a G tk ha) (soundE b G tk hb)) fun σ H Q ⟨μ, ρ, S, Y, r, re, f⟩ => ?_
      simp only [evN] at f
      refine ⟨μ, ρ, S, Y, r, re, (f.bind Gr.refl).imp fun u S1 μ1 H1 g1 r1 f1 v ru => ?_⟩
      refine ⟨μ1, ρ, S1, Y, r1, re.mono g1, (f1.bind g1).imp fun w S2 μ2 H2 g2 r2 f2 y rw' => ?_⟩
      cases q1 : lstH S2 u with
      | none => rw [q1] at f2; exact f2.elim
      | some xs =>
        cases q2 : lstH S2 w with
        | none => rw [q1, q2] at f2; exact f2.elim
        | some ys =>
          rw [q1, q2] at f2
          obtain ⟨l, vs, rfl, k1, k2⟩ := lstH_sq r2 (ru.mono g2) q1
          obtain ⟨l', ws, rfl, k3, k4⟩ := lstH_sq r2 rw' q2
          by_cases hz : xs.length + ys.length ≤ sizeLine
          · simp only [if_pos hz] at f2
            exact ⟨l, l', vs, ws, rfl, rfl, k1, k3, by rw [← k2.length, ← k4.length]; exact hz, fun p hp => FinN.lay r2 (g1.trans g2 r2.inj) r f2 (k2.append k4) hp⟩
          · simp only [if_neg hz] at f2
            exact f2.elim
  | .rep a b, X, G, W, tk, e, h => by
    simp only [matchN] at h
    cases q : asBin e with
    | none => rw [q] at h; cases h
    | some z =>
      obtain ⟨op, p, q'⟩ := z
      rw [q] at h
      simp only [Bool.and_eq_true, decide_eq_true_eq] at h
      obtain ⟨pos, rfl⟩ := asBin_ok q
      obtain ⟨rfl, ha, hb⟩ := h
      refine PE.imp (pe_op op_rep (soundE a G tk ha) (soundE b G tk hb)) fun σ H Q ⟨μ, ρ, S, Y, r, re, f⟩ => ?_
      simp only [evN] at f
      refine ⟨μ, ρ, S, Y, r, re, (f.bind Gr.refl).imp fun u S1 μ1 H1 g1 r1 f1 v ru => ?_⟩
      refine ⟨μ1, ρ, S1, Y, r1, re.mono g1, (f1.bind g1).imp fun w S2 μ2 H2 g2 r2 f2 y rw' => ?_⟩
      cases q1 : lstH S2 u with
      | none => rw [q1] at f2; exact f2.elim
      | some xs =>
        rw [q1] at f2
        cases w <;> first | exact f2.elim | skip
        rename_i k
        cases rw'
        obtain ⟨l, vs, rfl, k1, k2⟩ := lstH_sq r2 (ru.mono g2) q1
        by_cases hz : 0 ≤ k ∧ k ≤ 1000 ∧ xs.length ≤ 1000
        · simp only [if_pos hz] at f2
          refine ⟨l, k, vs, rfl, rfl, k1, by omega, by omega, ?_, fun p hp => FinN.lay r2 (g1.trans g2 r2.inj) r f2 (k2.flatten _) hp⟩
          rw [← k2.length]
          exact Nat.le_trans (Nat.mul_le_mul hz.2.2 (show k.toNat ≤ 1000 by omega)) (by decide +kernel)
        · simp only [if_neg hz] at f2
          exact f2.elim
  | .lc tg it cnd elt own, X, G, W, tk, e, h => by
    simp only [matchN] at h
    cases q : asLc e with
    | none => rw [q] at h; cases h
    | some z =>
      obtain ⟨x, tg', it', ifs, s2⟩ := z
      rw [q] at h
      simp only [Bool.and_eq_true, decide_eq_true_eq] at h
      obtain ⟨pos, rfl⟩ := asLc_ok q
      obtain ⟨⟨⟨⟨hb, hsl⟩, ht⟩, hset⟩, ⟨hi, ⟨hc, hl⟩, hk⟩, he⟩ := h
      obtain ⟨wi, g, tt, te, h1, h2, h3, h4, h5, h6, h7⟩ := lcOk (cnd := cnd) (it := it) (elt := elt) G tk hb hsl ht hset hl (soundI it G tk hi)
        (fun s H C cl fp => soundE elt (G.blk s H s2 (compEnvC s2 cl C X.env) fp) takes0 (e := x) he)
        (fun c cs e1 hcc he1 s H C cl fp => by
          subst hcc
          subst he1
          simp only [matchEs, Bool.and_eq_true] at hc
          simp only [okTs, Bool.and_eq_true] at hk
          exact soundT c (G.blk s H s2 (compEnvC s2 cl C X.env) fp) takes0 (e := e1) hk.1 hc.1)
        (fun hn => by
          subst hn
          cases ifs with
          | nil => rfl
          | cons _ _ => simp [matchEs] at hc)
        (fun c cs hcc hn => by
          subst hcc
          subst hn
          simp [matchEs] at hc)
      exact PE.imp (pe_lc G.calm G.nd h1 h2 h3 h4 h5 h6) h7
theorem soundI : ∀ (c : CI) {X : Cx} (_ : Good X T) {W : WX} (_ : Takes X W) {tg e : Expr}, matchI X.N X.env.scope c tg e = true → PI X tg e (tI X.K X.mg W (evI T c))
  | .seq a, X, G, W, tk, tg, e, h => by
    simp only [matchI] at h
    refine PI.imp (PI.or (pi_list (soundE a G tk h)) (pi_tup (soundE a G tk h))) fun σ H R ⟨μ, ρ, S, Y, r, re, f⟩ => ?_
    simp only [evI] at f
    have lf : (∀ u S1, ev T a ρ S = .ok u S1 → tupOf u = none) → iList X.K (tE X.K X.mg W (ev T a)) σ H R := fun hu => ⟨μ, ρ, S, Y, r, re, by
      cases z : ev T a ρ S with
      | ok u S1 =>
        rw [z] at f
        intro μ1 H1 g1 r1 v ru
        replace f : Fin X.K X.mg W σ μ S Y H (if (seqOf S1 u).isSome then Res.ok (Src.seq u) S1 else .no) _ := f
        have hu' := hu u S1 z
        rw [seqOf_lst hu'] at f
        cases q : lstOf S1 u with
        | none => rw [q] at f; exact f.elim
        | some us =>
          rw [q] at f
          obtain ⟨a', vs, rfl, e2, e3⟩ := lstOf_sq r1 ru q
          exact ⟨a', rfl, ⟨vs, e2⟩, f μ1 H1 g1 r1 _ (.lst ru hu')⟩
      | ex _ _ => rw [z] at f; exact f
      | no => rw [z] at f; exact f⟩
    cases z : ev T a ρ S with
    | ok u S1 =>
      cases q : tupOf u with
      | none => exact .inl (lf fun u' S' e' => by rw [z] at e'; cases e'; exact q)
      | some us =>
        right
        refine ⟨μ, ρ, S, Y, r, re, ?_⟩
        rw [z] at f ⊢
        intro μ1 H1 g1 r1 v ru
        cases u <;> first | (cases q; done) | skip
        obtain ⟨a', vs, rfl, e2, e3⟩ := tup_sq ru
        exact ⟨a', rfl, ⟨vs, e2⟩, f μ1 H1 g1 r1 _ (.tup ru)⟩
    | ex _ _ => exact .inl (lf fun u' S' e' => by rw [z] at e'; cases e')
    | no => exact .inl (lf fun u' S' e' => by rw [z] at e'; cases e')
  | .rng1 a, X, G, W, tk, tg, e, h => by
    simp only [matchI] at h
    cases q : asCall e with
    | none => rw [q] at h; cases h
    | some z =>
      obtain ⟨g, es⟩ := z
      rw [q] at h
      rcases es with _ | ⟨p, _ | ⟨q', es⟩⟩ <;> first | (cases h; done) | skip
      simp only [Bool.and_eq_true, decide_eq_true_eq] at h
      obtain ⟨p0, pos, rfl⟩ := asCall_ok q
      obtain ⟨⟨rfl, hg⟩, hs, ha⟩ := h
      obtain ⟨h1, h2⟩ := glB_ok hg
      refine PI.imp (pi_range1 h1 (G.free _ (by decide +kernel)) (pa_cons (soundE a G tk ha) pa_nil (star_cons hs)) (star_cons hs)) fun σ H R ⟨μ, ρ, S, Y, r, re, f⟩ => ?_
      simp only [evI] at f
      exact tE_of r re f fun u S1 μ1 H1 v r1 re1 g1 ru f1 => by
        cases ru with
        | int j =>
          replace f1 : Fin X.K X.mg W σ μ1 S1 Y H1 (if -(2 ^ 62) ≤ j ∧ j < 2 ^ 62 then Res.ok (Src.rng 0 j.toNat) S1 else .no) _ := f1
          by_cases hz : -(2 ^ 62) ≤ j ∧ j < 2 ^ 62
          · rw [if_pos hz] at f1
            exact ⟨j, rfl, hz.1, hz.2, Nx.here f1 r1 _ .rng⟩
          · rw [if_neg hz] at f1; exact f1.elim
        | _ => exact f1.elim
  | .rng2 a b, X, G, W, tk, tg, e, h => by
    simp only [matchI] at h
    cases q : asCall e with
    | none => rw [q] at h; cases h
    | some z =>
      obtain ⟨g, es⟩ := z
      rw [q] at h
      rcases es with _ | ⟨p, _ | ⟨q', _ | ⟨q2, es⟩⟩⟩ <;> first | (cases h; done) | skip
      simp only [Bool.and_eq_true, decide_eq_true_eq] at h
      obtain ⟨p0, pos, rfl⟩ := asCall_ok q
      obtain ⟨⟨rfl, hg⟩, ⟨hs1, hs2⟩, ha, hb⟩ := h
      obtain ⟨h1, h2⟩ := glB_ok hg
      refine PI.imp (pi_range2 h1 (G.free _ (by decide +kernel)) (pa_cons (soundE a G tk ha) (pa_cons (soundE b G tk hb) pa_nil (star_cons hs2)) (star_cons hs1)) (by rw [star_cons hs1, star_cons hs2]; rfl) (by rw [star_cons hs2]; rfl)) fun σ H R ⟨μ, ρ, S, Y, r, re, f⟩ => ?_
      simp only [evI] at f
      exact tE_of r re f fun u S1 μ1 H1 v r1 re1 g1 ru f1 => tE_of r1 re1 f1 fun w S2 μ2 H2 y r2 re2 g2 rw' f2 => by
        cases ru with
        | int i =>
          cases rw' with
          | int j =>
            replace f2 : Fin X.K X.mg W σ μ2 S2 Y H2 (if -(2 ^ 62) ≤ i ∧ i < 2 ^ 62 ∧ -(2 ^ 62) ≤ j ∧ j < 2 ^ 62 then Res.ok (Src.rng i (j - i).toNat) S2 else .no) _ := f2
            by_cases hz : -(2 ^ 62) ≤ i ∧ i < 2 ^ 62 ∧ -(2 ^ 62) ≤ j ∧ j < 2 ^ 62
            · rw [if_pos hz] at f2
              exact ⟨i, j, rfl, hz, Nx.here f2 r2 _ .rng⟩
            · rw [if_neg hz] at f2; exact f2.elim
          | _ => exact f2.elim
        | _ => exact f2.elim
  | .enum a, X, G, W, tk, tg, e, h => by
    simp only [matchI] at h
    cases q : asCall e with
    | none => rw [q] at h; cases h
    | some z =>
      obtain ⟨g, es⟩ := z
      rw [q] at h
      rcases es with _ | ⟨p, _ | ⟨q', es⟩⟩ <;> first | (cases h; done) | skip
      simp only [Bool.and_eq_true, decide_eq_true_eq] at h
      obtain ⟨p0, pos, rfl⟩ := asCall_ok q
      obtain ⟨⟨⟨rfl, hg⟩, htg⟩, hs, ha⟩ := h
      obtain ⟨h1, h2⟩ := glB_ok hg
      obtain ⟨ts, hts⟩ := Option.isSome_iff_exists.mp htg
      obtain ⟨k, tpos, rfl⟩ := asTup_ok hts
      have pa : PA X [p] _ := pa_cons (soundE a G tk ha) pa_nil (star_cons hs)
      refine PI.imp (PI.or (pi_enum h1 (G.free _ (by decide +kernel)) pa (star_cons hs)) (ZS.pi_enT h1 (G.free _ (by decide +kernel)) pa (star_cons hs))) fun σ H R ⟨μ, ρ, S, Y, r, re, f⟩ => ?_
      simp only [evI] at f
      by_cases hu : ∃ us S1, ev T a ρ S = .ok (.tup us) S1
      · obtain ⟨us, S1, hu⟩ := hu
        right
        refine ⟨μ, ρ, S, Y, r, re, ?_⟩
        rw [hu] at f ⊢
        intro μ1 H1 g1 r1 v ru
        obtain ⟨a', vs, rfl, e2, e3⟩ := tup_sq ru
        exact ⟨a', vs, rfl, e2, f μ1 H1 g1 r1 _ (.enumT ru)⟩
      · left
        refine ⟨μ, ρ, S, Y, r, re, ?_⟩
        cases z : ev T a ρ S with
        | ok u S1 =>
          rw [z] at f
          intro μ1 H1 g1 r1 v ru
          replace f : Fin X.K X.mg W σ μ S Y H (if (seqOf S1 u).isSome then Res.ok (Src.enum u) S1 else .no) _ := f
          have hu' : tupOf u = none := by
            cases u <;> first | rfl | exact absurd ⟨_, _, z⟩ hu
          rw [seqOf_lst hu'] at f
          cases q : lstOf S1 u with
          | none => rw [q] at f; exact f.elim
          | some us =>
            rw [q] at f
            obtain ⟨a', vs, rfl, e2, e3⟩ := lstOf_sq r1 ru q
            exact ⟨a', vs, rfl, e2, f μ1 H1 g1 r1 _ (.enum ru hu')⟩
        | ex _ _ => rw [z] at f; exact f
        | no => rw [z] at f; exact f
  | .enumZ a b, X, G, W, tk, tg, e, h => by
    simp only [matchI] at h
    cases q : asCall e with
    | none => rw [q] at h; cases h
    | some z =>
      obtain ⟨g, es⟩ := z
      rw [q] at h
      rcases es with _ | ⟨x, _ | ⟨x2, es⟩⟩ <;> first | (cases h; done) | skip
      simp only at h
      cases qq : asCall x with
      | none => rw [qq] at h; cases h
      | some z =>
        obtain ⟨g2, es⟩ := z
        rw [qq] at h
        rcases es with _ | ⟨p, _ | ⟨q', _ | ⟨q2, es⟩⟩⟩ <;> first | (cases h; done) | skip
        simp only [Bool.and_eq_true, decide_eq_true_eq] at h
        obtain ⟨p0, pos, rfl⟩ := asCall_ok q
        obtain ⟨p00, pos0, rfl⟩ := asCall_ok qq
        obtain ⟨⟨⟨⟨⟨rfl, rfl⟩, hg⟩, hg2⟩, htg⟩, ⟨hs1, hs2⟩, ha, hb⟩ := h
        obtain ⟨h1, h2⟩ := glB_ok hg
        obtain ⟨h3, h4⟩ := glB_ok hg2
        obtain ⟨ts, hts⟩ := Option.isSome_iff_exists.mp htg
        obtain ⟨k, tpos, rfl⟩ := asTup_ok hts
        refine PI.imp (ZS.pi_ez h1 (G.free _ (by decide +kernel)) h3 (G.free _ (by decide +kernel)) (pa_cons (soundE a G tk ha) (pa_cons (soundE b G tk hb) pa_nil (star_cons hs2)) (star_cons hs1)) (star_cons hs1) (by rw [star_cons hs2]; rfl)) fun σ H R ⟨μ, ρ, S, Y, r, re, f⟩ => ?_
        simp only [evI] at f
        exact tE_of r re f fun u S1 μ1 H1 v r1 re1 g1 ru f1 => tE_of r1 re1 f1 fun w S2 μ2 H2 y r2 re2 g2 rw' f2 => by
          by_cases hz : ((tupOf u).isSome && (tupOf w).isSome) = true
          · rw [if_pos hz] at f2
            have ru2 := ru.mono g2
            rw [Bool.and_eq_true] at hz
            obtain ⟨z1, z2⟩ := hz
            cases u <;> first | (cases z1; done) | skip
            cases w <;> first | (cases z2; done) | skip
            obtain ⟨a', vs, rfl, e2, e3⟩ := tup_sq ru2
            obtain ⟨b', vs2, rfl, e4, e5⟩ := tup_sq rw'
            exact ⟨a', b', vs, vs2, rfl, e2, e4, Nx.here f2 r2 _ (.ez ru2 rw')⟩
          · rw [if_neg hz] at f2; exact f2.elim
  | .zip true a b, X, G, W, tk, tg, e, h => by
    simp only [matchI] at h
    cases q : asZipS e with
    | none => rw [q] at h; cases h
    | some z =>
      obtain ⟨p, q'⟩ := z
      rw [q] at h
      simp only [Bool.and_eq_true] at h
      obtain ⟨p1, j, cp, kp, pos, rfl⟩ := asZipS_ok q
      obtain ⟨⟨hg, htg⟩, ⟨hs1, hs2⟩, ha, hb⟩ := h
      obtain ⟨h1, h2⟩ := glB_ok hg
      obtain ⟨ts, hts⟩ := Option.isSome_iff_exists.mp htg
      obtain ⟨k, tpos, rfl⟩ := asTup_ok hts
      refine PI.imp (ZS.pi_zipS h1 (G.free _ (by decide +kernel)) (pa_cons (soundE a G tk ha) (pa_cons (soundE b G tk hb) pa_nil (star_cons hs2)) (star_cons hs1)) (star_cons hs1) (by rw [star_cons hs2]; rfl)) fun σ H R ⟨μ, ρ, S, Y, r, re, f⟩ => ?_
      simp only [evI] at f
      exact tE_of r re f fun u S1 μ1 H1 v r1 re1 g1 ru f1 => tE_of r1 re1 f1 fun w S2 μ2 H2 y r2 re2 g2 rw' f2 => by
        simp only [if_true, decide_eq_true_eq] at f2
        by_cases hz : (tupOf u).isSome = true ∧ (tupOf u).map List.length = (tupOf w).map List.length
        · rw [if_pos hz] at f2
          have ru2 := ru.mono g2
          obtain ⟨z1, z2⟩ := hz
          cases u <;> first | (cases z1; done) | skip
          cases w <;> first | (cases z2; done) | skip
          obtain ⟨a', vs, rfl, e2, e3⟩ := tup_sq ru2
          obtain ⟨b', vs2, rfl, e4, e5⟩ := tup_sq rw'
          exact ⟨a', b', vs, vs2, rfl, e2, e4, Nx.here f2 r2 _ (.zipS ru2 rw')⟩
        · rw [if_neg hz] at f2; exact f2.elim
  | .zip false a b, X, G, W, tk, tg, e, h => by
    simp only [matchI] at h
    cases q : asCall e with
    | none => rw [q] at h; cases h
    | some z =>
      obtain ⟨g, es⟩ := z
      rw [q] at h
      rcases es with _ | ⟨p, _ | ⟨q', _ | ⟨q2, es⟩⟩⟩ <;> first | (cases h; done) | skip
      simp only [Bool.and_eq_true, decide_eq_true_eq, Bool.not_eq_true'] at h
      obtain ⟨p0, pos, rfl⟩ := asCall_ok q
      obtain ⟨⟨⟨rfl, hg⟩, htg⟩, ⟨hs1, hs2⟩, ha, hb⟩ := h
      obtain ⟨h1, h2⟩ := glB_ok hg
      obtain ⟨ts, hts⟩ := Option.isSome_iff_exists.mp htg
      obtain ⟨k, tpos, rfl⟩ := asTup_ok hts
      refine PI.imp (pi_zipA h1 (G.free _ (by decide +kernel)) (pa_cons (soundE a G tk ha) (pa_cons (soundE b G tk hb) pa_nil (star_cons hs2)) (star_cons hs1)) (star_cons hs1) (by rw [star_cons hs2]; rfl)) fun σ H R ⟨μ, ρ, S, Y, r, re, f⟩ => ?_
      simp only [evI] at f
      exact tE_of r re f fun u S1 μ1 H1 v r1 re1 g1 ru f1 => tE_of r1 re1 f1 fun w S2 μ2 H2 y r2 re2 g2 rw' f2 => by
        simp only [Bool.false_eq_true, if_false] at f2
        by_cases hz : (((lstOf S2 u).isSome && (lstOf S2 w).isSome) || ((tupOf u).isSome && (tupOf w).isSome)) = true
        · rw [if_pos hz] at f2
          have ru2 := ru.mono g2
          rw [Bool.or_eq_true, Bool.and_eq_true, Bool.and_eq_true] at hz
          rcases hz with ⟨z1, z2⟩ | ⟨z1, z2⟩
          · obtain ⟨us, z1⟩ := Option.isSome_iff_exists.mp z1
            obtain ⟨ws, z2⟩ := Option.isSome_iff_exists.mp z2
            obtain ⟨a', vs, rfl, e2, e3⟩ := lstOf_sq r2 ru2 z1
            obtain ⟨b', vs2, rfl, e4, e5⟩ := lstOf_sq r2 rw' z2
            exact ⟨a', b', vs, vs2, rfl, .inl ⟨e2, e4, Nx.here f2 r2 _ (.zipL ru2 (by cases u <;> first | rfl | cases z1) rw' (by cases w <;> first | rfl | cases z2))⟩⟩
          · cases u <;> first | (cases z1; done) | skip
            cases w <;> first | (cases z2; done) | skip
            obtain ⟨a', vs, rfl, e2, e3⟩ := tup_sq ru2
            obtain ⟨b', vs2, rfl, e4, e5⟩ := tup_sq rw'
            exact ⟨a', b', vs, vs2, rfl, .inr ⟨e2, e4, Nx.here f2 r2 _ (.zipT ru2 rw')⟩⟩
        · rw [if_neg hz] at f2; exact f2.elim
end
end
end Z

set_option Elab.async false
set_option linter.all false
set_option maxRecDepth 100000
set_option maxHeartbeats 1600000
/-! Z10: statements in short, what they come to. -/
namespace Z
open PySem PySem.Spec PyProof.Rows L2 RZ
mutual
inductive CS where
  | asg (t : CT) (e : CE) | par (i j : Nat) (a b : CE) | setI (o i e : CE) | app (o e : CE)
  | expr (e : CE) | ret (e : CE) | ret0 | ite (t : CE) (a b : CSs) | for_ (t : CT) (it : CI) (b : CSs) | whl (t : CE) (b : CSs) | brk | cnt | pass | nope | tryT (b : CSs)
  | setF (C f : Str) (o e : CE) | raise (C : Str) | tryA (b : CSs) (C : Str) (i j : Nat) | ins (o i e : CE) | popS (o i : CE) | ext (o e : CE)
inductive CSs where
  | nil | cons (s : CS) (ss : CSs)
end
def putU (f : Str) (u : U) : List (Str × U) → List (Str × U)
  | [] => [(f, u)]
  | (g, x) :: r => if g = f then (g, u) :: r else (g, x) :: putU f u r
/-- where a statement ends -/
inductive SR where
  | nx (ρ : Rho) (S : Sto) | rt (u : U) (S : Sto) | bk (ρ : Rho) (S : Sto) | ct (ρ : Rho) (S : Sto) | ex (x : Xn) (ρ : Rho) (S : Sto) | no
def Res.toS {α : Type} (r : Res α) (ρ : Rho) (k : α → Sto → SR) : SR := match r with
  | .ok a S => k a S
  | .ex x S => .ex x ρ S
  | .no => .no
def SR.andThen (r : SR) (k : Rho → Sto → SR) : SR := match r with
  | .nx ρ S => k ρ S
  | r => r
def forGo (src : Src) (t : CT) (body : Rho → Sto → SR) : Nat → Nat → Rho → Sto → SR
  | n, i, ρ, S => match src.at_ S i with
    | none => .no
    | some none => .nx ρ S
    | some (some x) => match n with
      | 0 => .no
      | n + 1 => match asgT t x ρ with
        | none => .no
        | some ρ' => match body ρ' S with
          | .nx ρ2 S2 => forGo src t body n (i + 1) ρ2 S2
          | .ct ρ2 S2 => forGo src t body n (i + 1) ρ2 S2
          | .bk ρ2 S2 => .nx ρ2 S2
          | r => r
def whGo (test : Rho → Sto → Res U) (body : Rho → Sto → SR) : Nat → Rho → Sto → SR
  | n, ρ, S => (test ρ S).toS ρ fun u S1 => match u with
    | .bl false => .nx ρ S1
    | .bl true => match n with
      | 0 => .no
      | n + 1 => match body ρ S1 with
        | .nx ρ2 S2 => whGo test body n ρ2 S2
        | .ct ρ2 S2 => whGo test body n ρ2 S2
        | .bk ρ2 S2 => .nx ρ2 S2
        | r => r
    | _ => .no
section
variable (T : Th) (F : Nat)
mutual
def evS : CS → Rho → Sto → SR
  | .asg t e, ρ, S => (ev T e ρ S).toS ρ fun u S1 => match asgT t u ρ with
    | some ρ' => .nx ρ' S1
    | none => .no
  | .par i j a b, ρ, S => (ev T a ρ S).toS ρ fun u S1 => (ev T b ρ S1).toS ρ fun w S2 => .nx ((ρ.set i (some u)).set j (some w)) S2
  | .setI o i e, ρ, S => (ev T e ρ S).toS ρ fun w S1 => (ev T o ρ S1).toS ρ fun u S2 => (ev T i ρ S2).toS ρ fun z S3 => match u, z with
    | .obj k, .int n => match S3[k]? with
      | some (.lst us) => match ixN us.length n with
        | some j => .nx ρ (S3.set k (.lst (us.set j w)))
        | none => .no
      | _ => .no
    | _, _ => .no
  | .app o e, ρ, S => (ev T o ρ S).toS ρ fun u S1 => if (lstOf S1 u).isSome = true then (ev T e ρ S1).toS ρ fun w S2 => match u with
    | .obj k => match S2[k]? with
      | some (.lst us) => if us.length < sizeLine then .nx ρ (S2.set k (.lst (us ++ [w]))) else .no
      | _ => .no
    | _ => .no
    else .no
  | .expr e, ρ, S => (ev T e ρ S).toS ρ fun _ S1 => .nx ρ S1
  | .ret e, ρ, S => (ev T e ρ S).toS ρ fun u S1 => .rt u S1
  | .ret0, _, S => .rt .non S
  | .ite t a b, ρ, S => (ev T t ρ S).toS ρ fun u S1 => match u with
    | .bl true => evSs a ρ S1
    | .bl false => evSs b ρ S1
    | _ => .no
  | .for_ t it b, ρ, S => (evI T it ρ S).toS ρ fun src S1 => forGo src t (evSs b) (src.len S1) 0 ρ S1
  | .whl t b, ρ, S => whGo (ev T t) (evSs b) F ρ S
  | .brk, ρ, S => .bk ρ S
  | .cnt, ρ, S => .ct ρ S
  | .pass, ρ, S => .nx ρ S
  | .nope, _, _ => .no
  | .tryT b, ρ, S => match evSs b ρ S with
    | .ex _ _ _ => .no
    | r => r
  | .setF C f o e, ρ, S => (ev T e ρ S).toS ρ fun w S1 => (ev T o ρ S1).toS ρ fun u S2 => match u with
    | .obj k => match S2[k]? with
      | some (.ins D fs) => if D = C ∧ T.fldB C f = true ∧ fs.length < 1000 then .nx ρ (S2.set k (.ins D (putU f w fs))) else .no
      | _ => .no
    | _ => .no
  | .raise C, ρ, S => if T.excB C = true then .ex (C, none) ρ S else .no
  | .tryA b C i j, ρ, S => if T.clsB C = true then match evSs b ρ S with
    | .ex x ρ1 S1 => if x.2 = none then match T.sub x.1 C with
      | some true => .nx ((ρ1.set j (some (.exc x.1))).set i none) S1
      | some false => .ex x ρ1 S1
      | none => .no
      else .no
    | r => r
    else .no
  | .ins o i e, ρ, S => (ev T o ρ S).toS ρ fun u S1 => if (lstOf S1 u).isSome = true then (ev T i ρ S1).toS ρ fun z S2 => (ev T e ρ S2).toS ρ fun w S3 => match u, z with
    | .obj k, .int n => match S3[k]? with
      | some (.lst us) => if 0 ≤ n ∧ n < 2 ^ 62 ∧ us.length < sizeLine then .nx ρ (S3.set k (.lst (us.take n.toNat ++ [w] ++ us.drop n.toNat))) else .no
      | _ => .no
    | _, _ => .no
    else .no
  | .popS o i, ρ, S => (ev T o ρ S).toS ρ fun u S1 => if (lstOf S1 u).isSome = true then (ev T i ρ S1).toS ρ fun z S2 => match u, z with
    | .obj k, .int n => match S2[k]? with
      | some (.lst us) => match seqIndex? n us.length with
        | some j => if -(2 ^ 62) ≤ n ∧ n < 2 ^ 62 then .nx ρ (S2.set k (.lst (us.eraseIdx j))) else .no
        | none => .no
      | _ => .no
    | _, _ => .no
    else .no
  | .ext o e, ρ, S => (ev T o ρ S).toS ρ fun u S1 => if (lstOf S1 u).isSome = true then (ev T e ρ S1).toS ρ fun w S2 => match u with
    | .obj k => match S2[k]?, lstH S2 w with
      | some (.lst us), some ws => if us.length + ws.length ≤ sizeLine then .nx ρ (S2.set k (.lst (us ++ ws))) else .no
      | _, _ => .no
    | _ => .no
    else .no
def evSs : CSs → Rho → Sto → SR
  | .nil, ρ, S => .nx ρ S
  | .cons s ss, ρ, S => (evS s ρ S).andThen (evSs ss)
end
end
section
variable {K : PySem.W.Frag} {mg : Str → Option Value} {Y : List Addr} {μ μ' μ1 : Nat → Addr} {n n' n1 : Nat} {H H' H1 : Hp} {S S1 S' : Sto} {α β : Type} {W : WX} {σ : L2.St}
def FinS (K : PySem.W.Frag) (mg : Str → Option Value) (W : WX) (D : Ends) (μ : Nat → Addr) (S : Sto) (Y : List Addr) (H : Hp) : SR → Prop
  | .nx ρ S' => Nx K mg μ S Y H S' fun μ' H' => ∀ σ', RE K mg μ' S'.length Y H' ρ σ' → D.nx σ' H'
  | .bk ρ S' => Nx K mg μ S Y H S' fun μ' H' => ∀ σ', RE K mg μ' S'.length Y H' ρ σ' → D.bk σ' H'
  | .ct ρ S' => Nx K mg μ S Y H S' fun μ' H' => ∀ σ', RE K mg μ' S'.length Y H' ρ σ' → D.ct σ' H'
  | .rt u S' => Nx K mg μ S Y H S' fun μ' H' => ∀ v, RU K mg μ' S'.length Y H' u v → D.rt v H'
  | .ex x ρ S' => Nx K mg μ S Y H S' fun μ' H' => ∀ σ' cls d, RE K mg μ' S'.length Y H' ρ σ' → RX K mg μ' S'.length Y H' x cls d → W cls d σ' H'
  | .no => False
theorem FinS.shift {D : Ends} {r : SR} (x : FinS K mg W D μ S Y H r) (g : Gr μ S.length H μ1 S1.length H1) : FinS K mg W D μ1 S1 Y H1 r := by
  cases r <;> first | exact Nx.shift x g | exact x
theorem FinS.toS {D : Ends} {r : Res α} {ρ : Rho} {k : α → Sto → SR} (re : RE K mg μ S.length Y H ρ σ) (x : FinS K mg W D μ S Y H (r.toS ρ k)) : Fin K mg W σ μ S Y H r fun a S1 μ1 H1 => FinS K mg W D μ1 S1 Y H1 (k a S1) := by
  cases r with
  | ok a S1 => exact fun μ1 H1 g _ => FinS.shift (show FinS K mg W D μ S Y H (k a S1) from x) g
  | ex e S' => exact fun μ' H' g r cls d z => x μ' H' g r σ cls d (re.mono g) z
  | no => exact x
/-- the reading of statements -/
def tS (K : PySem.W.Frag) (mg : Str → Option Value) (W : WX) (f : Rho → Sto → SR) : TS := fun D σ H => ∃ μ ρ S Y, RS K mg μ S Y H ∧ RE K mg μ S.length Y H ρ σ ∧ FinS K mg W D μ S Y H (f ρ S)
theorem sE_of {D : Ends} {f : Rho → Sto → Res U} {k : U → Sto → SR} {ρ : Rho} {Q : VK} (r : RS K mg μ S Y H) (e : RE K mg μ S.length Y H ρ σ) (x : FinS K mg W D μ S Y H ((f ρ S).toS ρ k))
    (h : ∀ u S1 μ1 H1 v, RS K mg μ1 S1 Y H1 → RE K mg μ1 S1.length Y H1 ρ σ → Gr μ S.length H μ1 S1.length H1 → RU K mg μ1 S1.length Y H1 u v → FinS K mg W D μ1 S1 Y H1 (k u S1) → Q v H1) : tE K mg W f σ H Q :=
  ⟨μ, ρ, S, Y, r, e, (FinS.toS e x).imp fun u S1 μ1 H1 g r1 y v ru => h u S1 μ1 H1 v r1 (e.mono g) g ru y⟩
theorem sT_of {D : Ends} {f : Rho → Sto → Res U} {k : U → Sto → SR} {ρ : Rho} {Q : Bool → Hp → Prop} (r : RS K mg μ S Y H) (e : RE K mg μ S.length Y H ρ σ) (x : FinS K mg W D μ S Y H ((f ρ S).toS ρ k))
    (h : ∀ u S1 μ1 H1, RS K mg μ1 S1 Y H1 → RE K mg μ1 S1.length Y H1 ρ σ → Gr μ S.length H μ1 S1.length H1 → FinS K mg W D μ1 S1 Y H1 (k u S1) → ∃ b, u = .bl b ∧ Q b H1) : tT K mg W f σ H Q :=
  ⟨μ, ρ, S, Y, r, e, (FinS.toS e x).imp fun u S1 μ1 H1 g r1 y => h u S1 μ1 H1 r1 (e.mono g) g y⟩
end
/-! ### the text beside its short form -/
def isTup : Expr → Bool
  | .Tuple .. => true
  | _ => false
def isTL : Expr → Bool
  | .Tuple .. => true
  | .List .. => true
  | _ => false
def notComp : Expr → Bool
  | .ListComp .. | .SetComp .. | .DictComp .. => false
  | _ => true
theorem sw_none {tg e : Expr} {env : Env} (h : (isTL tg && isTup e) = false) : swappedStores [tg] e env = pure none := by
  cases tg <;> first | rfl | (cases e <;> first | rfl | (simp [isTL, isTup] at h))
theorem sole_false {tg e : Expr} {n : Nat} {env : Env} (h : notComp e = true) : swapsWithSole [tg] e n env = pure false := by
  cases e <;> first | rfl | cases h
theorem swith_false {e : Expr} {t : Option Expr} {n : Nat} {env : Env} (h : notComp e = true) : swapsWith e t n env = pure false := by
  cases e <;> first | rfl | cases h
theorem sw_folded {ts vs : List Expr} {env : Env} {k k2 : Nat} {p p2 : Pos} (h : vs.all (foldedForSure 8) = true) : swappedStores [.Tuple ts k p] (.Tuple vs k2 p2) env = pure none := by
  unfold swappedStores
  simp only [h, if_true]
  repeat (first | rfl | split)
end Z

set_option Elab.async false
set_option linter.all false
set_option maxRecDepth 100000
set_option maxHeartbeats 3200000
/-! Z11: what statements in short come to is what the text does. -/
namespace Z
open PySem PySem.Spec PyProof.Rows L2 RZ
-- views
def asAsg : Stmt → Option (Expr × Expr × Pos)
  | .Assign [tg] v pos => some (tg, v, pos)
  | _ => none
def asSt : Stmt → Option Expr
  | .Expr v _ => some v
  | _ => none
def asRet : Stmt → Option (Option Expr)
  | .Return o _ => some o
  | _ => none
def asIfS : Stmt → Option (Expr × List Stmt × List Stmt)
  | .If c a b _ => some (c, a, b)
  | _ => none
def asFor : Stmt → Option (Expr × Expr × List Stmt)
  | .For tg it b [] _ => some (tg, it, b)
  | _ => none
def asWh : Stmt → Option (Expr × List Stmt)
  | .While c b [] _ => some (c, b)
  | _ => none
-- raise X('..'); try: .. except X as n: m = n; o.f = e
def asRaise : Stmt → Option Str
  | .Raise (some (.Call (.Name x _) [.Constant (.str _) _ _] [] _)) none _ => some x
  | _ => none
def asTryA : Stmt → Option (List Stmt × Str × Str × Str)
  | .Try b [.ExceptHandler (some (.Name x _)) (some n) [.Assign [.Name m _] (.Name n' _) _] _] [] [] _ => if n' = n then some (b, x, n, m) else none
  | _ => none
theorem asRaise_ok {s : Stmt} {x : Str} (h : asRaise s = some x) : ∃ p m j p2 p3 p4, s = .Raise (some (.Call (.Name x p) [.Constant (.str m) j p2] [] p3)) none p4 := by
  unfold asRaise at h; split at h <;> simp at h; subst h; exact ⟨_, _, _, _, _, _, rfl⟩
theorem asTryA_ok {s : Stmt} {b : List Stmt} {x n m : Str} (h : asTryA s = some (b, x, n, m)) : ∃ np p1 p2 p3 pos' pos, s = .Try b [.ExceptHandler (some (.Name x np)) (some n) [.Assign [.Name m p1] (.Name n p2) p3] pos'] [] [] pos := by
  unfold asTryA at h
  split at h
  · split at h
    · rename_i e
      subst e
      simp at h
      obtain ⟨rfl, rfl, rfl, rfl⟩ := h
      exact ⟨_, _, _, _, _, _, rfl⟩
    · cases h
  · cases h
def isBrk : Stmt → Bool
  | .Break _ => true
  | _ => false
def isCnt : Stmt → Bool
  | .Continue _ => true
  | _ => false
def isPass : Stmt → Bool
  | .Pass _ => true
  | _ => false
theorem asAsg_ok {s : Stmt} {tg v : Expr} {pos : Pos} (h : asAsg s = some (tg, v, pos)) : s = .Assign [tg] v pos := by
  unfold asAsg at h; split at h <;> simp at h; obtain ⟨rfl, rfl, rfl⟩ := h; rfl
theorem asSt_ok {s : Stmt} {v : Expr} (h : asSt s = some v) : ∃ pos, s = .Expr v pos := by cases s <;> simp [asSt] at h; subst h; exact ⟨_, rfl⟩
theorem asRet_ok {s : Stmt} {o : Option Expr} (h : asRet s = some o) : ∃ pos, s = .Return o pos := by cases s <;> simp [asRet] at h; subst h; exact ⟨_, rfl⟩
theorem asIfS_ok {s : Stmt} {c : Expr} {a b : List Stmt} (h : asIfS s = some (c, a, b)) : ∃ pos, s = .If c a b pos := by cases s <;> simp [asIfS] at h; obtain ⟨rfl, rfl, rfl⟩ := h; exact ⟨_, rfl⟩
theorem asFor_ok {s : Stmt} {tg it : Expr} {b : List Stmt} (h : asFor s = some (tg, it, b)) : ∃ pos, s = .For tg it b [] pos := by
  unfold asFor at h; split at h <;> simp at h; obtain ⟨rfl, rfl, rfl⟩ := h; exact ⟨_, rfl⟩
theorem asWh_ok {s : Stmt} {c : Expr} {b : List Stmt} (h : asWh s = some (c, b)) : ∃ pos, s = .While c b [] pos := by
  unfold asWh at h; split at h <;> simp at h; obtain ⟨rfl, rfl⟩ := h; exact ⟨_, rfl⟩
def asTry : Stmt → Option (List Stmt)
  | .Try b (_ :: _) [] [] _ => some b
  | _ => none
theorem asTry_ok {s : Stmt} {b : List Stmt} (h : asTry s = some b) : ∃ h0 hs pos, s = .Try b (h0 :: hs) [] [] pos := by
  unfold asTry at h; split at h <;> simp at h; subst h; exact ⟨_, _, _, rfl⟩
theorem isBrk_ok {s : Stmt} (h : isBrk s = true) : ∃ pos, s = .Break pos := by cases s <;> simp [isBrk] at h; exact ⟨_, rfl⟩
theorem isCnt_ok {s : Stmt} (h : isCnt s = true) : ∃ pos, s = .Continue pos := by cases s <;> simp [isCnt] at h; exact ⟨_, rfl⟩
theorem isPass_ok {s : Stmt} (h : isPass s = true) : ∃ pos, s = .Pass pos := by cases s <;> simp [isPass] at h; exact ⟨_, rfl⟩
def foldAll : Expr → Bool
  | .Tuple vs _ _ => vs.all (foldedForSure 8)
  | _ => false
def isTuple : Expr → Bool
  | .Tuple .. => true
  | _ => false
/-- an assignment of one target that goes the plain way -/
def asgB (tg v : Expr) : Bool := notComp v && (!(isTL tg && isTup v) || (isTuple tg && foldAll v))
theorem asgB_ok {tg v : Expr} {env : Env} (h : asgB tg v = true) : (∀ n, swapsWithSole [tg] v n env = pure false) ∧ swappedStores [tg] v env = pure none := by
  unfold asgB at h
  rw [Bool.and_eq_true, Bool.or_eq_true, Bool.and_eq_true] at h
  refine ⟨fun n => sole_false h.1, ?_⟩
  rcases h.2 with q | ⟨q1, q2⟩
  · exact sw_none (by cases h1 : isTL tg <;> cases h2 : isTup v <;> simp_all)
  · cases tg <;> first | (cases q1; done) | skip
    cases v <;> first | (cases q2; done) | skip
    exact sw_folded q2
-- name = [..] on one line, the name a local
def nmOf : Expr → Option (Str × Pos)
  | .Name y p => some (y, p)
  | _ => none
theorem nmOf_ok {e : Expr} {y : Str} {p : Pos} (h : nmOf e = some (y, p)) : e = .Name y p := by cases e <;> simp [nmOf] at h; obtain ⟨rfl, rfl⟩ := h; rfl
def posOf : Expr → Pos
  | .ListComp _ _ _ p => p
  | _ => ⟨0, 0, 0, 0⟩
def swB (sc s2 : Scope) (y : Str) (p q : Pos) : Bool := (sc.kind == .function) && (sc.names.lookup y == some .local) && (p.line == q.line) && !(s2.names.any fun (n, k) => n == y && (k == .local || k == .cell))
theorem swB_ok {env : Env} {s2 : Scope} {y : Str} {p q : Pos} {x : Expr} {cs : List Comprehension} {n : Nat} (h : swB env.scope s2 y p q = true) : swapsWith (.ListComp x cs s2 q) (some (.Name y p)) n env = pure true := by
  unfold swB at h
  simp only [Bool.and_eq_true] at h
  obtain ⟨⟨⟨h1, h2⟩, h3⟩, h4⟩ := h
  have k : env.scope.kind = .function := by
    cases z : env.scope.kind <;> rw [z] at h1 <;> first | rfl | cases h1
  have e : (env.blockKind == .function && env.kindOf y == some .local && p.line == (Expr.ListComp x cs s2 q).pos.line && !(s2.names.any fun (n, k) => n == y && (k == .local || k == .cell))) = true := by
    have b : env.blockKind = .function := by unfold Env.blockKind; rw [k]; rfl
    rw [b]
    show ((ScopeKind.function == ScopeKind.function) && (env.scope.names.lookup y == some .local) && (p.line == q.line) && _) = true
    rw [h2, h3, h4]; rfl
  show (do return _ : Sem Bool) = pure true
  exact congrArg pure e
def isLcN : CE → Option CN
  | .tmp (.lc a b c d e) => some (.lc a b c d e)
  | .mk (.lc a b c d e) => some (.lc a b c d e)
  | _ => none
-- o.append(e)
def asApp : Expr → Option (Expr × Expr × Pos × Pos)
  | .Call (.Attribute o m p) [e] [] q => if m = ("append" : Str) then some (o, e, p, q) else none
  | _ => none
theorem asApp_ok {x o e : Expr} {p q : Pos} (h : asApp x = some (o, e, p, q)) : x = .Call (.Attribute o "append" p) [e] [] q := by
  unfold asApp at h
  split at h
  · split at h
    · simp at h; obtain ⟨rfl, rfl, rfl, rfl⟩ := h; rename_i e1; rw [e1]
    · cases h
  · cases h
-- a, b = x, y
def asPar : Expr → Expr → Option (Str × Pos × Str × Pos × Nat × Pos × Expr × Expr × Nat × Pos)
  | .Tuple [.Name x px, .Name y py] k p, .Tuple [a, b] k2 p2 => some (x, px, y, py, k, p, a, b, k2, p2)
  | _, _ => none
theorem asPar_ok {tg v : Expr} {x y : Str} {px py p p2 : Pos} {k k2 : Nat} {a b : Expr} (h : asPar tg v = some (x, px, y, py, k, p, a, b, k2, p2)) : tg = .Tuple [.Name x px, .Name y py] k p ∧ v = .Tuple [a, b] k2 p2 := by
  unfold asPar at h
  split at h <;> simp at h
  obtain ⟨rfl, rfl, rfl, rfl, rfl, rfl, rfl, rfl, rfl, rfl⟩ := h
  exact ⟨rfl, rfl⟩
def parB (sc : Scope) (x y : Str) (px py : Pos) (a b : Expr) : Bool := (sc.kind == .function) && (sc.names.lookup x == some .local) && (sc.names.lookup y == some .local) && (py.line == px.line) && !(x == y) && notStar a && notStar b && !([a, b].all (foldedForSure 8)) && !([a, b].all (constantsAlone 8))
mutual
def matchS (N : List Str) (sc : Scope) : CS → Stmt → Bool
  | .asg t e, s => match asAsg s with
    | some (tg, v, _) => matchT N sc t tg && matchE N sc e v && (asgB tg v || (match asLc v, nmOf tg, isLcN e with
      | some (_, _, _, _, s2), some (y, p), some _ => swB sc s2 y p (posOf v)
      | _, _, _ => false))
    | none => false
  | .par i j a b, s => match asAsg s with
    | some (tg, v, _) => match asPar tg v with
      | some (x, px, y, py, _, _, p, q, _, _) => locB N sc i x && locB N sc j y && parB sc x y px py p q && (matchE N sc a p && matchE N sc b q)
      | none => false
    | none => false
  | .setI o i e, s => match asAsg s with
    | some (tg, v, _) => match asSub tg with
      | some (p, q) => asgB tg v && plainIxB q && (matchE N sc o p && (matchE N sc i q && matchE N sc e v))
      | none => false
    | none => false
  | .app o e, s => match asSt s with
    | some x => match asApp x with
      | some (p, q, p1, p2) => plainO p && notStar q && (p1.endLine == p2.line) && (matchE N sc o p && matchE N sc e q)
      | none => false
    | none => false
  | .expr e, s => match asSt s with
    | some x => notComp x && matchE N sc e x
    | none => false
  | .ret e, s => match asRet s with
    | some (some x) => matchE N sc e x
    | _ => false
  | .ret0, s => match asRet s with
    | some none => true
    | _ => false
  | .ite t a b, s => match asIfS s with
    | some (c, p, q) => (okT t c && matchE N sc t c) && (matchSs N sc a p && matchSs N sc b q)
    | none => false
  | .for_ t it b, s => match asFor s with
    | some (tg, x, q) => matchT N sc t tg && notSet x && (matchI N sc it tg x && matchSs N sc b q)
    | none => false
  | .whl t b, s => match asWh s with
    | some (c, q) => (okT t c && matchE N sc t c) && matchSs N sc b q
    | none => false
  | .brk, s => isBrk s
  | .cnt, s => isCnt s
  | .pass, s => isPass s
  | .nope, _ => true
  | .tryT b, s => match asTry s with
    | some q => matchSs N sc b q
    | none => false
  | .setF _ f o e, s => match asAsg s with
    | some (tg, v, _) => match asAttr tg with
      | some (p, g) => decide (g = f) && notComp v && plainO p && (matchE N sc o p && matchE N sc e v)
      | none => false
    | none => false
  | .raise C, s => match asRaise s with
    | some x => decide (x = C) && glB sc C
    | none => false
  | .tryA b C i j, s => match asTryA s with
    | some (q, x, n, m) => (decide (x = C) && glB sc C && (locB N sc i n && (sc.names.lookup n == some .local) && !(n == ("__debug__" : Str)) && !(n == ("__classdict__" : Str))) && (locB N sc j m && (sc.names.lookup m == some .local)) && decide (i ≠ j)) && matchSs N sc b q
    | none => false
  | .ins o i e, s => match asSt s with
    | some x => match asMeth x with
      | some (p, g, [q, r], [], p1, p2) => decide (g = ("insert" : Str)) && plainO p && notStar q && notStar r && (p1.endLine == p2.line) && (matchE N sc o p && (matchE N sc i q && matchE N sc e r))
      | _ => false
    | none => false
  | .popS o i, s => match asSt s with
    | some x => match asMeth x with
      | some (p, g, [q], [], p1, p2) => decide (g = ("pop" : Str)) && plainO p && notStar q && (p1.endLine == p2.line) && (matchE N sc o p && matchE N sc i q)
      | _ => false
    | none => false
  | .ext o e, s => match asSt s with
    | some x => match asMeth x with
      | some (p, g, [q], [], p1, p2) => decide (g = ("extend" : Str)) && plainO p && notStar q && (p1.endLine == p2.line) && (matchE N sc o p && matchE N sc e q)
      | _ => false
    | none => false
def matchSs (N : List Str) (sc : Scope) : CSs → List Stmt → Bool
  | .nil, ss => ss.isEmpty
  | .cons c cs, ss => match ss with
    | s :: ss => matchS N sc c s && matchSs N sc cs ss
    | [] => false
end
structure GoodS (X : Cx) (T : Th) : Prop extends Good X T where
  own : PassesOwn (model X.prog X.w) X.A X.env X.xe
  fn : ∀ x, Loc X.env.scope x → X.fn x = true ∨ X.env.scope.names.lookup x = some .local
  exn : X.ex = []
  stk : X.stack = X.env :: X.outer
  frm : X.env.frame = some X.env.locals
section
variable {X : Cx}
theorem PS.imp {s : Stmt} {t t' : TS} (h : PS X s t) (k : ∀ D σ H, t' D σ H → t D σ H) : PS X s t' := ⟨fun pins s σ H D I q => h.run pins s σ H D I (k D σ H q)⟩
theorem PSs.imp {s : List Stmt} {t t' : TS} (h : PSs X s t) (k : ∀ D σ H, t' D σ H → t D σ H) : PSs X s t' := ⟨fun pins s σ H D I q => h.run pins s σ H D I (k D σ H q)⟩
theorem PS.false {s : Stmt} {t : TS} (k : ∀ D σ H, ¬ t D σ H) : PS X s t := ⟨fun _ _ σ H D _ q => (k D σ H q).elim⟩
end
end Z

set_option Elab.async false
set_option linter.all false
set_option maxRecDepth 100000
set_option maxHeartbeats 3200000
/-! Z12: what statements in short come to is what the text does. -/
namespace Z
open PySem PySem.Spec PyProof.Rows L2 RZ
theorem sw_par {env : Env} {x y : Str} {px py p p2 : Pos} {k k2 : Nat} {a b : Expr} (h : parB env.scope x y px py a b = true) : swappedStores [.Tuple [.Name x px, .Name y py] k p] (.Tuple [a, b] k2 p2) env = pure (some [x, y]) := by
  unfold parB at h
  simp only [Bool.and_eq_true, Bool.not_eq_true'] at h
  obtain ⟨⟨⟨⟨⟨⟨⟨⟨h1, h2⟩, h3⟩, h4⟩, h5⟩, h6⟩, h7⟩, h8⟩, h9⟩ := h
  have k1 : env.scope.kind = .function := by
    cases z : env.scope.kind <;> rw [z] at h1 <;> first | rfl | cases h1
  have bk : env.blockKind = .function := by unfold Env.blockKind; rw [k1]; rfl
  have e1 : (env.kindOf x == some NameKind.local) = true := h2
  have e2 : (env.kindOf y == some NameKind.local) = true := h3
  have n1 : [Expr.Name x px, Expr.Name y py].filterMap (fun | .Name id pos => if env.kindOf id == some .local && pos.line == px.line then some id else none | _ => none) = [x, y] := by
    simp only [List.filterMap, e1, e2, h4, beq_self_eq_true, Bool.and_true, if_true]
  have n2 : ([x, y].eraseDups.length != [x, y].length) = false := by
    have h5' : (y == x) = false := by
      cases z : y == x with
      | false => rfl
      | true => rw [eq_of_beq z] at h5; simp at h5
    simp [List.eraseDups_cons, h5']
  have n3 : [a, b].any (fun | .Starred .. => true | _ => false) = false := by
    cases a <;> first | (cases h6; done) | skip
    all_goals cases b <;> first | (cases h7; done) | rfl
  unfold swappedStores
  have hk : (env.blockKind != ScopeKind.function) = false := by rw [bk]; rfl
  simp only [hk, n3, Bool.or_false, Bool.false_or]
  show (if _ then _ else _) = _
  refine (if_neg (by show ¬ (false = true); decide)).trans ?_
  refine (if_neg (fun hh => absurd (n3.symm.trans hh) (by decide))).trans ?_
  generalize hN : List.filterMap _ [Expr.Name x px, Expr.Name y py] = N
  have hN' : N = [x, y] := hN.symm.trans n1
  subst hN'
  refine (if_neg (fun hh => by rw [n2] at hh; cases hh)).trans ?_
  rw [h8, if_neg (by decide), h9, if_neg (by decide)]
section
variable {K : PySem.W.Frag} {mg : Str → Option Value} {Y : List Addr} {μ μ' μ1 : Nat → Addr} {n n' n1 : Nat} {H H' H1 : Hp} {S S1 S' : Sto} {α β : Type} {W : WX} {σ : L2.St}
theorem FinS.seq {D : Ends} {r : SR} {f : Rho → Sto → SR} (x : FinS K mg W D μ S Y H (r.andThen f)) : FinS K mg W { D with nx := tS K mg W f D } μ S Y H r := by
  cases r with
  | nx ρ S' => exact fun μ' H' g r σ' re => ⟨μ', ρ, S', Y, r, re, FinS.shift (show FinS K mg W D μ S Y H (f ρ S') from x) g⟩
  | _ => exact x
/-- a loop's body: what comes after each end -/
theorem FinS.body {D : Ends} {N : L2.St → Hp → Prop} {r : SR} {go : Rho → Sto → SR} (x : FinS K mg W D μ S Y H (match r with | .nx ρ S => go ρ S | .ct ρ S => go ρ S | .bk ρ S => .nx ρ S | r => r))
    (hN : ∀ ρ' S' μ' H' σ', Gr μ S.length H μ' S'.length H' → RS K mg μ' S' Y H' → RE K mg μ' S'.length Y H' ρ' σ' → FinS K mg W D μ' S' Y H' (go ρ' S') → N σ' H') :
    FinS K mg W { D with nx := N, ct := N, bk := D.nx } μ S Y H r := by
  cases r with
  | nx ρ S' => exact fun μ' H' g r σ' re => hN _ _ _ _ _ g r re (FinS.shift (show FinS K mg W D μ S Y H (go ρ S') from x) g)
  | ct ρ S' => exact fun μ' H' g r σ' re => hN _ _ _ _ _ g r re (FinS.shift (show FinS K mg W D μ S Y H (go ρ S') from x) g)
  | bk ρ S' => exact x
  | rt u S' => exact x
  | ex e ρ S' => exact x
  | no => exact x
end
section
variable {K : PySem.W.Frag} {mg : Str → Option Value} {Y : List Addr} {μ : Nat → Addr} {n : Nat} {H : Hp}
theorem RFs.put {g : Str} {u : U} {v : V} (h : RU K mg μ n Y H u v) : ∀ {us : List (Str × U)} {vs : List (Str × V)}, RFs K mg μ n Y H us vs → RFs K mg μ n Y H (putU g u us) (putF g v vs)
  | _, _, .nil => .cons h .nil
  | _, _, .cons (k := k) q r => by
    simp only [putU, putF]
    by_cases z : k = g
    · rw [if_pos z, if_pos z]; exact .cons h r
    · rw [if_neg z, if_neg z]; exact .cons q (RFs.put h r)
theorem RUs.erase : ∀ {us : List U} {vs : List V} (i : Nat), RUs K mg μ n Y H us vs → RUs K mg μ n Y H (us.eraseIdx i) (vs.eraseIdx i)
  | _, _, _, .nil => .nil
  | _, _, 0, .cons _ r => r
  | _, _, i + 1, .cons q r => .cons q (RUs.erase i r)
end
section
variable {T : Th} {F : Nat}
theorem lcUse {X : Cx} (G : Good X T) {W : WX} (tk : Takes X W) {tg : CT} {it : CI} {cnd : CEs} {elt : CE} {own : List (Str × Nat)} {x tg' it' : Expr} {ifs : List Expr} {s2 : Scope} {pos : Pos} (h : matchN X.N X.env.scope (.lc tg it cnd elt own) (.ListComp x [⟨tg', it', ifs, 0⟩] s2 pos) = true) :
    ∃ (wi : TI) (g : TG) (tt : TT) (te : TE), PI X tg' it' wi ∧ BlkOk X.N X.env.scope s2 own ∧ (∀ (s : Shared) (H : Hp) (C : Addr) (cl : List (Str × Addr)) (fp : List Addr), PG (X.blk s H s2 (compEnvC s2 cl C X.env) fp) tg' g) ∧
      (∀ (s : Shared) (H : Hp) (C : Addr) (cl : List (Str × Addr)) (fp : List Addr), PTs (X.blk s H s2 (compEnvC s2 cl C X.env) fp) ifs tt) ∧ (∀ (s : Shared) (H : Hp) (C : Addr) (cl : List (Str × Addr)) (fp : List Addr), PE (X.blk s H s2 (compEnvC s2 cl C X.env) fp) x te) ∧
      (∀ z, foldedSetIterable it' X.env z = pure z) ∧ ∀ σ H Q, tN X.K X.mg W (evN T (.lc tg it cnd elt own)) σ H Q → tLc wi g tt te (own.map (·.2)) σ H Q := by
  simp only [matchN, asLc] at h
  simp only [Bool.and_eq_true, decide_eq_true_eq] at h
  obtain ⟨⟨⟨⟨hb, hsl⟩, ht⟩, hset⟩, ⟨hi, ⟨hc, hl⟩, hk⟩, he⟩ := h
  exact lcOk (cnd := cnd) (it := it) (elt := elt) G tk hb hsl ht hset hl (soundI it G tk hi)
    (fun s H C cl fp => soundE elt (G.blk s H s2 (compEnvC s2 cl C X.env) fp) takes0 (e := x) he)
    (fun c cs e1 hcc he1 s H C cl fp => by
      subst hcc
      subst he1
      simp only [matchEs, Bool.and_eq_true] at hc
      simp only [okTs, Bool.and_eq_true] at hk
      exact soundT c (G.blk s H s2 (compEnvC s2 cl C X.env) fp) takes0 (e := e1) hk.1 hc.1)
    (fun hn => by
      subst hn
      cases ifs with
      | nil => rfl
      | cons _ _ => simp [matchEs] at hc)
    (fun c cs hcc hn => by
      subst hcc
      subst hn
      simp [matchEs] at hc)
/-- name = [..], the value told -/
theorem asgUse {K : PySem.W.Frag} {mg : Str → Option Value} {W : WX} {D : Ends} {σ : L2.St} {H : Hp} {t : CT} {e : CE} (x : tS K mg W (evS T F (.asg t e)) D σ H) : tE K mg W (ev T e) σ H fun v H1 => gOf K t v σ H1 D.nx := by
  obtain ⟨μ, ρ, S, Y, r, re, f⟩ := x
  simp only [evS] at f
  exact sE_of r re f fun u S1 μ1 H1 v r1 re1 g1 ru f1 => by
    cases q : asgT t u ρ with
    | none => rw [q] at f1; exact f1.elim
    | some ρ' =>
      rw [q] at f1
      exact gOf_ok t ru re1 q fun σ' re' _ => Nx.here f1 r1 σ' re'
theorem hgOf {X : Cx} (G : GoodS X T) : ∀ x, Loc X.env.scope x → Loc X.env.scope x ∧ (X.fn x = true ∨ X.env.scope.names.lookup x = some .local) := fun x h => ⟨h, G.fn x h⟩
theorem ps_asgM {X : Cx} (G : GoodS X T) {W : WX} (tk : Takes X W) {t : CT} {e : CE} {tg v : Expr} {pos : Pos} (ht : matchT X.N X.env.scope t tg = true) (he : matchE X.N X.env.scope e v = true) (hb : asgB tg v = true) :
    PS X (.Assign [tg] v pos) (tS X.K X.mg W (evS T F (.asg t e))) :=
  PS.imp (ps_asg (soundE e G.toGood tk he) (pg_ok G.calm G.nd (hgOf G) t ht) ((asgB_ok hb).1 _) (asgB_ok hb).2 (by rw [asg_cons ht]; rfl)) fun D σ H x => asgUse x
theorem ps_setM {X : Cx} (G : GoodS X T) {W : WX} (tk : Takes X W) {t : CT} {e : CE} {y : Str} {p : Pos} {v : Expr} {pos : Pos} {x tg' it' : Expr} {ifs : List Expr} {s2 : Scope} (ht : matchT X.N X.env.scope t (.Name y p) = true) (he : matchE X.N X.env.scope e v = true)
    (hv : asLc v = some (x, tg', it', ifs, s2)) (hl : (isLcN e).isSome = true) (hb : swB X.env.scope s2 y p (posOf v) = true) : PS X (.Assign [.Name y p] v pos) (tS X.K X.mg W (evS T F (.asg t e))) := by
  obtain ⟨q, rfl⟩ := asLc_ok hv
  cases t with
  | tup ts => simp [matchT, asTup] at ht
  | name i =>
    have ht' : locB X.N X.env.scope i y = true := by simpa only [matchT, asName] using ht
    obtain ⟨h1, h2⟩ := locB_ok ht'
    have hyl : X.env.scope.names.lookup y = some .local := by
      unfold swB at hb
      simp only [Bool.and_eq_true] at hb
      exact eq_of_beq hb.1.1.2
    cases e <;> first | (simp [isLcN] at hl; done) | skip
    all_goals
      rename_i c
      cases c <;> first | (simp [isLcN] at hl; done) | skip
      simp only [matchE] at he
      obtain ⟨wi, g, tt, te, k1, k2, k3, k4, k5, k6, k7⟩ := lcUse G.toGood tk he
      refine PS.imp (ps_setLc G.calm G.nd h1 hyl (swB_ok hb) k1 k2 k3 k4 k5 k6) fun D σ H z => k7 σ H _ ?_
      have z' := asgUse z
      simp only [ev] at z'
      first | exact tN_tmp z' | exact tN_mk z'
theorem forUse {X : Cx} {W : WX} {src : Src} {J : It} {t : CT} {body : Rho → Sto → SR} {D : Ends} {Y : List Addr} {μ1 : Nat → Addr} {S1 : Sto} {H1 : Hp} {σ : L2.St} {ρ : Rho} (r : RS X.K X.mg μ1 S1 Y H1) (re : RE X.K X.mg μ1 S1.length Y H1 ρ σ) (hJ : SrcR X.K X.mg μ1 S1.length Y H1 src J) {m : Nat}
    (f : FinS X.K X.mg W D μ1 S1 Y H1 (forGo src t body m 0 ρ S1)) :
    ∃ V : Nat → Nat → L2.St → Hp → Prop, (∃ m, V 0 m σ H1) ∧ ∀ i m σ H, V i m σ H →
      (J.stop i H ∧ D.nx σ H) ∨ (J.go i H ∧ ∃ N : L2.St → Hp → Prop, (∀ σ' H', N σ' H' → ∃ m', m' < m ∧ V (i + 1) m' σ' H') ∧ ∀ x H', J.yld i H x H' → gOf X.K t x σ H' fun σ2 H2 => tS X.K X.mg W body { D with nx := N, ct := N, bk := D.nx } σ2 H2) := by
  refine ⟨fun i m σ H => ∃ μ ρ S, Gr μ1 S1.length H1 μ S.length H ∧ RS X.K X.mg μ S Y H ∧ RE X.K X.mg μ S.length Y H ρ σ ∧ FinS X.K X.mg W D μ S Y H (forGo src t body m i ρ S), ⟨m, μ1, ρ, S1, Gr.refl, r, re, f⟩, ?_⟩
  rintro i m σ H ⟨μ, ρ, S, g, r, re, f⟩
  obtain ⟨ustop, ugo⟩ := (hJ.mono g).use r i
  unfold forGo at f
  cases z : src.at_ S i with
  | none => rw [z] at f; exact f.elim
  | some o =>
    cases o with
    | none =>
      rw [z] at f
      exact .inl ⟨ustop z, Nx.here f r σ re⟩
    | some u =>
      rw [z] at f
      cases m with
      | zero => exact f.elim
      | succ m =>
        obtain ⟨hgo, hy⟩ := ugo u z
        simp only at f
        cases q : asgT t u ρ with
        | none => rw [q] at f; exact f.elim
        | some ρ' =>
          rw [q] at f
          refine .inr ⟨hgo, fun σ' H' => ∃ μ ρ S, Gr μ1 S1.length H1 μ S.length H' ∧ RS X.K X.mg μ S Y H' ∧ RE X.K X.mg μ S.length Y H' ρ σ' ∧ FinS X.K X.mg W D μ S Y H' (forGo src t body m (i + 1) ρ S), fun σ' H' n => ⟨m, Nat.lt_succ_self _, n⟩, fun x H' y => ?_⟩
          obtain ⟨g2, r2, ru⟩ := hy x H' y
          refine gOf_ok t ru (re.mono g2) q fun σ2 re2 _ => ⟨μ, ρ', S, Y, r2, re2, ?_⟩
          exact FinS.body (go := fun ρ S => forGo src t body m (i + 1) ρ S) (FinS.shift f g2) fun ρ3 S3 μ3 H3 σ3 g3 r3 re3 f3 => ⟨μ3, ρ3, S3, (g.trans g2 r2.inj).trans g3 r3.inj, r3, re3, f3⟩
theorem whUse {X : Cx} {W : WX} {test : Rho → Sto → Res U} {body : Rho → Sto → SR} {D : Ends} {Y : List Addr} {μ1 : Nat → Addr} {S1 : Sto} {H1 : Hp} {σ : L2.St} {ρ : Rho} (r : RS X.K X.mg μ1 S1 Y H1) (re : RE X.K X.mg μ1 S1.length Y H1 ρ σ) {m : Nat}
    (f : FinS X.K X.mg W D μ1 S1 Y H1 (whGo test body m ρ S1)) : tWhile (tT X.K X.mg W test) (tS X.K X.mg W body) D σ H1 := by
  refine ⟨fun m σ H => ∃ μ ρ S, RS X.K X.mg μ S Y H ∧ RE X.K X.mg μ S.length Y H ρ σ ∧ FinS X.K X.mg W D μ S Y H (whGo test body m ρ S), ⟨m, μ1, ρ, S1, r, re, f⟩, ?_⟩
  rintro m σ H ⟨μ, ρ, S, r, re, f⟩
  unfold whGo at f
  refine sT_of r re f fun u S2 μ2 H2 r2 re2 g2 f2 => ?_
  cases u with
  | bl b =>
    refine ⟨b, rfl, ?_⟩
    cases b with
    | false => exact iteF (Nx.here f2 r2 σ re2)
    | true =>
      refine iteT ?_
      cases m with
      | zero => exact f2.elim
      | succ m =>
        refine ⟨fun σ' H' => ∃ μ ρ S, RS X.K X.mg μ S Y H' ∧ RE X.K X.mg μ S.length Y H' ρ σ' ∧ FinS X.K X.mg W D μ S Y H' (whGo test body m ρ S), fun σ' H' n => ⟨m, Nat.lt_succ_self _, n⟩, ⟨μ2, ρ, S2, Y, r2, re2, ?_⟩⟩
        exact FinS.body (go := fun ρ S => whGo test body m ρ S) f2 fun ρ3 S3 μ3 H3 σ3 g3 r3 re3 f3 => ⟨μ3, ρ3, S3, r3, re3, f3⟩
  | _ => exact f2.elim
mutual
theorem soundS : ∀ (c : CS) {X : Cx} (_ : GoodS X T) {W : WX} (_ : Takes X W) {s : Stmt}, matchS X.N X.env.scope c s = true → PS X s (tS X.K X.mg W (evS T F c))
  | .asg t e, X, G, W, tk, s, h => by
    simp only [matchS] at h
    cases q : asAsg s with
    | none => rw [q] at h; cases h
    | some z =>
      obtain ⟨tg, v, pos⟩ := z
      rw [q] at h
      rw [asAsg_ok q]
      simp only [Bool.and_eq_true, Bool.or_eq_true] at h
      obtain ⟨⟨h1, h2⟩, h3⟩ := h
      rcases h3 with h3 | h3
      · exact ps_asgM G tk h1 h2 h3
      · cases k1 : asLc v with
        | none => rw [k1] at h3; cases h3
        | some a1 =>
          obtain ⟨x, tg', it', ifs, s2⟩ := a1
          rw [k1] at h3
          cases k2 : nmOf tg with
          | none => rw [k2] at h3; cases h3
          | some a2 =>
            obtain ⟨y, p⟩ := a2
            rw [k2] at h3
            cases k3 : isLcN e with
            | none => rw [k3] at h3; cases h3
            | some a3 =>
              rw [k3] at h3
              have := nmOf_ok k2
              subst this
              exact ps_setM G tk h1 h2 k1 (by rw [k3]; rfl) h3
  | .par i j a b, X, G, W, tk, s, h => by
    simp only [matchS] at h
    cases q : asAsg s with
    | none => rw [q] at h; cases h
    | some z =>
      obtain ⟨tg, v, pos⟩ := z
      rw [q] at h
      rw [asAsg_ok q]
      cases q2 : asPar tg v with
      | none => simp only [q2] at h; cases h
      | some z2 =>
        obtain ⟨x, px, y, py, k, p, a', b', k2, p2⟩ := z2
        simp only [q2, Bool.and_eq_true] at h
        obtain ⟨rfl, rfl⟩ := asPar_ok q2
        obtain ⟨⟨⟨h1, h2⟩, h3⟩, h4, h5⟩ := h
        have hw := sw_par (k := k) (p := p) (k2 := k2) (p2 := p2) h3
        unfold parB at h3
        simp only [Bool.and_eq_true, Bool.not_eq_true'] at h3
        obtain ⟨⟨⟨⟨⟨⟨⟨⟨_, l1⟩, l2⟩, _⟩, l5⟩, l6⟩, l7⟩, _⟩, _⟩ := h3
        have i1 := (locB_ok h1).1
        have i2 := (locB_ok h2).1
        have hij : i ≠ j := fun e => by
          subst e
          rw [i1] at i2
          cases i2
          simp at l5
        refine PS.imp (ps_par G.calm G.nd i1 i2 hij (eq_of_beq l1) (eq_of_beq l2) (pa_cons (soundE a G.toGood tk h4) (pa_cons (soundE b G.toGood tk h5) pa_nil (star_cons l7)) (star_cons l6)) hw rfl) fun D σ H ⟨μ, ρ, S, Y, r, re, f⟩ => ?_
        simp only [evS] at f
        exact sE_of r re f fun u S1 μ1 H1 v1 r1 re1 g1 ru f1 => sE_of r1 re1 f1 fun w S2 μ2 H2 v2 r2 re2 g2 rw' f2 => ⟨v1, v2, rfl, Nx.here f2 r2 _ ((re2.set i (ru.mono g2)).set j rw')⟩
  | .setI o i e, X, G, W, tk, s, h => by
    simp only [matchS] at h
    cases q : asAsg s with
    | none => rw [q] at h; cases h
    | some z =>
      obtain ⟨tg, v, pos⟩ := z
      rw [q] at h
      rw [asAsg_ok q]
      cases q2 : asSub tg with
      | none => simp only [q2] at h; cases h
      | some z2 =>
        obtain ⟨p, ix⟩ := z2
        simp only [q2, Bool.and_eq_true] at h
        obtain ⟨pos2, rfl⟩ := asSub_ok q2
        obtain ⟨⟨h1, h2⟩, h3, h4, h5⟩ := h
        refine PS.imp (ps_asg (soundE e G.toGood tk h5) (pg_sub (soundE o G.toGood tk h3) (soundE i G.toGood tk h4) set_list (by cases ix <;> first | (cases h2; done) | (intro _; rfl))) ((asgB_ok h1).1 _) (asgB_ok h1).2 rfl) fun D σ H ⟨μ, ρ, S, Y, r, re, f⟩ => ?_
        simp only [evS] at f
        refine sE_of r re f fun w S1 μ1 H1 v1 r1 re1 g1 rw1 f1 => sE_of r1 re1 f1 fun u S2 μ2 H2 v2 r2 re2 g2 ru f2 => sE_of r2 re2 f2 fun z S3 μ3 H3 v3 r3 re3 g3 rz f3 => ?_
        cases u <;> first | exact f3.elim | skip
        cases z <;> first | exact f3.elim | skip
        rename_i k n
        simp only at f3
        cases e1 : S3[k]? with
        | none => rw [e1] at f3; exact f3.elim
        | some so =>
          rw [e1] at f3
          cases so with
          | lst us =>
            simp only at f3
            cases e2 : ixN us.length n with
            | none => rw [e2] at f3; exact f3.elim
            | some jj =>
              rw [e2] at f3
              cases ru with
              | obj hk ha =>
                cases rz
                obtain ⟨vs, hv, rv⟩ := r3.at_ k _ e1
                subst ha
                have hk3 : k < S3.length := Nat.lt_of_lt_of_le hk g3.le
                rw [← g3.at_ k hk]
                have rw3 := (rw1.mono g2).mono g3
                refine ⟨_, vs, n, jj, rfl, rfl, hv, by rw [← rv.length]; exact e2, ?_⟩
                exact f3 μ3 _ (by rw [List.length_set]; exact Gr.write r3 hk3) (r3.write hk3 ⟨_, upd_same, (rv.set rw3 jj).mono (Gr.write r3 hk3)⟩) σ (by rw [List.length_set]; exact re3.mono (Gr.write r3 hk3))
          | _ => exact f3.elim
  | .app o e, X, G, W, tk, s, h => by
    simp only [matchS] at h
    cases q : asSt s with
    | none => rw [q] at h; cases h
    | some x =>
      rw [q] at h
      obtain ⟨pos, rfl⟩ := asSt_ok q
      cases q2 : asApp x with
      | none => simp only [q2] at h; cases h
      | some z2 =>
        obtain ⟨p, q', p1, p2⟩ := z2
        simp only [q2, Bool.and_eq_true] at h
        rw [asApp_ok q2]
        obtain ⟨⟨⟨h1, h2⟩, h3⟩, h4, h5⟩ := h
        have hst : starEach [q'] X.env = [(false, eval q' X.env)] := star_cons h2
        refine PS.imp (ps_expr (pe_bm PySem.F.plainAttrs_list PySem.F.slot_list_append PySem.F.type_list_append mt_append (soundE o G.toGood tk h4) (pa_cons (soundE e G.toGood tk h5) pa_nil hst) (attr_plain h1) (by rw [hst]; rfl) h3 hst rfl) rfl) fun D σ H ⟨μ, ρ, S, Y, r, re, f⟩ => ?_
        simp only [evS] at f
        refine sE_of r re f fun u S1 μ1 H1 v1 r1 re1 g1 ru f1 => ?_
        cases e0 : lstOf S1 u with
        | none => rw [if_neg (by rw [e0]; decide)] at f1; exact f1.elim
        | some us0 =>
          rw [if_pos (by rw [e0]; rfl)] at f1
          obtain ⟨a', vs0, rfl, k1, k2⟩ := lstOf_sq r1 ru e0
          refine ⟨.inl ⟨rfl, vs0, k1⟩, sE_of r1 re1 f1 fun w S2 μ2 H2 v2 r2 re2 g2 rw2 f2 => ?_⟩
          cases u <;> first | exact f2.elim | skip
          rename_i k
          simp only at f2
          cases e1 : S2[k]? with
          | none => rw [e1] at f2; exact f2.elim
          | some so =>
            rw [e1] at f2
            cases so with
            | lst us =>
              simp only at f2
              by_cases hz : us.length < sizeLine
              · rw [if_pos hz] at f2
                cases ru with
                | obj hk ha =>
                  obtain ⟨vs, hv, rv⟩ := r2.at_ k _ e1
                  subst ha
                  have hk3 : k < S2.length := Nat.lt_of_lt_of_le hk g2.le
                  rw [← g2.at_ k hk]
                  refine ⟨_, vs, v2, rfl, rfl, hv, by rw [← rv.length]; exact hz, ?_⟩
                  exact f2 μ2 _ (by rw [List.length_set]; exact Gr.write r2 hk3) (r2.write hk3 ⟨_, upd_same, (rv.append (.cons rw2 .nil)).mono (Gr.write r2 hk3)⟩) σ (by rw [List.length_set]; exact re2.mono (Gr.write r2 hk3))
              · rw [if_neg hz] at f2; exact f2.elim
            | _ => exact f2.elim
  | .expr e, X, G, W, tk, s, h => by
    simp only [matchS] at h
    cases q : asSt s with
    | none => rw [q] at h; cases h
    | some x =>
      rw [q] at h
      obtain ⟨pos, rfl⟩ := asSt_ok q
      simp only [Bool.and_eq_true] at h
      refine PS.imp (ps_expr (soundE e G.toGood tk h.2) (swith_false h.1)) fun D σ H ⟨μ, ρ, S, Y, r, re, f⟩ => ?_
      simp only [evS] at f
      exact sE_of r re f fun u S1 μ1 H1 v1 r1 re1 g1 ru f1 => Nx.here f1 r1 σ re1
  | .ret e, X, G, W, tk, s, h => by
    simp only [matchS] at h
    cases q : asRet s with
    | none => rw [q] at h; cases h
    | some x =>
      rw [q] at h
      obtain ⟨pos, rfl⟩ := asRet_ok q
      cases x with
      | none => cases h
      | some x =>
        refine PS.imp (ps_ret (soundE e G.toGood tk h)) fun D σ H ⟨μ, ρ, S, Y, r, re, f⟩ => ?_
        simp only [evS] at f
        exact sE_of r re f fun u S1 μ1 H1 v1 r1 re1 g1 ru f1 => Nx.here f1 r1 v1 ru
  | .ret0, X, G, W, tk, s, h => by
    simp only [matchS] at h
    cases q : asRet s with
    | none => rw [q] at h; cases h
    | some x =>
      rw [q] at h
      obtain ⟨pos, rfl⟩ := asRet_ok q
      cases x with
      | some x => cases h
      | none =>
        refine PS.imp ps_retN fun D σ H ⟨μ, ρ, S, Y, r, re, f⟩ => ?_
        simp only [evS] at f
        exact Nx.here f r .non .non
  | .ite t a b, X, G, W, tk, s, h => by
    simp only [matchS] at h
    cases q : asIfS s with
    | none => rw [q] at h; cases h
    | some z =>
      obtain ⟨c, p, q'⟩ := z
      rw [q] at h
      obtain ⟨pos, rfl⟩ := asIfS_ok q
      simp only [Bool.and_eq_true] at h
      obtain ⟨⟨h1, h2⟩, h3, h4⟩ := h
      refine PS.imp (ps_if (soundT t G.toGood tk h1 h2) (soundSs a G tk h3) (soundSs b G tk h4)) fun D σ H ⟨μ, ρ, S, Y, r, re, f⟩ => ?_
      simp only [evS] at f
      refine sT_of r re f fun u S1 μ1 H1 r1 re1 g1 f1 => ?_
      cases u with
      | bl b0 =>
        refine ⟨b0, rfl, ?_⟩
        cases b0 with
        | true => exact iteT ⟨μ1, ρ, S1, Y, r1, re1, f1⟩
        | false => exact iteF ⟨μ1, ρ, S1, Y, r1, re1, f1⟩
      | _ => exact f1.elim
  | .for_ t it b, X, G, W, tk, s, h => by
    simp only [matchS] at h
    cases q : asFor s with
    | none => rw [q] at h; cases h
    | some z =>
      obtain ⟨tg, x, bd⟩ := z
      rw [q] at h
      obtain ⟨pos, rfl⟩ := asFor_ok q
      simp only [Bool.and_eq_true] at h
      obtain ⟨⟨h1, h2⟩, h3, h4⟩ := h
      refine PS.imp (ps_for G.own G.calm (soundI it G.toGood tk h3) (pg_ok G.calm G.nd (hgOf G) t h1) (soundSs b G tk h4) (by intro z; cases x <;> first | rfl | cases h2)) fun D σ H ⟨μ, ρ, S, Y, r, re, f⟩ => ?_
      simp only [evS] at f
      exact ⟨μ, ρ, S, Y, r, re, (FinS.toS re f).imp fun src S1 μ1 H1 g1 r1 f1 J hJ => forUse r1 (re.mono g1) hJ f1⟩
  | .whl t b, X, G, W, tk, s, h => by
    simp only [matchS] at h
    cases q : asWh s with
    | none => rw [q] at h; cases h
    | some z =>
      obtain ⟨c, bd⟩ := z
      rw [q] at h
      obtain ⟨pos, rfl⟩ := asWh_ok q
      simp only [Bool.and_eq_true] at h
      obtain ⟨⟨h1, h2⟩, h3⟩ := h
      refine PS.imp (ps_while G.own (soundT t G.toGood tk h1 h2) (soundSs b G tk h3)) fun D σ H ⟨μ, ρ, S, Y, r, re, f⟩ => ?_
      simp only [evS] at f
      exact whUse r re f
  | .brk, X, G, W, tk, s, h => by
    simp only [matchS] at h
    obtain ⟨pos, rfl⟩ := isBrk_ok h
    refine PS.imp ps_break fun D σ H ⟨μ, ρ, S, Y, r, re, f⟩ => ?_
    simp only [evS] at f
    exact Nx.here f r σ re
  | .cnt, X, G, W, tk, s, h => by
    simp only [matchS] at h
    obtain ⟨pos, rfl⟩ := isCnt_ok h
    refine PS.imp ps_continue fun D σ H ⟨μ, ρ, S, Y, r, re, f⟩ => ?_
    simp only [evS] at f
    exact Nx.here f r σ re
  | .pass, X, G, W, tk, s, h => by
    simp only [matchS] at h
    obtain ⟨pos, rfl⟩ := isPass_ok h
    refine PS.imp ps_pass fun D σ H ⟨μ, ρ, S, Y, r, re, f⟩ => ?_
    simp only [evS] at f
    exact Nx.here f r σ re
  | .nope, X, G, W, tk, s, h => PS.false fun D σ H ⟨μ, ρ, S, Y, r, re, f⟩ => by simp only [evS] at f; exact f
  | .tryT b, X, G, W, tk, s, h => by
    simp only [matchS] at h
    cases q : asTry s with
    | none => rw [q] at h; cases h
    | some bd =>
      rw [q] at h
      obtain ⟨h0, hs, pos, rfl⟩ := asTry_ok q
      have G' : GoodS X.nox T := ⟨⟨G.calm, G.units, G.gu, G.nd, G.free, G.gl, G.dct, G.err, G.tab⟩, PassesOwn.never, G.fn, G.exn, G.stk, G.frm⟩
      refine PS.imp (ps_try_thru0 (soundSs b G' (W := fun _ _ _ _ => False) takes0 h)) fun D σ H ⟨μ, ρ, S, Y, r, re, f⟩ => ⟨μ, ρ, S, Y, r, re, ?_⟩
      simp only [evS] at f
      cases z : evSs T F b ρ S <;> rw [z] at f <;> first | exact f.elim | exact f
  | .setF C fl o e, X, G, W, tk, s, h => by
    simp only [matchS] at h
    cases q : asAsg s with
    | none => rw [q] at h; cases h
    | some z =>
      obtain ⟨tg, v, pos⟩ := z
      rw [q] at h
      rw [asAsg_ok q]
      cases q2 : asAttr tg with
      | none => simp only [q2] at h; cases h
      | some z2 =>
        obtain ⟨p, g⟩ := z2
        simp only [q2, Bool.and_eq_true, decide_eq_true_eq] at h
        obtain ⟨pos2, rfl⟩ := asAttr_ok q2
        obtain ⟨⟨⟨rfl, h1⟩, h2⟩, h3, h4⟩ := h
        refine PS.imp (ps_fld (soundE o G.toGood tk h3) (soundE e G.toGood tk h4) (swith_false h1)) fun D σ H ⟨μ, ρ, S, Y, r, re, f⟩ => ?_
        simp only [evS] at f
        refine sE_of r re f fun w S1 μ1 H1 v1 r1 re1 g1 rw1 f1 => sE_of r1 re1 f1 fun u S2 μ2 H2 v2 r2 re2 g2 ru f2 => ?_
        cases u <;> first | exact f2.elim | skip
        rename_i k
        simp only at f2
        cases e1 : S2[k]? with
        | none => rw [e1] at f2; exact f2.elim
        | some so =>
          rw [e1] at f2
          cases so with
          | ins D' fs =>
            simp only at f2
            by_cases hz : D' = C ∧ T.fldB C g = true ∧ fs.length < 1000
            · rw [if_pos hz] at f2
              obtain ⟨rfl, hf, hl⟩ := hz
              obtain ⟨c, m1, m2, m3⟩ := G.err.fld _ _ hf
              cases ru with
              | obj hk ha =>
                obtain ⟨c', dx, vs, gC, hv, rf, hd⟩ := r2.at_ k _ e1
                rw [m1] at gC
                cases gC
                subst ha
                refine ⟨_, _, dx, vs, rfl, hv, m2, m3, by rw [← rf.len]; exact hl, ?_⟩
                have hdx : dx ≠ μ2 k := fun q => by rw [q, hv] at hd; cases hd
                exact f2 μ2 _ (by rw [List.length_set]; exact Gr.write r2 hk) (r2.write hk ⟨_, dx, _, m1, upd_same, (rf.put (rw1.mono g2)).mono (Gr.write r2 hk), by rw [upd_ne hdx]; exact hd⟩) σ (by rw [List.length_set]; exact re2.mono (Gr.write r2 hk))
            · rw [if_neg hz] at f2; exact f2.elim
          | _ => exact f2.elim
  | .raise C, X, G, W, tk, s, h => by
    simp only [matchS] at h
    cases q : asRaise s with
    | none => rw [q] at h; cases h
    | some x =>
      rw [q] at h
      simp only [Bool.and_eq_true, decide_eq_true_eq] at h
      obtain ⟨p, m, j, p2, p3, p4, rfl⟩ := asRaise_ok q
      obtain ⟨rfl, hg⟩ := h
      obtain ⟨h1, h2⟩ := glB_ok hg
      cases hc : T.excB x with
      | false =>
        refine PS.false fun D σ H ⟨μ, ρ, S, Y, r, re, f⟩ => ?_
        simp only [evS, hc] at f
        exact f
      | true =>
        obtain ⟨c, m1, m2, m3, m4, m5⟩ := G.err.make x hc
        refine PS.imp (ps_raise G.calm tk (pmk_own PySem.F.excBase_ValueError m2 m1 m3 (raises_own m4 m5) h1 h2)) fun D σ H ⟨μ, ρ, S, Y, r, re, f⟩ => ?_
        simp only [evS, hc, if_true] at f
        exact Nx.here f r σ _ _ re ⟨c, m1, rfl, rfl⟩
  | .tryA b C i j, X, G, W, tk, s, h => by
    simp only [matchS] at h
    cases q : asTryA s with
    | none => rw [q] at h; cases h
    | some z =>
      obtain ⟨bd, x, n, m⟩ := z
      rw [q] at h
      simp only [Bool.and_eq_true, decide_eq_true_eq, Bool.not_eq_true'] at h
      obtain ⟨np, p1, p2, p3, pos', pos, rfl⟩ := asTryA_ok q
      obtain ⟨⟨⟨⟨⟨rfl, hg⟩, ⟨⟨hi, hil⟩, hd⟩, hcd⟩, hj, hjl⟩, hij⟩, hb⟩ := h
      cases hc : T.clsB x with
      | false =>
        refine PS.false fun D σ H ⟨μ, ρ, S, Y, r, re, f⟩ => ?_
        simp only [evS, hc] at f
        exact f
      | true =>
        obtain ⟨v, cv, hcv⟩ := G.err.cls x hc
        obtain ⟨h1, h2⟩ := glB_ok hg
        have hn : Names X x cv := by
          rcases hcv with ⟨c, k1, k2, k3⟩ | ⟨t, k1, k2, k3, k4, k5⟩
          · subst k3; exact ⟨h1, h2, .inl k1⟩
          · subst k5; exact ⟨h1, h2, .inr ⟨k1, k2, k3⟩⟩
        refine PS.imp (ZC.ps_try_got (tb := fun W' => tS X.K X.mg W' (evSs T F b)) G.stk G.frm G.exn G.nd (locB_ok hi).1 (eq_of_beq hil) (locB_ok hj).1 (eq_of_beq hjl) hij hd hcd hn tk fun W' pn xe tk' ow => ?_) fun D σ H ⟨μ, ρ, S, Y, r, re, f⟩ => ?_
        · have G' : GoodS (X.tr pn xe) T := ⟨⟨G.calm, G.units, G.gu, G.nd, G.free, G.gl, G.dct, G.err, G.tab⟩, ow, G.fn, G.exn, G.stk, G.frm⟩
          exact soundSs b G' tk' hb
        · refine ⟨μ, ρ, S, Y, r, re, ?_⟩
          simp only [evS, hc, if_true] at f
          cases z : evSs T F b ρ S with
          | ex y ρ1 S1 =>
            rw [z] at f
            simp only at f
            by_cases hy : y.2 = none
            · rw [if_pos hy] at f
              obtain ⟨y1, y2⟩ := y
              simp only at hy f
              subst hy
              intro μ1 H1 g1 r1 σ1 cls d re1 rx
              obtain ⟨c1, k1, k2, k3⟩ := rx
              simp only at k1 k3
              subst k2
              subst k3
              cases e1 : T.sub y1 x with
              | none => rw [e1] at f; exact f.elim
              | some b0 =>
                rw [e1] at f
                obtain ⟨c2, k4, k5, k6⟩ := G.err.sub y1 x b0 e1
                rw [k1] at k4
                cases k4
                refine ⟨b0, (k6 v cv hcv).2, fun hb0 a ha => ?_, fun hb0 => ?_⟩
                · subst hb0
                  have gr : Gr μ1 S1.length H1 μ1 S1.length (upd H1 a (ZC.ExC (.ref c1) none a)) := Gr.fresh r1 ha
                  refine f μ1 _ (g1.trans gr r1.inj) (r1.fresh ha) _ (((re1.mono gr).set j (.exc k1 upd_same (fun i hi q => r1.off ha i hi q.symm) (fun hY => (r1.res a hY).1 ha))).wipe1 i)
                · subst hb0
                  exact f μ1 H1 g1 r1 σ1 _ _ re1 ⟨c1, k1, rfl, rfl⟩
            · rw [if_neg hy] at f; exact f.elim
          | nx ρ1 S1 => rw [z] at f; exact f
          | bk ρ1 S1 => rw [z] at f; exact f
          | ct ρ1 S1 => rw [z] at f; exact f
          | rt u S1 => rw [z] at f; exact f
          | no => rw [z] at f; exact f
  | .ins o i e, X, G, W, tk, s, h => by
    simp only [matchS] at h
    cases q : asSt s with
    | none => rw [q] at h; cases h
    | some x =>
      rw [q] at h
      obtain ⟨pos, rfl⟩ := asSt_ok q
      simp only at h
      cases q2 : asMeth x with
      | none => simp only [q2] at h; cases h
      | some z2 =>
        obtain ⟨p, g, es, kvs, p1, p2⟩ := z2
        rw [q2] at h
        rcases es with _ | ⟨q', _ | ⟨r', _ | ⟨q3, es⟩⟩⟩ <;> first | (cases h; done) | skip
        rcases kvs with _ | ⟨kv, kvs⟩ <;> first | (cases h; done) | skip
        simp only [Bool.and_eq_true, decide_eq_true_eq] at h
        rw [asMeth_ok q2]
        obtain ⟨⟨⟨⟨⟨rfl, h1⟩, h2⟩, h2'⟩, h3⟩, h4, h5, h6⟩ := h
        have hs1 : starEach [r'] X.env = [(false, eval r' X.env)] := star_cons h2'
        have hst : starEach [q', r'] X.env = (false, eval q' X.env) :: starEach [r'] X.env := star_cons h2
        refine PS.imp (ps_expr (pe_bm PySem.F.plainAttrs_list PySem.F.slot_list_insert PySem.F.type_list_insert mt_insert (soundE o G.toGood tk h4) (pa_cons (soundE i G.toGood tk h5) (pa_cons (soundE e G.toGood tk h6) pa_nil hs1) hst) (attr_plain h1) (by rw [hst, hs1]; rfl) h3 hst (by rw [hs1]; rfl)) rfl) fun D σ H ⟨μ, ρ, S, Y, r, re, f⟩ => ?_
        simp only [evS] at f
        refine sE_of r re f fun u S1 μ1 H1 v1 r1 re1 g1 ru f1 => ?_
        cases e0 : lstOf S1 u with
        | none => rw [if_neg (by rw [e0]; decide)] at f1; exact f1.elim
        | some us0 =>
          rw [if_pos (by rw [e0]; rfl)] at f1
          obtain ⟨a', vs0, rfl, k1, k2⟩ := lstOf_sq r1 ru e0
          refine ⟨.inl ⟨rfl, vs0, k1⟩, sE_of r1 re1 f1 fun z S2 μ2 H2 v2 r2 re2 g2 rz f2 => sE_of r2 re2 f2 fun w S3 μ3 H3 v3 r3 re3 g3 rw3 f3 => ?_⟩
          cases u <;> first | exact f3.elim | skip
          rename_i k
          cases z <;> first | exact f3.elim | skip
          rename_i n
          simp only at f3
          cases e1 : S3[k]? with
          | none => rw [e1] at f3; exact f3.elim
          | some so =>
            rw [e1] at f3
            cases so with
            | lst us =>
              simp only at f3
              by_cases hz : 0 ≤ n ∧ n < 2 ^ 62 ∧ us.length < sizeLine
              · rw [if_pos hz] at f3
                cases ru with
                | obj hk ha =>
                  cases rz
                  obtain ⟨vs, hv, rv⟩ := r3.at_ k _ e1
                  subst ha
                  have hk3 : k < S3.length := Nat.lt_of_lt_of_le hk (Nat.le_trans g2.le g3.le)
                  rw [← g2.at_ k hk, ← g3.at_ k (Nat.lt_of_lt_of_le hk g2.le)]
                  refine ⟨_, vs, n, v3, rfl, rfl, hv, by rw [← rv.length]; exact hz.2.2, hz.1, by have := hz.2.1; omega, ?_⟩
                  exact f3 μ3 _ (by rw [List.length_set]; exact Gr.write r3 hk3) (r3.write hk3 ⟨_, upd_same, (((rv.take n.toNat).append (.cons rw3 .nil)).append (rv.drop n.toNat)).mono (Gr.write r3 hk3)⟩) σ (by rw [List.length_set]; exact re3.mono (Gr.write r3 hk3))
              · rw [if_neg hz] at f3; exact f3.elim
            | _ => exact f3.elim
  | .popS o i, X, G, W, tk, s, h => by
    simp only [matchS] at h
    cases q : asSt s with
    | none => rw [q] at h; cases h
    | some x =>
      rw [q] at h
      obtain ⟨pos, rfl⟩ := asSt_ok q
      simp only at h
      cases q2 : asMeth x with
      | none => simp only [q2] at h; cases h
      | some z2 =>
        obtain ⟨p, g, es, kvs, p1, p2⟩ := z2
        rw [q2] at h
        rcases es with _ | ⟨q', _ | ⟨r', es⟩⟩ <;> first | (cases h; done) | skip
        rcases kvs with _ | ⟨kv, kvs⟩ <;> first | (cases h; done) | skip
        simp only [Bool.and_eq_true, decide_eq_true_eq] at h
        rw [asMeth_ok q2]
        obtain ⟨⟨⟨⟨rfl, h1⟩, h2⟩, h3⟩, h4, h5⟩ := h
        have hst : starEach [q'] X.env = [(false, eval q' X.env)] := star_cons h2
        refine PS.imp (ps_expr (pe_bm PySem.F.plainAttrs_list PySem.F.slot_list_pop PySem.F.type_list_pop mt_popAt (soundE o G.toGood tk h4) (pa_cons (soundE i G.toGood tk h5) pa_nil hst) (attr_plain h1) (by rw [hst]; rfl) h3 hst rfl) rfl) fun D σ H ⟨μ, ρ, S, Y, r, re, f⟩ => ?_
        simp only [evS] at f
        refine sE_of r re f fun u S1 μ1 H1 v1 r1 re1 g1 ru f1 => ?_
        cases e0 : lstOf S1 u with
        | none => rw [if_neg (by rw [e0]; decide)] at f1; exact f1.elim
        | some us0 =>
          rw [if_pos (by rw [e0]; rfl)] at f1
          obtain ⟨a', vs0, rfl, k1, k2⟩ := lstOf_sq r1 ru e0
          refine ⟨.inl ⟨rfl, vs0, k1⟩, sE_of r1 re1 f1 fun z S2 μ2 H2 v2 r2 re2 g2 rz f2 => ?_⟩
          cases u <;> first | exact f2.elim | skip
          rename_i k
          cases z <;> first | exact f2.elim | skip
          rename_i n
          simp only at f2
          cases e1 : S2[k]? with
          | none => rw [e1] at f2; exact f2.elim
          | some so =>
            rw [e1] at f2
            cases so with
            | lst us =>
              simp only at f2
              cases e2 : seqIndex? n us.length with
              | none => rw [e2] at f2; exact f2.elim
              | some jj =>
                rw [e2] at f2
                simp only at f2
                by_cases hz : -(2 ^ 62) ≤ n ∧ n < 2 ^ 62
                · rw [if_pos hz] at f2
                  cases ru with
                  | obj hk ha =>
                    cases rz
                    obtain ⟨vs, hv, rv⟩ := r2.at_ k _ e1
                    subst ha
                    have hk3 : k < S2.length := Nat.lt_of_lt_of_le hk g2.le
                    rw [← g2.at_ k hk]
                    have hj : jj < us.length := by
                      unfold seqIndex? at e2
                      generalize (if n < 0 then n + (us.length : Int) else n) = jv at e2
                      simp only [Option.ite_none_right_eq_some, Bool.and_eq_true, decide_eq_true_eq, Option.some.injEq] at e2
                      obtain ⟨hh, rfl⟩ := e2
                      omega
                    obtain ⟨y, hy, _⟩ := rv.get (List.getElem?_eq_getElem hj)
                    refine ⟨_, vs, n, jj, y, rfl, rfl, hv, by omega, by omega, by rw [← rv.length]; exact e2, hy, ?_⟩
                    exact f2 μ2 _ (by rw [List.length_set]; exact Gr.write r2 hk3) (r2.write hk3 ⟨_, upd_same, (rv.erase jj).mono (Gr.write r2 hk3)⟩) σ (by rw [List.length_set]; exact re2.mono (Gr.write r2 hk3))
                · rw [if_neg hz] at f2; exact f2.elim
            | _ => exact f2.elim
  | .ext o e, X, G, W, tk, s, h => by
    simp only [matchS] at h
    cases q : asSt s with
    | none => rw [q] at h; cases h
    | some x =>
      rw [q] at h
      obtain ⟨pos, rfl⟩ := asSt_ok q
      simp only at h
      cases q2 : asMeth x with
      | none => simp only [q2] at h; cases h
      | some z2 =>
        obtain ⟨p, g, es, kvs, p1, p2⟩ := z2
        rw [q2] at h
        rcases es with _ | ⟨q', _ | ⟨r', es⟩⟩ <;> first | (cases h; done) | skip
        rcases kvs with _ | ⟨kv, kvs⟩ <;> first | (cases h; done) | skip
        simp only [Bool.and_eq_true, decide_eq_true_eq] at h
        rw [asMeth_ok q2]
        obtain ⟨⟨⟨⟨rfl, h1⟩, h2⟩, h3⟩, h4, h5⟩ := h
        have hst : starEach [q'] X.env = [(false, eval q' X.env)] := star_cons h2
        refine PS.imp (ps_expr (pe_bm PySem.F.plainAttrs_list PySem.F.slot_list_extend PySem.F.type_list_extend mt_extend (soundE o G.toGood tk h4) (pa_cons (soundE e G.toGood tk h5) pa_nil hst) (attr_plain h1) (by rw [hst]; rfl) h3 hst rfl) rfl) fun D σ H ⟨μ, ρ, S, Y, r, re, f⟩ => ?_
        simp only [evS] at f
        refine sE_of r re f fun u S1 μ1 H1 v1 r1 re1 g1 ru f1 => ?_
        cases e0 : lstOf S1 u with
        | none => rw [if_neg (by rw [e0]; decide)] at f1; exact f1.elim
        | some us0 =>
          rw [if_pos (by rw [e0]; rfl)] at f1
          obtain ⟨a', vs0, rfl, k1, k2⟩ := lstOf_sq r1 ru e0
          refine ⟨.inl ⟨rfl, vs0, k1⟩, sE_of r1 re1 f1 fun w S2 μ2 H2 v2 r2 re2 g2 rw2 f2 => ?_⟩
          cases u <;> first | exact f2.elim | skip
          rename_i k
          simp only at f2
          cases e1 : S2[k]? with
          | none => rw [e1] at f2; exact f2.elim
          | some so =>
            cases e3 : lstH S2 w with
            | none => rw [e1, e3] at f2; cases so <;> exact f2.elim
            | some ws =>
              rw [e1, e3] at f2
              cases so with
              | lst us =>
                simp only at f2
                by_cases hz : us.length + ws.length ≤ sizeLine
                · rw [if_pos hz] at f2
                  cases ru with
                  | obj hk ha =>
                    obtain ⟨vs, hv, rv⟩ := r2.at_ k _ e1
                    obtain ⟨b', zs, rfl, z1, z2⟩ := lstH_sq r2 rw2 e3
                    subst ha
                    have hk3 : k < S2.length := Nat.lt_of_lt_of_le hk g2.le
                    rw [← g2.at_ k hk]
                    refine ⟨_, b', vs, zs, rfl, rfl, hv, z1, by rw [← rv.length, ← z2.length]; exact hz, ?_⟩
                    exact f2 μ2 _ (by rw [List.length_set]; exact Gr.write r2 hk3) (r2.write hk3 ⟨_, upd_same, (rv.append z2).mono (Gr.write r2 hk3)⟩) σ (by rw [List.length_set]; exact re2.mono (Gr.write r2 hk3))
                · rw [if_neg hz] at f2; exact f2.elim
              | _ => exact f2.elim
theorem soundSs : ∀ (cs : CSs) {X : Cx} (_ : GoodS X T) {W : WX} (_ : Takes X W) {ss : List Stmt}, matchSs X.N X.env.scope cs ss = true → PSs X ss (tS X.K X.mg W (evSs T F cs))
  | .nil, X, G, W, tk, ss, h => by
    simp only [matchSs] at h
    cases ss with
    | cons _ _ => cases h
    | nil =>
      refine PSs.imp pss_nil fun D σ H ⟨μ, ρ, S, Y, r, re, f⟩ => ?_
      simp only [evSs] at f
      exact Nx.here f r σ re
  | .cons c cs, X, G, W, tk, ss, h => by
    simp only [matchSs] at h
    cases ss with
    | nil => cases h
    | cons s ss =>
      simp only [Bool.and_eq_true] at h
      refine PSs.imp (pss_cons (soundS c G tk h.1) (soundSs cs G tk h.2)) fun D σ H ⟨μ, ρ, S, Y, r, re, f⟩ => ?_
      simp only [evSs] at f
      exact ⟨μ, ρ, S, Y, r, re, f.seq⟩
end
end
end Z

set_option Elab.async false
set_option linter.all false
set_option maxRecDepth 100000
set_option maxHeartbeats 3200000
/-! Z13: a def of the text by what its body in short comes to. -/
namespace Z
open PySem PySem.Spec PyProof.Rows L2 RZ
/-! ### a value with the things from m on told as their items -/
section
variable (S1 : Sto) (m : Nat)
mutual
inductive Low : U → U → Prop
  | non : Low .non .non
  | bl (b : Bool) : Low (.bl b) (.bl b)
  | int (i : Int) : Low (.int i) (.int i)
  | str (x : Str) : Low (.str x) (.str x)
  | fn (x : Str) : Low (.fn x) (.fn x)
  | exc (x : Str) : Low (.exc x) (.exc x)
  | tup {us ws : List U} : Lows us ws → Low (.tup us) (.tup ws)
  | tl {us ws : List U} : Lows us ws → Low (.tl us) (.tl ws)
  | rl {us ws : List U} : Lows us ws → Low (.rl us) (.rl ws)
  | obj {k : Nat} : k < m → Low (.obj k) (.obj k)
  | cut {k : Nat} {us ws : List U} : S1[k]? = some (.lst us) → m ≤ k → Lows us ws → Low (.obj k) (.tl ws)
inductive Lows : List U → List U → Prop
  | nil : Lows [] []
  | cons {u w : U} {us ws : List U} : Low u w → Lows us ws → Lows (u :: us) (w :: ws)
end
inductive LowF : List (Str × U) → List (Str × U) → Prop
  | nil : LowF [] []
  | cons {k : Str} {u w : U} {us ws : List (Str × U)} : Low S1 m u w → LowF us ws → LowF ((k, u) :: us) ((k, w) :: ws)
inductive LowK : List (Key × U) → List (Key × U) → Prop
  | nil : LowK [] []
  | cons {k : Key} {u w : U} {us ws : List (Key × U)} : Low S1 m u w → LowK us ws → LowK ((k, u) :: us) ((k, w) :: ws)
def LowO : SO → SO → Prop
  | .lst us, .lst ws => Lows S1 m us ws
  | .dct us, .dct ws => LowK S1 m us ws
  | .ins C us, .ins D ws => C = D ∧ LowF S1 m us ws
  | _, _ => False
end
def LowS (S1 S' : Sto) : Prop := S'.length ≤ S1.length ∧ ∀ (i : Nat) (o' : SO), S'[i]? = some o' → ∃ o, S1[i]? = some o ∧ LowO S1 S'.length o o'
def LowX (S1 : Sto) (m : Nat) (x y : Xn) : Prop := x.1 = y.1 ∧ match x.2, y.2 with
  | none, none => True
  | some (f, u), some (g, w) => f = g ∧ Low S1 m u w
  | _, _ => False
section
variable {K : PySem.W.Frag} {mg : Str → Option Value} {Y : List Addr} {μ μ' μ1 : Nat → Addr} {n n' n1 m : Nat} {H H' H1 : Hp} {S S1 S' : Sto} {α β : Type} {W : WX} {σ : L2.St}
mutual
theorem RU.low (r : RS K mg μ S1 Y H) (hm : m ≤ S1.length) : ∀ {u w : U} {v : V}, Low S1 m u w → RU K mg μ S1.length Y H u v → RU K mg μ m Y H w v
  | _, _, _, .non, .non => .non
  | _, _, _, .bl b, .bl _ => .bl b
  | _, _, _, .int b, .int _ => .int b
  | _, _, _, .str b, .str _ => .str b
  | _, _, _, .fn b, .fn h => .fn h
  | _, _, _, .exc b, .exc h h1 h2 h3 => .exc h h1 (fun i hi => h2 i (Nat.lt_of_lt_of_le hi hm)) h3
  | _, _, _, .tup l, .tup h q => .tup h (RUs.low r hm l q)
  | _, _, _, .tl l, .tl h h1 h2 q => .tl h (fun i hi => h1 i (Nat.lt_of_lt_of_le hi hm)) h2 (RUs.low r hm l q)
  | _, _, _, .rl l, .rl h q => .rl h (RUs.low r hm l q)
  | _, _, _, .obj hk, .obj _ e => .obj hk e
  | _, _, _, .cut (k := k) e hk l, .obj hn ha => by
    have q := r.at_ k _ e
    obtain ⟨vs, q1, q2⟩ := q
    subst ha
    exact .tl q1 (fun i hi z => by have := r.inj k i hn (Nat.lt_of_lt_of_le hi hm) z; omega) (fun z => (r.res _ z).2 k hn rfl) (RUs.low r hm l q2)
theorem RUs.low (r : RS K mg μ S1 Y H) (hm : m ≤ S1.length) : ∀ {us ws : List U} {vs : List V}, Lows S1 m us ws → RUs K mg μ S1.length Y H us vs → RUs K mg μ m Y H ws vs
  | _, _, _, .nil, .nil => .nil
  | _, _, _, .cons l ls, .cons h q => .cons (RU.low r hm l h) (RUs.low r hm ls q)
end
theorem RFs.low (r : RS K mg μ S1 Y H) (hm : m ≤ S1.length) : ∀ {us ws : List (Str × U)} {vs : List (Str × V)}, LowF S1 m us ws → RFs K mg μ S1.length Y H us vs → RFs K mg μ m Y H ws vs
  | _, _, _, .nil, .nil => .nil
  | _, _, _, .cons l ls, .cons h q => .cons (RU.low r hm l h) (RFs.low r hm ls q)
theorem RKs.low (r : RS K mg μ S1 Y H) (hm : m ≤ S1.length) : ∀ {us ws : List (Key × U)} {vs : List (Key × V)}, LowK S1 m us ws → RKs K mg μ S1.length Y H us vs → RKs K mg μ m Y H ws vs
  | _, _, _, .nil, .nil => .nil
  | _, _, _, .cons l ls, .cons h q => .cons (RU.low r hm l h) (RKs.low r hm ls q)
theorem RS.low (r : RS K mg μ S1 Y H) (l : LowS S1 S') : RS K mg μ S' Y H := by
  refine ⟨fun i j hi hj e => r.inj i j (Nat.lt_of_lt_of_le hi l.1) (Nat.lt_of_lt_of_le hj l.1) e, fun i o' h => ?_, fun a ha => ⟨(r.res a ha).1, fun i hi => (r.res a ha).2 i (Nat.lt_of_lt_of_le hi l.1)⟩⟩
  obtain ⟨o, h1, h2⟩ := l.2 i o' h
  have q := r.at_ i o h1
  cases o with
  | lst us =>
    cases o' with
    | lst ws => obtain ⟨vs, e, q⟩ := q; exact ⟨vs, e, q.low r l.1 h2⟩
    | _ => exact h2.elim
  | dct us =>
    cases o' with
    | dct ws => obtain ⟨vs, e, q⟩ := q; exact ⟨vs, e, q.low r l.1 h2⟩
    | _ => exact h2.elim
  | ins C us =>
    cases o' with
    | ins D ws =>
      obtain ⟨rfl, h2⟩ := h2
      obtain ⟨c, dx, vs, g, e, q, d⟩ := q
      exact ⟨c, dx, vs, g, e, q.low r l.1 h2, d⟩
    | _ => exact h2.elim
theorem Gr.low (g : Gr μ n H μ1 n1 H1) (h : n ≤ m) (h' : m ≤ n1) : Gr μ n H μ1 m H1 := ⟨h, g.at_, fun i a b => g.new i a (Nat.lt_of_lt_of_le b h'), g.all, g.tup, g.frz⟩
theorem RX.low {x y : Xn} {cls : Value} {d : Option Addr} (r : RS K mg μ S1 Y H) (hm : m ≤ S1.length) (l : LowX S1 m x y) (q : RX K mg μ S1.length Y H x cls d) : RX K mg μ m Y H y cls d := by
  obtain ⟨x1, x2⟩ := x
  obtain ⟨y1, y2⟩ := y
  obtain ⟨e, l⟩ := l
  dsimp only at e
  subst e
  obtain ⟨c, h1, h2, h3⟩ := q
  refine ⟨c, h1, h2, ?_⟩
  cases x2 with
  | none =>
    cases y2 with
    | none => exact h3
    | some _ => exact l.elim
  | some z =>
    obtain ⟨f, u⟩ := z
    cases y2 with
    | none => exact l.elim
    | some z2 =>
      obtain ⟨g, w⟩ := z2
      obtain ⟨rfl, l⟩ := l
      obtain ⟨dd, v, e1, e2, e3⟩ := h3
      exact ⟨dd, v, e1, e2, e3.low r hm l⟩
/-- a body that ends as r does what q says; n things stood at its entry -/
def Does (n : Nat) (r : SR) : Res U → Prop
  | .ok u S' => n ≤ S'.length ∧ ((∃ u1 S1, r = .rt u1 S1 ∧ LowS S1 S' ∧ Low S1 S'.length u1 u) ∨ (∃ ρ S1, r = .nx ρ S1 ∧ LowS S1 S' ∧ u = .non))
  | .ex y S' => n ≤ S'.length ∧ ∃ x ρ S1, r = .ex x ρ S1 ∧ LowS S1 S' ∧ LowX S1 S'.length x y
  | .no => True
theorem Does.fin {r : SR} {q : Res U} {Q : VK} {E : XK} (h : Does S.length r q) (x : Fin K mg (fun cls d _ H' => E cls d H') [] μ S Y H q (PU K mg Y Q)) :
    FinS K mg (fun cls d _ H' => E cls d H') { nx := fun _ H' => Q .non H', rt := Q } μ S Y H r := by
  cases q with
  | no => exact x.elim
  | ok u S' =>
    obtain ⟨hn, h⟩ := h
    rcases h with ⟨u1, S1, rfl, l, lu⟩ | ⟨ρ, S1, rfl, l, rfl⟩
    · exact fun μ' H' g r v rv => x μ' H' (g.low hn l.1) (r.low l) v (rv.low r l.1 lu)
    · exact fun μ' H' g r σ' re => x μ' H' (g.low hn l.1) (r.low l) .non .non
  | ex y S' =>
    obtain ⟨hn, x', ρ, S1, rfl, l, lx⟩ := h
    exact fun μ' H' g r σ' cls d re rx => x μ' H' (g.low hn l.1) (r.low l) cls d (rx.low r l.1 lx)
/-- the slots at a def's entry -/
def startR (N : List Str) (us : List U) : Rho := us.map some ++ List.replicate (N.length - us.length) none
theorem RE.start {N : List Str} : ∀ {us : List U} {vs : List V}, RUs K mg μ n Y H us vs → RE K mg μ n Y H (startR N us) (L2.start N vs) := by
  intro us vs h
  have hl := h.length
  refine ⟨by unfold startR L2.start; rw [List.length_append, List.length_append, List.length_map, List.length_map, List.length_replicate, List.length_replicate, hl], fun i u e => ?_⟩
  unfold startR at e
  unfold L2.start
  by_cases hi : i < us.length
  · rw [List.getElem?_append_left (by simpa using hi), List.getElem?_map] at e
    cases q : us[i]? with
    | none => rw [q] at e; cases e
    | some u' =>
      rw [q] at e
      cases e
      obtain ⟨v, h1, h2⟩ := h.get q
      refine ⟨v, ?_, h2⟩
      rw [List.getElem?_append_left (by rw [List.length_map, ← hl]; exact hi), List.getElem?_map, h1]; rfl
  · rw [List.getElem?_append_right (by simpa using hi), List.getElem?_replicate] at e
    split at e <;> cases e
end
/-! ### THE RULE for a def -/
section
variable {P : Program} {w : World} {K : PySem.W.Frag} {mg : Str → Option Value} {base : Heap} {x qual : Str} {params : Arguments} {body : List Stmt} {scope : Scope} {dvs : List V} {kws : List (Str × V)} {fa : Addr} {fd : FuncData}
/-- what is known of the program's names -/
structure Glo (w : World) (K : PySem.W.Frag) (mg : Str → Option Value) (T : Th) : Prop where
  free : ∀ x, x ∈ bnames → mg x = none
  gl : ∀ x u, T.gl x = some u → ∃ v w, mg x = some w ∧ RelV v w ∧ ∀ μ n Y H, RU K mg μ n Y H u v
  dct : ∀ x d, T.dct x = some d → DctIn K w mg x d
  err : ErrIn K mg T
theorem goodS_of {CX : CXT} {T : Th} {N : List Str} {f : Addr} {cd : Value} {A : Around} {outer : List Env} {s : Shared} {H : Hp} {E : XK} {k : Nat} (g : Glo w K mg T) (gu : A.guards = some []) (nd : N.Nodup) (tab : Tab P w K mg base k T) (hr : Room k (A.deeper (envOfC qual scope s.heap.objs.size f cd))) :
    GoodS (cxOf CX P w K mg base N qual scope f cd A outer s H E) T where
  calm := rfl
  units := by have := hr.un; show (A.deeper (envOfC qual scope s.heap.objs.size f cd)).units + 65 < _; omega
  nd := nd
  gu := gu
  free := g.free
  gl := g.gl
  dct := g.dct
  err := g.err
  tab := ⟨k, hr, tab⟩
  own := L2.passes_of rfl
  fn := fun _ _ => .inl rfl
  exn := rfl
  stk := rfl
  frm := rfl
theorem defIn {T : Th} {k : Nat} {N ps : List Str} {cs : CSs} {φ : List U → Sto → Res U} (F : FunD K x qual params body scope dvs kws fa fd) (gx : mg x = some (.ref fa)) (bd : Binds K fd ps []) (Sc : FnScope N ps scope) (g : Glo w K mg T) (tab : Tab P w K mg base k T)
    (hm : matchSs N scope cs body = true) (h : ∀ us S, (∀ u S', φ us S = .ok u S' → us.length = ps.length) ∧ (∀ y S', φ us S = .ex y S' → us.length = ps.length) ∧ ∃ F, Does S.length (evSs T F cs (startR N us) S) (φ us S)) : DefIn P w K mg base (k + 1) x φ := by
  refine ⟨fa, fd, ps, gx, F.kp, ZG.fnG_of F Sc (fun vs H Q E hsp => ?_) (fun cdv A outer s H vs Q E gu hr hsp => ?_), bd⟩
  · obtain ⟨μ, S, Y, us, r, ru, f⟩ := hsp
    obtain ⟨h1, h2, h3⟩ := h us S
    rw [← ru.length]
    cases q : φ us S with
    | ok u S' => exact h1 u S' q
    | ex y S' => exact h2 y S' q
    | no => rw [q] at f; exact f.elim
  · obtain ⟨μ, S, Y, us, r, ru, f⟩ := hsp
    obtain ⟨h1, h2, F', h3⟩ := h us S
    have G : GoodS (cxOf (L2.CX P w) P w K mg base N qual scope fa cdv A outer s H E) T := goodS_of g gu Sc.nd tab hr
    refine ⟨_, soundSs (F := F') cs G (L2.takes_of rfl rfl rfl rfl) hm, μ, startR N us, S, Y, r, RE.start ru, h3.fin f⟩
end
end Z

set_option Elab.async false
set_option linter.all false
set_option maxRecDepth 100000
set_option maxHeartbeats 2000000
/-! X10: a law's end by such a promise. -/
namespace ZG
open PySem PySem.Spec PyProof.Rows L2
theorem lawG {P : Program} {w : World} {K : PySem.W.Frag} {mg mb : Str → Option Value} {k : Nat} {fa a : Addr} {fd : FuncData} {x : Str} {sp : Sp} {s : Shared} {vs : List Value} {ns : List Int}
    (hK : K.In s.heap) (hns : s.heap.Ns mainGlobals mg) (hb : s.heap.Ns builtinsNs mb) (hbb : ∀ x : Str, x ≠ "__name__" → mb x = bootBuiltins x) (hlim : s.heap.NoLimit) (hg : s.gens = #[]) (ha : s.heap.get? a = some { cls := .type "list", data := .seq vs.toArray })
    (hi : IntsAre vs ns) (hl : ns.length ≤ sizeLine) (hr : Room k callerA) (F : ∀ base : Heap, K.In base → base.Ns mainGlobals mg → FnG P w K mg base k fa fd [x] sp) (hbind : ∀ (s : Shared) (u : Value), BindsTo s fd ⟨[u], []⟩ [(x, u)])
    (hsp : ∀ H : Hp, Only H → SqL K H a (ns.map V.int) → sp [.ref a] H (fun v _ => v = .bl true) fun _ _ _ => False) :
    codeAny (model P w) callerA (.call (.ref fa) ⟨[.ref a], []⟩) (fun r s' => r = .ok (.ret (.bool true)) ∧ OldK s.heap s'.heap ∧ s'.os = s.os ∧ AllBare s'.gens) s := by
  have rv := vals_ints hi
  have go : ∀ H : Hp, Only H → SqL K H a (ns.map V.int) → HOk P w H s.heap → (∀ b, H b ≠ none → b = a ∧ K.lookup a = none) → codeAny (model P w) callerA (.call (.ref fa) ⟨[.ref a], []⟩) (fun r s' => r = .ok (.ret (.bool true)) ∧ OldK s.heap s'.heap ∧ s'.os = s.os ∧ AllBare s'.gens) s := by
    intro H only sq ok hA
    have hd : ∀ {b : Addr} {o : Obj} {es : Array DictEntry} {ep : Nat}, s.heap.get? b = some o → o.data = .dict es ep → H b = none := by
      intro b o es ep e1 e2
      cases q : H b with
      | none => rfl
      | some u =>
        obtain ⟨rfl, _⟩ := hA b (by rw [q]; simp)
        rw [ha] at e1
        cases e1
        cases e2
    have ns_ : ∀ {b : Addr} {m : Str → Option Value}, s.heap.Ns b m → (hidT s.heap H).Ns b m := by
      rintro b m ⟨o, es, ep, e, d, r⟩
      exact ⟨o, es, ep, hidT_get e (hd e d), d, r⟩
    have kb : K.In (hidT s.heap H) := by
      intro b o e
      refine hidT_get (hK b o e) ?_
      cases q : H b with
      | none => rfl
      | some u =>
        obtain ⟨rfl, z⟩ := hA b (by rw [q]; simp)
        rw [z] at e; cases e
    obtain ⟨mc, l1, l2⟩ := hlim
    have e0 : Env0 P w K mg (hidT s.heap H) callerA [] s H := ⟨rfl, ⟨kb, ns_ hns, ⟨mb, ns_ hb, hbb⟩, ⟨mc, ns_ l1, l2⟩⟩, fun b o e => of_hidT e, Nat.le_of_eq (hidT_size _ _), trivial, fun b hb => (by cases hb), ok, .of_eq hg⟩
    refine codeAny_mono ((F _ kb (ns_ hns)).go callerA hr rfl [] s H ⟨[.ref a], []⟩ [.ref a] [.ref a] _ _ (hsp H only sq) (.cons rfl .nil) (hbind s (.ref a)) e0) ?_
    intro r s' h
    cases r with
    | error e =>
      obtain ⟨_, _, _, _, _, _, _, _, _, _, _, _, z⟩ := h
      exact z.elim
    | ok fl =>
      cases fl <;> first | exact h.elim | skip
      obtain ⟨v, H', os, bare, un, ok', r', q⟩ := h
      have q : v = .bl true := q
      subst q
      cases r'
      refine ⟨rfl, OldK.of_keep fun b o e => ?_, os, bare⟩
      rcases only b with z | ⟨ob, xs, z⟩
      · exact un.keep b o e z (by intro z; cases z) (by simp)
      · obtain ⟨e1, _⟩ := ok b _ z
        obtain ⟨e2, _⟩ := ok' b _ (un.frzs b ob _ z)
        rw [e] at e1
        cases e1
        exact e2
  cases hk : K.lookup a with
  | some o =>
    have e := hK a o hk
    rw [ha] at e
    cases e
    refine go (fun _ => none) (fun _ => .inl rfl) (.inr ⟨_, vs.toArray, _, hk, rfl, rfl, rfl, ?_, by simpa using rv⟩) (fun b u z => by cases z) fun b z => absurd rfl z
    rw [List.size_toArray, hi.length]
    exact hl
  | none =>
    have at_ : ∀ b, (fun b => if b = a then some (HO.frz { cls := .type "list", data := .seq vs.toArray } (.lst (ns.map V.int))) else none : Hp) b = if b = a then some (HO.frz { cls := .type "list", data := .seq vs.toArray } (.lst (ns.map V.int))) else none := fun _ => rfl
    refine go (fun b => if b = a then some (.frz { cls := .type "list", data := .seq vs.toArray } (.lst (ns.map V.int))) else none) (fun b => ?_) (.inl (.inr ⟨_, if_pos rfl⟩)) (fun b u z => ?_) (fun b z => ?_)
    · by_cases h : b = a
      · exact .inr ⟨_, _, if_pos h⟩
      · exact .inl (if_neg h)
    · by_cases h : b = a
      · subst h
        cases (if_pos rfl).symm.trans z
        exact ⟨ha, by rw [List.length_map]; exact hl, vs, _, rv, ha⟩
      · cases (if_neg h).symm.trans z
    · by_cases h : b = a
      · exact ⟨h, hk⟩
      · exact absurd (if_neg h) z
theorem walkG {l : PySem.W.OpenLaw} {n k : Nat} {q : Program} {loose : List Str} {XP : (Str → Option Value) → Heap → Prop} {YP : World → Heap → Prop} {d : DefRec} {x : Str} (hn : l.most = some n) (hn2 : n ≤ sizeLine) (hdf : d.params.defaults = []) (hr : Room k callerA)
    (F : ∀ (w : World) (mg : Str → Option Value) (fa : Addr) (h : Heap), YP w h → h.Ns mainGlobals mg → mg d.name = some (.ref fa) → ∃ (K : PySem.W.Frag) (fd : FuncData) (sp : Sp), K.In h ∧ (∀ (s : Shared) (u : Value), BindsTo s fd ⟨[u], []⟩ [(x, u)]) ∧
      (∀ (H : Hp) (a : Addr) (ns : List Int), ns.length ≤ n → Only H → SqL K H a (ns.map V.int) → sp [.ref a] H (fun v _ => v = .bl true) fun _ _ _ => False) ∧ ∀ base : Heap, K.In base → base.Ns mainGlobals mg → FnG l.prog w K mg base k fa fd [x] sp) :
    PySem.W.WalkO q loose XP YP l.row.toRowW d [] (fun f vs => PySem.call f vs) :=
  Att.attach_call hn hdf fun w s₀ s₁ mg mb fa o pm cd doc a vs ns G Y ho hd hcd hmg hobj hints hlen hg => by
    obtain ⟨K, fd, sp, KX, hb, hsp, hF⟩ := F w mg fa _ Y G.T.g hmg
    exact lawG KX G.T.g G.T.b G.T.builtins G.T.nolimit hg hobj hints (Nat.le_trans hlen hn2) hr hF hb (fun H hO hS => hsp H a ns hlen hO hS)
end ZG

set_option Elab.async false
set_option linter.all false
set_option maxRecDepth 100000
set_option maxHeartbeats 1600000
/-! Z14: a def by the evaluator itself; theories; loops. -/
namespace Z
open PySem PySem.Spec PyProof.Rows L2 RZ
/-- what a body's end is to a caller -/
def SR.res : SR → Res U
  | .rt u S => .ok u S
  | .nx _ S => .ok .non S
  | .ex x _ S => .ex x S
  | _ => .no
def fnOf (T : Th) (F : Nat) (N ps : List Str) (cs : CSs) : List U → Sto → Res U := fun us S => if us.length = ps.length then (evSs T F cs (startR N us) S).res else .no
theorem fnOf_eq {T : Th} {F : Nat} {N ps : List Str} {cs : CSs} {us : List U} {S : Sto} (h : us.length = ps.length) : fnOf T F N ps cs us S = (evSs T F cs (startR N us) S).res := if_pos h
section
variable {P : Program} {w : World} {K : PySem.W.Frag} {mg : Str → Option Value} {base : Heap} {x qual : Str} {params : Arguments} {body : List Stmt} {scope : Scope} {dvs : List V} {kws : List (Str × V)} {fa : Addr} {fd : FuncData}
theorem fnE {T : Th} {k F : Nat} {N ps : List Str} {cs : CSs} (Fd : FunD K x qual params body scope dvs kws fa fd) (Sc : FnScope N ps scope) (g : Glo w K mg T) (tab : Tab P w K mg base k T)
    (hm : matchSs N scope cs body = true) : ZG.FnG P w K mg base (k + 1) fa fd ps (SpF K mg (fnOf T F N ps cs)) := by
  refine ZG.fnG_of Fd Sc (fun vs H Q E hsp => ?_) (fun cdv A outer s H vs Q E gu hr hsp => ?_)
  · obtain ⟨μ, S, Y, us, r, ru, f⟩ := hsp
    rw [← ru.length]
    by_cases h : us.length = ps.length
    · exact h
    · unfold fnOf at f
      rw [if_neg h] at f
      exact f.elim
  · obtain ⟨μ, S, Y, us, r, ru, f⟩ := hsp
    have G : GoodS (cxOf (L2.CX P w) P w K mg base N qual scope fa cdv A outer s H E) T := goodS_of g gu Sc.nd tab hr
    refine ⟨_, soundSs (F := F) cs G (L2.takes_of rfl rfl rfl rfl) hm, μ, startR N us, S, Y, r, RE.start ru, ?_⟩
    unfold fnOf at f
    by_cases h : us.length = ps.length
    · rw [if_pos h] at f
      cases q : evSs T F cs (startR N us) S with
      | rt u S' => rw [q] at f; exact f
      | nx ρ S' => rw [q] at f; exact fun μ' H' g r σ' re => f μ' H' g r .non .non
      | ex e ρ S' => rw [q] at f; exact fun μ' H' g r σ' cls d re rx => f μ' H' g r cls d rx
      | bk ρ S' => rw [q] at f; exact f.elim
      | ct ρ S' => rw [q] at f; exact f.elim
      | no => rw [q] at f; exact f.elim
    · rw [if_neg h] at f; exact f.elim
theorem defInE {T : Th} {k F : Nat} {N ps : List Str} {cs : CSs} (Fd : FunD K x qual params body scope dvs kws fa fd) (gx : mg x = some (.ref fa)) (bd : Binds K fd ps []) (Sc : FnScope N ps scope) (g : Glo w K mg T) (tab : Tab P w K mg base k T)
    (hm : matchSs N scope cs body = true) : DefIn P w K mg base (k + 1) x (fnOf T F N ps cs) := ⟨fa, fd, ps, gx, Fd.kp, fnE Fd Sc g tab hm, bd⟩
theorem DefIn.mono {j k : Nat} {f : Str} {φ : List U → Sto → Res U} (h : DefIn P w K mg base j f φ) (hk : j ≤ k) : DefIn P w K mg base k f φ := by
  obtain ⟨fa, fd, ps, h1, h2, h3, h4⟩ := h
  exact ⟨fa, fd, ps, h1, h2, h3.mono hk, h4⟩
theorem methInE {T : Th} {k F : Nat} {N ps ks : List Str} {cs : CSs} {C m : Str} {c : Addr} (Fd : FunD K x qual params body scope dvs kws fa fd) (gc : mg C = some (.ref c)) (cl : Cls K c) (mm : if m = "__init__" then Mk K c fa else Meth K c m fa) (hk : ks.length ≤ ps.length) (bd : ZG.BindG K fd ps ks (ps.length - ks.length)) (Sc : FnScope N ps scope)
    (g : Glo w K mg T) (tab : Tab P w K mg base k T) (hm : matchSs N scope cs body = true) : MethIn P w K mg base (k + 2) C m ks (fnOf T F N ps cs) := by
  refine ⟨c, fa, fd, ps, k + 1, gc, cl, ?_, fnE Fd Sc g tab hm, hk, bd⟩
  by_cases h : m = ("__init__" : Str)
  · rw [if_pos h] at mm ⊢
    exact ⟨mm, Nat.le_refl _⟩
  · rw [if_neg h] at mm ⊢
    exact ⟨mm, Nat.le_succ _⟩
theorem MethIn.mono {j k : Nat} {C m : Str} {ks : List Str} {φ : List U → Sto → Res U} (h : MethIn P w K mg base j C m ks φ) (hk : j ≤ k) : MethIn P w K mg base k C m ks φ := by
  obtain ⟨c, g, fd, ps, i, h1, h2, h3, h4, h5, h6⟩ := h
  refine ⟨c, g, fd, ps, i, h1, h2, ?_, h4, h5, h6⟩
  by_cases h : m = ("__init__" : Str)
  · rw [if_pos h] at h3 ⊢
    exact ⟨h3.1, Nat.le_trans h3.2 hk⟩
  · rw [if_neg h] at h3 ⊢
    exact ⟨h3.1, Nat.le_trans h3.2 hk⟩
def Th.add (T : Th) (f : Str) (φ : List U → Sto → Res U) : Th where
  dom := fun x => if x = f then true else T.dom x
  fn := fun x => if x = f then φ else T.fn x
  gl := T.gl
  mdom := T.mdom
  me := T.me
  mks := T.mks
  fldB := T.fldB
  excB := T.excB
  clsB := T.clsB
  sub := T.sub
  dct := T.dct
def Th.addM (T : Th) (C m : Str) (ks : List Str) (φ : List U → Sto → Res U) : Th where
  dom := T.dom
  fn := T.fn
  gl := T.gl
  mdom := fun D x => if D = C ∧ x = m then true else T.mdom D x
  me := fun D x => if D = C ∧ x = m then φ else T.me D x
  mks := fun D x => if D = C ∧ x = m then ks else T.mks D x
  fldB := T.fldB
  excB := T.excB
  clsB := T.clsB
  sub := T.sub
  dct := T.dct
theorem Glo.add {T : Th} {f : Str} {φ : List U → Sto → Res U} (g : Glo w K mg T) : Glo w K mg (T.add f φ) := ⟨g.free, g.gl, g.dct, ⟨g.err.cls, g.err.sub, g.err.make, g.err.fld⟩⟩
theorem Glo.addM {T : Th} {C m : Str} {ks : List Str} {φ : List U → Sto → Res U} (g : Glo w K mg T) : Glo w K mg (T.addM C m ks φ) := ⟨g.free, g.gl, g.dct, ⟨g.err.cls, g.err.sub, g.err.make, g.err.fld⟩⟩
theorem Tab.mono {j k : Nat} {T : Th} (h : Tab P w K mg base j T) (hk : j ≤ k) : Tab P w K mg base k T := ⟨fun x hx => (h.1 x hx).mono hk, fun C m hx => (h.2 C m hx).mono hk⟩
theorem Tab.add {k : Nat} {T : Th} {f : Str} {φ : List U → Sto → Res U} (h : Tab P w K mg base k T) (d : DefIn P w K mg base (k + 1) f φ) : Tab P w K mg base (k + 1) (T.add f φ) := by
  refine ⟨fun x hx => ?_, fun C m hx => (h.2 C m hx).mono (Nat.le_succ k)⟩
  by_cases e : x = f
  · subst e
    have : (T.add x φ).fn x = φ := if_pos rfl
    rw [this]
    exact d
  · have h1 : (T.add f φ).fn x = T.fn x := if_neg e
    have h2 : (T.add f φ).dom x = T.dom x := if_neg e
    rw [h2] at hx
    rw [h1]
    exact (h.1 x hx).mono (Nat.le_succ k)
theorem Tab.addM {k : Nat} {T : Th} {C m : Str} {ks : List Str} {φ : List U → Sto → Res U} (h : Tab P w K mg base k T) (d : MethIn P w K mg base (k + 2) C m ks φ) : Tab P w K mg base (k + 2) (T.addM C m ks φ) := by
  refine ⟨fun x hx => (h.1 x hx).mono (by omega), fun D x hx => ?_⟩
  by_cases e : D = C ∧ x = m
  · have h1 : (T.addM C m ks φ).me D x = φ := if_pos e
    have h2 : (T.addM C m ks φ).mks D x = ks := if_pos e
    rw [h1, h2]
    obtain ⟨rfl, rfl⟩ := e
    exact d
  · have h1 : (T.addM C m ks φ).me D x = T.me D x := if_neg e
    have h2 : (T.addM C m ks φ).mdom D x = T.mdom D x := if_neg e
    have h3 : (T.addM C m ks φ).mks D x = T.mks D x := if_neg e
    rw [h2] at hx
    rw [h1, h3]
    exact (h.2 D x hx).mono (by omega)
end
section
variable {T : Th}
theorem ev_call {f : Str} {φ : List U → Sto → Res U} {as : CEs} {ρ : Rho} {S : Sto} (h : T.dom f = true) (e : T.fn f = φ) : ev T (.call f as) ρ S = (evs T as ρ S).bind φ := by
  simp only [ev, h, if_true, e]
end
/-- a law's promise, of a script -/
theorem sp_law {K : PySem.W.Frag} {mg : Str → Option Value} {φ : List U → Sto → Res U} {H : Hp} {a : Addr} {ns : List Int} (h : ∃ S', φ [.rl (ns.map U.int)] [] = .ok (.bl true) S') (hO : Only H) (hS : SqL K H a (ns.map V.int)) : SpF K mg φ [.ref a] H (fun v _ => v = .bl true) fun _ _ _ => False := by
  have kl : KL K H a (ns.map V.int) := by
    rcases hS with (hS | hS) | hS
    · rcases hO a with e | ⟨o, xs, e⟩
      · rw [e] at hS; cases hS
      · rw [e] at hS; cases hS
    · exact .inl hS
    · exact .inr (.inr hS)
  obtain ⟨S', e⟩ := h
  refine ⟨fun _ => 0, [], [], [.rl (ns.map U.int)], ⟨fun i j hi => absurd hi (by simp), fun i o h => by simp at h, fun b hb => by cases hb⟩, .cons (.rl kl (RUs.ints ns)) .nil, ?_⟩
  rw [e]
  intro μ' H' g r v rv
  cases rv
  rfl
/-! ### comprehensions -/
/-- the walk is over these items, whatever becomes of the store -/
def Over (src : Src) (I : Sto → Prop) (items : List U) : Prop := ∀ S, I S → ∀ i, i ≤ items.length → src.at_ S i = some items[i]?
theorem Over.tup {us : List U} {I : Sto → Prop} : Over (.seq (.tup us)) I us := fun S _ i _ => rfl
theorem Over.tl {us : List U} {I : Sto → Prop} : Over (.seq (.tl us)) I us := fun S _ i _ => rfl
theorem Over.rl {us : List U} {I : Sto → Prop} : Over (.seq (.rl us)) I us := fun S _ i _ => rfl
theorem Over.obj {k : Nat} {us : List U} {I : Sto → Prop} (h : ∀ S, I S → S[k]? = some (.lst us)) : Over (.seq (.obj k)) I us := fun S hS i _ => by
  show (seqOf S (.obj k)).map (fun us => us[i]?) = _
  show (lstOf S (.obj k)).map (fun us => us[i]?) = _
  simp only [lstOf, h S hS, Option.map_some]
theorem Over.rng {lo : Int} {n : Nat} {I : Sto → Prop} : Over (.rng lo n) I ((List.range n).map fun (i : Nat) => .int (lo + i)) := fun S _ i hi => by
  simp only [Src.at_, List.getElem?_map, Option.some.injEq]
  by_cases h : i < n
  · rw [if_pos h, List.getElem?_range h]; rfl
  · rw [if_neg h, List.getElem?_eq_none (by simpa using h)]; rfl
theorem Over.enum {u : U} {us : List U} {I : Sto → Prop} (h : ∀ S, I S → seqOf S u = some us) : Over (.enum u) I (us.mapIdx fun i x => .tup [.int i, x]) := fun S hS i hi => by
  have hl : (us.mapIdx fun i x => U.tup [.int i, x]).length = us.length := List.length_mapIdx
  rw [hl] at hi
  simp only [Src.at_, h S hS, if_neg (Nat.not_lt.mpr hi), Option.some.injEq, List.getElem?_mapIdx]
theorem Over.zip {st : Bool} {u w : U} {us ws : List U} {I : Sto → Prop} (h : ∀ S, I S → seqOf S u = some us) (h' : ∀ S, I S → seqOf S w = some ws) (hl : us.length = ws.length) : Over (.zip st u w) I (List.zipWith (fun x y => .tup [x, y]) us ws) := fun S hS i hi => by
  simp only [Src.at_, h S hS, h' S hS, List.getElem?_zipWith]
  by_cases q : i < us.length
  · rw [List.getElem?_eq_getElem q, List.getElem?_eq_getElem (by omega)]
  · rw [List.getElem?_eq_none (by omega), List.getElem?_eq_none (by omega)]
theorem Over.ez {us ws : List U} {I : Sto → Prop} (hl : us.length = ws.length) : Over (.ez (.tup us) (.tup ws)) I ((List.zipWith (fun x y => U.tup [x, y]) us ws).mapIdx fun i x => .tup [.int i, x]) := fun S hS i hi => by
  simp only [Src.at_, tupOf, List.getElem?_mapIdx, List.getElem?_zipWith]
  by_cases q : i < us.length
  · rw [List.getElem?_eq_getElem q, List.getElem?_eq_getElem (by omega)]; rfl
  · rw [List.getElem?_eq_none (by omega), List.getElem?_eq_none (by omega)]; rfl
theorem lcGo_inv {src : Src} {st : U → Sto → Res (Option U)} {items : List U} (Inv : Nat → List U → Sto → Prop) (ov : ∀ i acc S, Inv i acc S → i ≤ items.length → src.at_ S i = some items[i]?)
    (step : ∀ i x acc S, items[i]? = some x → Inv i acc S → ∃ o S', st x S = .ok o S' ∧ Inv (i + 1) (acc ++ o.toList) S') (hz : items.length ≤ sizeLine) :
    ∀ (n i : Nat) (acc : List U) (S : Sto), i + n = items.length → acc.length ≤ i → Inv i acc S → ∃ acc' S', lcGo src st n i acc S = .ok acc' S' ∧ Inv items.length acc' S'
  | 0, i, acc, S, hn, ha, hi => by
    refine ⟨acc, S, ?_, by rw [← hn]; exact hi⟩
    unfold lcGo
    rw [ov i acc S hi (by omega), List.getElem?_eq_none (by omega)]
  | n + 1, i, acc, S, hn, ha, hi => by
    unfold lcGo
    rw [ov i acc S hi (by omega), List.getElem?_eq_getElem (by omega)]
    obtain ⟨o, S', h1, h2⟩ := step i _ acc S (List.getElem?_eq_getElem (by omega)) hi
    simp only [h1]
    cases o with
    | none =>
      simp only [Option.toList, List.append_nil] at h2
      exact lcGo_inv Inv ov step hz n (i + 1) acc S' (by omega) (by omega) h2
    | some u =>
      simp only [Option.toList] at h2
      dsimp only
      rw [if_pos (by omega)]
      exact lcGo_inv Inv ov step hz n (i + 1) (acc ++ [u]) S' (by omega) (by simp; omega) h2
/-- a comprehension that leaves the store as it is -/
theorem lcGo_map {src : Src} {st : U → Sto → Res (Option U)} {items out : List U} {S : Sto} (ov : Over src (· = S) items) (step : ∀ (i : Nat) (x : U), items[i]? = some x → ∃ y, out[i]? = some y ∧ st x S = .ok (some y) S) (hl : out.length = items.length) (hz : items.length ≤ sizeLine) (n : Nat) (hn : n = items.length) :
    lcGo src st n 0 [] S = .ok out S := by
  obtain ⟨acc, S', h1, rfl, rfl⟩ := lcGo_inv (src := src) (st := st) (items := items) (fun i acc S' => acc = out.take i ∧ S' = S) (fun i acc S' h hi => ov S' h.2 i hi)
    (fun i x acc S' hx ⟨h1, h2⟩ => by
      subst h2
      obtain ⟨y, hy, hs⟩ := step i x hx
      refine ⟨some y, S', hs, ?_, rfl⟩
      rw [h1, Option.toList, List.take_succ, hy]; rfl) hz n 0 [] S (by omega) (Nat.le_refl 0) ⟨by simp, rfl⟩
  rw [h1, List.take_of_length_le (by omega)]
theorem forGo_inv {src : Src} {t : CT} {body : Rho → Sto → SR} {items : List U} (Inv : Nat → Rho → Sto → Prop) (R : U → Sto → Prop) (ov : ∀ i ρ S, Inv i ρ S → i ≤ items.length → src.at_ S i = some items[i]?)
    (step : ∀ i x ρ S, items[i]? = some x → Inv i ρ S → ∃ ρ', asgT t x ρ = some ρ' ∧ ((∃ ρ2 S2, (body ρ' S = .nx ρ2 S2 ∨ body ρ' S = .ct ρ2 S2) ∧ Inv (i + 1) ρ2 S2) ∨ ∃ u S2, body ρ' S = .rt u S2 ∧ R u S2)) :
    ∀ (n i : Nat) (ρ : Rho) (S : Sto), i + n = items.length → Inv i ρ S → (∃ ρ' S', forGo src t body n i ρ S = .nx ρ' S' ∧ Inv items.length ρ' S') ∨ ∃ u S', forGo src t body n i ρ S = .rt u S' ∧ R u S'
  | 0, i, ρ, S, hn, hi => by
    refine .inl ⟨ρ, S, ?_, by rw [← hn]; exact hi⟩
    unfold forGo
    rw [ov i ρ S hi (by omega), List.getElem?_eq_none (by omega)]
  | n + 1, i, ρ, S, hn, hi => by
    unfold forGo
    rw [ov i ρ S hi (by omega), List.getElem?_eq_getElem (by omega)]
    obtain ⟨ρ', h1, h2⟩ := step i _ ρ S (List.getElem?_eq_getElem (by omega)) hi
    simp only [h1]
    rcases h2 with ⟨ρ2, S2, h2 | h2, h3⟩ | ⟨u, S2, h2, h3⟩
    · rw [h2]; exact forGo_inv Inv R ov step n (i + 1) ρ2 S2 (by omega) h3
    · rw [h2]; exact forGo_inv Inv R ov step n (i + 1) ρ2 S2 (by omega) h3
    · rw [h2]; exact .inr ⟨u, S2, rfl, h3⟩
/-- a for that is never left -/
theorem forGo_all {src : Src} {t : CT} {body : Rho → Sto → SR} {items : List U} (Inv : Nat → Rho → Sto → Prop) (ov : ∀ i ρ S, Inv i ρ S → i ≤ items.length → src.at_ S i = some items[i]?)
    (step : ∀ i x ρ S, items[i]? = some x → Inv i ρ S → ∃ ρ', asgT t x ρ = some ρ' ∧ ∃ ρ2 S2, body ρ' S = .nx ρ2 S2 ∧ Inv (i + 1) ρ2 S2) {n : Nat} {ρ : Rho} {S : Sto} (hn : n = items.length) (hi : Inv 0 ρ S) : ∃ ρ' S', forGo src t body n 0 ρ S = .nx ρ' S' ∧ Inv items.length ρ' S' := by
  rcases forGo_inv Inv (fun _ _ => False) ov (fun i x ρ S h1 h2 => by
    obtain ⟨ρ', h3, ρ2, S2, h4, h5⟩ := step i x ρ S h1 h2
    exact ⟨ρ', h3, .inl ⟨ρ2, S2, .inl h4, h5⟩⟩) n 0 ρ S (by omega) hi with h | ⟨_, _, _, h⟩
  · exact h
  · exact h.elim
/-! ### equations -/
section
variable {T : Th}
theorem evN_lst {as : CEs} {ρ : Rho} {S : Sto} : evN T (.lst as) ρ S = (evs T as ρ S).bind fun us S1 => if us.length ≤ sizeLine then .ok us S1 else .no := by simp only [evN]
theorem evN_listOf {a : CE} {ρ : Rho} {S : Sto} : evN T (.listOf a) ρ S = (ev T a ρ S).bind fun u S1 => ofO S1 (seqOf S1 u) := by simp only [evN]
theorem evN_cat {a b : CE} {ρ : Rho} {S : Sto} : evN T (.cat a b) ρ S = (ev T a ρ S).bind fun u S1 => (ev T b ρ S1).bind fun w S2 => match lstH S2 u, lstH S2 w with
    | some xs, some ys => if xs.length + ys.length ≤ sizeLine then .ok (xs ++ ys) S2 else .no
    | _, _ => .no := by
  simp only [evN] <;> rfl
theorem sz_of {n : Nat} (h : n ≤ 10000) : n ≤ sizeLine := Nat.le_trans h (by decide +kernel)
theorem evN_map {tg : CT} {it : CI} {elt : CE} {own : List (Str × Nat)} {ρ : Rho} {S S1 : Sto} {src : Src} {items : List U} (g : U → U) (h1 : evI T it ρ S = .ok src S1) (ov : Over src (· = S1) items) (hl : src.len S1 = items.length) (hz : items.length ≤ 10000)
    (step : ∀ x, x ∈ items → ∃ ρ', asgT tg x (wipeR ρ (own.map (·.2))) = some ρ' ∧ ev T elt ρ' S1 = .ok (g x) S1) : evN T (.lc tg it .nil elt own) ρ S = .ok (items.map g) S1 := by
  simp only [evN, h1, Res.bind]
  refine lcGo_map ov (fun i x hx => ⟨g x, by rw [List.getElem?_map, hx]; rfl, ?_⟩) (List.length_map _) (sz_of hz) _ hl
  obtain ⟨ρ', h2, h3⟩ := step x (List.mem_of_getElem? hx)
  simp only [h2, h3]
theorem len_tup {S : Sto} {us : List U} : Src.len S (.seq (.tup us)) = us.length := rfl
theorem len_tl {S : Sto} {us : List U} : Src.len S (.seq (.tl us)) = us.length := rfl
theorem len_rng {S : Sto} {lo : Int} {n : Nat} : Src.len S (.rng lo n) = ((List.range n).map fun (i : Nat) => U.int (lo + i)).length := by simp [Src.len]
theorem len_enum {S : Sto} {u : U} {us : List U} (h : seqOf S u = some us) : Src.len S (.enum u) = (us.mapIdx fun i x => U.tup [.int i, x]).length := by simp [Src.len, h]
theorem len_ez {S : Sto} {us ws : List U} : Src.len S (.ez (.tup us) (.tup ws)) = ((List.zipWith (fun x y => U.tup [x, y]) us ws).mapIdx fun i x => U.tup [.int i, x]).length := by simp [Src.len, tupOf]
theorem len_zip {S : Sto} {st : Bool} {u w : U} {us ws : List U} (h : seqOf S u = some us) (h' : seqOf S w = some ws) : Src.len S (.zip st u w) = (List.zipWith (fun x y => U.tup [x, y]) us ws).length := by simp [Src.len, h, h']
theorem cmp_eqI {S : Sto} {i j : Int} : cmpE S .eq (.int i) (.int j) = some (decide (i = j)) := rfl
theorem cmpS_eq {S : Sto} {i j : Str} : cmpE S .eq (.str i) (.str j) = some (decide (i = j)) := rfl
theorem cmp_neI {S : Sto} {i j : Int} : cmpE S .ne (.int i) (.int j) = some (!decide (i = j)) := rfl
theorem cmpS_ne {S : Sto} {i j : Str} : cmpE S .ne (.str i) (.str j) = some (!decide (i = j)) := rfl
theorem cmpI_lt {S : Sto} {i j : Int} : cmpE S .lt (.int i) (.int j) = some (decide (i < j)) := rfl
theorem cmpI_le {S : Sto} {i j : Int} : cmpE S .le (.int i) (.int j) = some (decide (i ≤ j)) := rfl
theorem cmpI_gt {S : Sto} {i j : Int} : cmpE S .gt (.int i) (.int j) = some (decide (j < i)) := rfl
theorem cmpI_ge {S : Sto} {i j : Int} : cmpE S .ge (.int i) (.int j) = some (decide (j ≤ i)) := rfl
theorem intsOf_map : ∀ ns : List Int, intsOf (ns.map U.int) = some ns
  | [] => rfl
  | i :: r => by simp [intsOf, intsOf_map r]
theorem blsOf_map {α : Type} (f : α → Bool) : ∀ l : List α, blsOf (l.map fun x => U.bl (f x)) = some (l.map f)
  | [] => rfl
  | i :: r => by simp [blsOf, blsOf_map f r]
end
end Z

set_option Elab.async false
set_option linter.all false
set_option maxRecDepth 100000
set_option maxHeartbeats 1600000
/-! Z16: what the top says of classes; methods' binding. -/
namespace Z
open PySem PySem.Spec PyProof.Rows L2 RZ
section
variable {K : PySem.W.Frag} {x qual : Str} {params : Arguments} {body : List Stmt} {scope : Scope} {kws : List (Str × V)} {f : Addr} {fd : FuncData} {ps ks : List Str} {n : Nat}
theorem FunD.bindsG (F : FunD K x qual params body scope [] kws f fd)
    (h : ∀ (kV doc pm : Value) (an : Option Addr) (cdv ct : Value) (us ws : List Value), us.length = n → ws.length = ks.length → bindArgs (PySem.W.fnOf x qual params body scope .none kV doc pm an cdv ct) ⟨us, ks.zip ws⟩ = pure (ps.zip (us ++ ws))) : ZG.BindG K fd ps ks n := by
  obtain ⟨oc, od, dV, kV, doc, pm, an, cdv, ct, osl, rfl, lk, hcd, hD, hK⟩ := F.ex
  rcases hD with ⟨_, rfl⟩ | ⟨e, _⟩
  · exact fun s us ws _ l1 l2 => .of_eq (h kV doc pm an cdv ct us ws l1 l2)
  · exact absurd rfl e
/-- an error's class -/
def vC (K : PySem.W.Frag) (bis : List (Str × String)) (C : Str) : Value := match bis.lookup C with
  | some t => .type t
  | none => .ref (He.ga K C)
def excCB (K : PySem.W.Frag) (D : Addr) : Bool :=
  He.eqO (PySem.W.findIn K (.ref D) "__getattribute__") (some (some (.builtin "BaseException.__getattribute__"))) && (He.eqO (PySem.W.findIn K (.ref D) "__getattr__") (some none) && (decide (PySem.W.subIn K (.ref D) (.type "BaseException") = some true) && (PySem.W.hasDictIn K D && (He.eqO (PySem.W.findIn K (.ref D) "__class__") (some (some (.builtin "object.__class__"))) &&
    (He.eqO (PySem.W.specialIn K (.builtin "object.__class__") "__get__") (some (some (.builtin "getset_descriptor.__get__"))) && (decide (PySem.W.takesIn K (.builtin "object.__class__") = some true) && decide (PySem.W.mroIn K D (.type "object") = some true)))))))
theorem excCB_ok {D : Addr} (h : excCB K D = true) : ExcC K D := by
  unfold excCB at h
  simp only [Bool.and_eq_true, decide_eq_true_eq] at h
  obtain ⟨h1, h2, h3, h4, h5, h6, h7, h8⟩ := h
  exact ⟨He.eqO_ok h1, He.eqO_ok h2, h3, h4, He.eqO_ok h5, He.eqO_ok h6, h7, h8⟩
/-- all that is said of errors and of classes with fields -/
def errB (K : PySem.W.Frag) (own raised made : List Str) (bis : List (Str × String)) (flds : List (Str × Str)) (b : Str → Str → Bool) : Bool :=
  own.all (fun C => (He.Fa.glo C).ok K) && (bis.all (fun p => (He.Fa.free p.1).ok K) && (made.all (fun C => (He.Fa.exc C).ok K) && (flds.all (fun p => (He.Fa.glo p.1).ok K && ((He.Fa.cls p.1).ok K && (He.Fa.noat p.1 p.2).ok K)) &&
    raised.all (fun D => excCB K (He.ga K D) && (own ++ bis.map (·.1)).all fun C => decide (PySem.W.kitOne K (.ref (He.ga K D)) (vC K bis C) = some (b D C)) && decide (PySem.W.exmOne K (.ref (He.ga K D)) (vC K bis C) = some (b D C))))))
theorem errIn_of {h : Heap} {mg : Str → Option Value} {T : Th} {own raised made : List Str} {bis : List (Str × String)} {flds : List (Str × Str)} {b : Str → Str → Bool} (X : K.In h) (G : h.Ns mainGlobals mg) (e : errB K own raised made bis flds b = true)
    (hb : ∀ p, p ∈ bis → bootBuiltins p.1 = some (.type p.2) ∧ p.1 ≠ ("__name__" : Str)) (hbo : ∀ C, C ∈ own → bis.lookup C = none) (hbl : ∀ p, p ∈ bis → bis.lookup p.1 = some p.2) (hr : ∀ D, D ∈ raised → D ∈ own) (hm : ∀ D, D ∈ made → D ∈ own)
    (h1 : ∀ C, T.clsB C = true → C ∈ own ++ bis.map (·.1)) (h2 : ∀ D C v, T.sub D C = some v → D ∈ raised ∧ C ∈ own ++ bis.map (·.1) ∧ v = b D C) (h3 : ∀ C, T.excB C = true → C ∈ made) (h4 : ∀ C g, T.fldB C g = true → (C, g) ∈ flds) : ErrIn K mg T := by
  unfold errB at e
  simp only [Bool.and_eq_true, List.all_eq_true, decide_eq_true_eq] at e
  obtain ⟨e1, e2, e3, e4, e5⟩ := e
  have og : ∀ C, C ∈ own → mg C = some (.ref (He.ga K C)) := fun C hC => He.glo_ok X G (e1 C hC)
  have cv : ∀ C, C ∈ own ++ bis.map (·.1) → ∀ v cv, ClsVal mg C v cv → cv = vC K bis C := by
    intro C hC v cv hv
    rcases List.mem_append.mp hC with q | q
    · rcases hv with ⟨c, m, rfl, rfl⟩ | ⟨t, m, _⟩
      · rw [og C q] at m
        cases m
        unfold vC
        rw [hbo C q]
      · rw [og C q] at m; cases m
    · obtain ⟨p, hp, rfl⟩ := List.mem_map.mp q
      rcases hv with ⟨c, m, rfl, rfl⟩ | ⟨t, m, bt, _, rfl, rfl⟩
      · rw [He.free_ok X G (e2 p hp)] at m; cases m
      · unfold vC
        rw [hbl p hp]
        have := (hb p hp).1
        rw [bt] at this
        cases this
        rfl
  refine ⟨fun C hC => ?_, fun D C v hv => ?_, fun C hC => ?_, fun C g hC => ?_⟩
  · rcases List.mem_append.mp (h1 C hC) with q | q
    · exact ⟨_, _, .inl ⟨_, og C q, rfl, rfl⟩⟩
    · obtain ⟨p, hp, rfl⟩ := List.mem_map.mp q
      exact ⟨_, _, .inr ⟨p.2, He.free_ok X G (e2 p hp), (hb p hp).1, (hb p hp).2, rfl, rfl⟩⟩
  · obtain ⟨hD, hC, rfl⟩ := h2 D C v hv
    obtain ⟨k1, k2⟩ := e5 D hD
    refine ⟨_, og D (hr D hD), excCB_ok k1, fun v cv' hv => ?_⟩
    have := cv C hC v cv' hv
    subst this
    exact k2 C hC
  · have := h3 C hC
    obtain ⟨q1, q2, q3, q4⟩ := He.exc_ok (e3 C this)
    exact ⟨_, og C (hm C this), q1, q2, q3, q4⟩
  · have := e4 _ (h4 C g hC)
    exact ⟨_, He.glo_ok X G this.1, He.cls_ok this.2.1, He.noat_ok this.2.2⟩
end
end Z

set_option Elab.async false
set_option linter.all false
set_option maxRecDepth 100000
namespace K
open PySem PySem.Spec PyProof.Rows L2 Z
def top (i : Nat) : Stmt := PySem.Challenge.pw_laidroads_k49_one_place_more.main.body.getD i (.Pass ⟨0, 0, 0, 0⟩)
def inC (s : Stmt) (j : Nat) : Stmt := match s with
  | .ClassDef _ _ _ b _ _ _ _ _ _ _ => b.getD j (.Pass ⟨0, 0, 0, 0⟩)
  | _ => .Pass ⟨0, 0, 0, 0⟩
def N_is_whole : List Str := ["thing"]
def P_is_whole : List Str := ["thing"]
def c_is_whole : CSs := (.cons (.ret (.bop true (.cons (.isi (.var 0) .int) (.cons (.not (.isi (.var 0) .bool)) .nil))))
  .nil)
def N_is_from : List Str := ["thing", "least"]
def P_is_from : List Str := ["thing", "least"]
def c_is_from : CSs := (.cons (.ret (.bop true (.cons (.call "is_whole" (.cons (.var 0) .nil)) (.cons (.cmp .ge (.var 0) (.var 1)) .nil))))
  .nil)
def N_is_square : List Str := ["thing", "many", "row", "number"]
def P_is_square : List Str := ["thing", "many"]
def c_is_square_l1 : CN := (.lc (.name 3) (.seq (.var 2)) .nil (.call "is_whole" (.cons (.var 3) .nil)) [("number", 3)])
def c_is_square_b1 : CSs := (.cons (.ite (.bop false (.cons (.not (.isi (.var 2) .tuple)) (.cons (.cmp .ne (.bi .len (.cons (.var 2) .nil)) (.var 1)) (.cons (.not (.bi .all (.cons (.tmp c_is_square_l1) .nil))) .nil))))
  (.cons (.ret (.bl false))
  .nil)
  .nil)
  .nil)
def c_is_square : CSs := (.cons (.ite (.bop false (.cons (.not (.isi (.var 0) .tuple)) (.cons (.cmp .ne (.bi .len (.cons (.var 0) .nil)) (.var 1)) .nil)))
  (.cons (.ret (.bl false))
  .nil)
  .nil)
  (.cons (.for_ (.name 2) (.seq (.var 0)) c_is_square_b1)
  (.cons (.ret (.bl true))
  .nil)))
def c_is_square_s0 : CS := (.ite (.bop false (.cons (.not (.isi (.var 0) .tuple)) (.cons (.cmp .ne (.bi .len (.cons (.var 0) .nil)) (.var 1)) .nil)))
  (.cons (.ret (.bl false))
  .nil)
  .nil)
def c_is_square_s1 : CS := (.for_ (.name 2) (.seq (.var 0)) c_is_square_b1)
def c_is_square_s2 : CS := (.ret (.bl true))
theorem x_is_square : c_is_square = (.cons c_is_square_s0 (.cons c_is_square_s1 (.cons c_is_square_s2 .nil))) := rfl
def N_less_ones : List Str := ["web", "i", "row", "k", "number"]
def P_less_ones : List Str := ["web"]
def c_less_ones_l1 : CN := (.lc (.tup (.cons (.name 3) (.cons (.name 4) .nil))) (.enum (.var 2)) .nil (.bin .sub (.var 4) (.bi .int (.cons (.cmp .eq (.var 1) (.var 3)) .nil))) [("k", 3), ("number", 4)])
def c_less_ones_l2 : CN := (.lc (.tup (.cons (.name 1) (.cons (.name 2) .nil))) (.enum (.var 0)) .nil (.bi .tuple (.cons (.tmp c_less_ones_l1) .nil)) [("i", 1), ("row", 2)])
def c_less_ones : CSs := (.cons (.ret (.bi .tuple (.cons (.tmp c_less_ones_l2) .nil)))
  .nil)
def N_set_row : List Str := ["square", "at", "row"]
def P_set_row : List Str := ["square", "at", "row"]
def c_set_row : CSs := (.cons (.ret (.bin .add (.bin .add (.sl (.var 0) .nil (.cons (.var 1) .nil)) (.tup (.cons (.bi .tuple (.cons (.var 2) .nil)) .nil))) (.sl (.var 0) (.cons (.bin .add (.var 1) (.int 1)) .nil) .nil)))
  .nil)
def N_is_web : List Str := ["thing", "row"]
def P_is_web : List Str := ["thing"]
def c_is_web_l1 : CN := (.lc (.name 1) (.seq (.var 0)) .nil (.cmp .ge (.bi .min (.cons (.var 1) .nil)) (.int 0)) [("row", 1)])
def c_is_web : CSs := (.cons (.ite (.bop false (.cons (.not (.isi (.var 0) .tuple)) (.cons (.not (.chn .le .le (.int 1) (.bi .len (.cons (.var 0) .nil)) (.glob "MOST_PLACES_webs"))) (.cons (.not (.call "is_square" (.cons (.var 0) (.cons (.bi .len (.cons (.var 0) .nil)) .nil)))) .nil))))
  (.cons (.ret (.bl false))
  .nil)
  .nil)
  (.cons (.ret (.bi .all (.cons (.tmp c_is_web_l1) .nil)))
  .nil))
def c_is_web_s0 : CS := (.ite (.bop false (.cons (.not (.isi (.var 0) .tuple)) (.cons (.not (.chn .le .le (.int 1) (.bi .len (.cons (.var 0) .nil)) (.glob "MOST_PLACES_webs"))) (.cons (.not (.call "is_square" (.cons (.var 0) (.cons (.bi .len (.cons (.var 0) .nil)) .nil)))) .nil))))
  (.cons (.ret (.bl false))
  .nil)
  .nil)
def c_is_web_s1 : CS := (.ret (.bi .all (.cons (.tmp c_is_web_l1) .nil)))
theorem x_is_web : c_is_web = (.cons c_is_web_s0 (.cons c_is_web_s1 .nil)) := rfl
def N_need_web : List Str := ["web"]
def P_need_web : List Str := ["web"]
def c_need_web : CSs := (.cons (.ite (.not (.call "is_web" (.cons (.var 0) .nil)))
  (.cons (.raise "NoWeb")
  .nil)
  .nil)
  .nil)
def N_led : List Str := ["web", "i", "j", "often", "most", "row", "k", "number", "more"]
def P_led : List Str := ["web", "i", "j", "often"]
def c_led_l1 : CN := (.lc (.tup (.cons (.name 6) (.cons (.tup (.cons (.name 7) (.cons (.name 8) .nil))) .nil))) (.enumZ (.idx (.var 0) (.var 1)) (.idx (.var 0) (.var 2))) .nil (.bin .add (.var 7) (.bin .mul (.var 3) (.bin .sub (.var 8) (.bi .int (.cons (.cmp .eq (.var 6) (.var 2)) .nil))))) [("k", 6), ("number", 7), ("more", 8)])
def c_led : CSs := (.cons (.asg (.name 4) (.ite (.cmp .eq (.idx (.idx (.var 0) (.var 2)) (.var 2)) (.int 0)) (.idx (.idx (.var 0) (.var 1)) (.var 2)) (.var 3)))
  (.cons (.ite (.bop false (.cons (.cmp .eq (.idx (.idx (.var 0) (.var 1)) (.var 2)) (.int 0)) (.cons (.cmp .lt (.var 4) (.var 3)) .nil)))
  (.cons (.ret .non)
  .nil)
  .nil)
  (.cons (.asg (.name 5) (.tmp c_led_l1))
  (.cons (.ret (.call "set_row" (.cons (.var 0) (.cons (.var 1) (.cons (.var 5) .nil)))))
  .nil))))
def c_led_s0 : CS := (.asg (.name 4) (.ite (.cmp .eq (.idx (.idx (.var 0) (.var 2)) (.var 2)) (.int 0)) (.idx (.idx (.var 0) (.var 1)) (.var 2)) (.var 3)))
def c_led_s1 : CS := (.ite (.bop false (.cons (.cmp .eq (.idx (.idx (.var 0) (.var 1)) (.var 2)) (.int 0)) (.cons (.cmp .lt (.var 4) (.var 3)) .nil)))
  (.cons (.ret .non)
  .nil)
  .nil)
def c_led_s2 : CS := (.asg (.name 5) (.tmp c_led_l1))
def c_led_s3 : CS := (.ret (.call "set_row" (.cons (.var 0) (.cons (.var 1) (.cons (.var 5) .nil)))))
theorem x_led : c_led = (.cons c_led_s0 (.cons c_led_s1 (.cons c_led_s2 (.cons c_led_s3 .nil)))) := rfl
def N_is_pair : List Str := ["web", "i", "j", "many"]
def P_is_pair : List Str := ["web", "i", "j"]
def c_is_pair : CSs := (.cons (.asg (.name 3) (.bi .len (.cons (.var 0) .nil)))
  (.cons (.ret (.bop true (.cons (.call "is_from" (.cons (.var 1) (.cons (.int 0) .nil))) (.cons (.call "is_from" (.cons (.var 2) (.cons (.int 0) .nil))) (.cons (.cmp .lt (.var 1) (.var 3)) (.cons (.cmp .lt (.var 2) (.var 3)) .nil))))))
  .nil))
def c_is_pair_s0 : CS := (.asg (.name 3) (.bi .len (.cons (.var 0) .nil)))
def c_is_pair_s1 : CS := (.ret (.bop true (.cons (.call "is_from" (.cons (.var 1) (.cons (.int 0) .nil))) (.cons (.call "is_from" (.cons (.var 2) (.cons (.int 0) .nil))) (.cons (.cmp .lt (.var 1) (.var 3)) (.cons (.cmp .lt (.var 2) (.var 3)) .nil))))))
theorem x_is_pair : c_is_pair = (.cons c_is_pair_s0 (.cons c_is_pair_s1 .nil)) := rfl
def N_turned_over : List Str := ["word", "web", "i", "j", "often", "over", "behind"]
def P_turned_over : List Str := ["word", "web", "i", "j", "often"]
def c_turned_over : CSs := (.cons (.ite (.cmp .eq (.var 0) (.str "lead"))
  (.cons (.ret (.call "led" (.cons (.var 1) (.cons (.var 2) (.cons (.var 3) (.cons (.var 4) .nil))))))
  .nil)
  .nil)
  (.cons (.ite (.cmp .eq (.var 0) (.str "unlead"))
  (.cons (.ret .nope)
  .nil)
  .nil)
  (.cons (.asg (.name 5) .nope)
  (.cons (.asg (.name 6) (.ite (.cmp .eq (.var 0) (.str "bring")) (.call "led" (.cons (.var 5) (.cons (.var 3) (.cons (.var 2) (.cons (.var 4) .nil))))) .nope))
  (.cons (.ret (.ite (.isN (.var 6)) .non .nope))
  .nil)))))
def c_turned_over_s0 : CS := (.ite (.cmp .eq (.var 0) (.str "lead"))
  (.cons (.ret (.call "led" (.cons (.var 1) (.cons (.var 2) (.cons (.var 3) (.cons (.var 4) .nil))))))
  .nil)
  .nil)
def c_turned_over_s1 : CS := (.ite (.cmp .eq (.var 0) (.str "unlead"))
  (.cons (.ret .nope)
  .nil)
  .nil)
def c_turned_over_s2 : CS := (.asg (.name 5) .nope)
def c_turned_over_s3 : CS := (.asg (.name 6) (.ite (.cmp .eq (.var 0) (.str "bring")) (.call "led" (.cons (.var 5) (.cons (.var 3) (.cons (.var 2) (.cons (.var 4) .nil))))) .nope))
def c_turned_over_s4 : CS := (.ret (.ite (.isN (.var 6)) .non .nope))
theorem x_turned_over : c_turned_over = (.cons c_turned_over_s0 (.cons c_turned_over_s1 (.cons c_turned_over_s2 (.cons c_turned_over_s3 (.cons c_turned_over_s4 .nil))))) := rfl
def N_put_in : List Str := ["web", "i", "j", "k", "many", "found", "p", "row", "last"]
def P_put_in : List Str := ["web", "i", "j", "k"]
def c_put_in_b1 : CSs := (.cons (.asg (.name 7) (.mk (.listOf (.idx (.var 0) (.var 6)))))
  (.cons (.setI (.var 7) (.var 2) (.bin .sub (.idx (.var 7) (.var 2)) (.bi .int (.cons (.cmp .eq (.var 6) (.var 1)) .nil))))
  (.cons (.ins (.var 7) (.var 3) (.bi .int (.cons (.cmp .eq (.var 6) (.var 1)) .nil)))
  (.cons (.app (.var 5) (.bi .tuple (.cons (.var 7) .nil)))
  .nil))))
def c_put_in_l1 : CN := (.lc (.name 6) (.rng1 (.var 4)) .nil (.bi .int (.cons (.cmp .eq (.var 6) (.var 2)) .nil)) [("p", 6)])
def c_put_in : CSs := (.cons (.asg (.name 4) (.bi .len (.cons (.var 0) .nil)))
  (.cons (.asg (.name 5) (.mk (.lst .nil)))
  (.cons (.for_ (.name 6) (.rng1 (.var 4)) c_put_in_b1)
  (.cons (.asg (.name 8) (.mk c_put_in_l1))
  (.cons (.ins (.var 8) (.var 3) (.int 0))
  (.cons (.ins (.var 5) (.var 3) (.bi .tuple (.cons (.var 8) .nil)))
  (.cons (.ret (.bi .tuple (.cons (.var 5) .nil)))
  .nil)))))))
def c_put_in_b1_s0 : CS := (.asg (.name 7) (.mk (.listOf (.idx (.var 0) (.var 6)))))
def c_put_in_b1_s1 : CS := (.setI (.var 7) (.var 2) (.bin .sub (.idx (.var 7) (.var 2)) (.bi .int (.cons (.cmp .eq (.var 6) (.var 1)) .nil))))
def c_put_in_b1_s2 : CS := (.ins (.var 7) (.var 3) (.bi .int (.cons (.cmp .eq (.var 6) (.var 1)) .nil)))
def c_put_in_b1_s3 : CS := (.app (.var 5) (.bi .tuple (.cons (.var 7) .nil)))
theorem x_put_in_b1 : c_put_in_b1 = (.cons c_put_in_b1_s0 (.cons c_put_in_b1_s1 (.cons c_put_in_b1_s2 (.cons c_put_in_b1_s3 .nil)))) := rfl
def c_put_in_s0 : CS := (.asg (.name 4) (.bi .len (.cons (.var 0) .nil)))
def c_put_in_s1 : CS := (.asg (.name 5) (.mk (.lst .nil)))
def c_put_in_s2 : CS := (.for_ (.name 6) (.rng1 (.var 4)) c_put_in_b1)
def c_put_in_s3 : CS := (.asg (.name 8) (.mk c_put_in_l1))
def c_put_in_s4 : CS := (.ins (.var 8) (.var 3) (.int 0))
def c_put_in_s5 : CS := (.ins (.var 5) (.var 3) (.bi .tuple (.cons (.var 8) .nil)))
def c_put_in_s6 : CS := (.ret (.bi .tuple (.cons (.var 5) .nil)))
theorem x_put_in : c_put_in = (.cons c_put_in_s0 (.cons c_put_in_s1 (.cons c_put_in_s2 (.cons c_put_in_s3 (.cons c_put_in_s4 (.cons c_put_in_s5 (.cons c_put_in_s6 .nil))))))) := rfl
def N_behind : List Str := ["web", "thing", "word", "i", "j", "often", "k"]
def P_behind : List Str := ["web", "thing"]
def c_behind : CSs := (.cons (.ite (.bop false (.cons (.not (.isi (.var 1) .tuple)) (.cons (.cmp .eq (.var 1) (.tup .nil)) (.cons (.not (.isi (.idx (.var 1) (.int 0)) .str)) .nil))))
  (.cons (.ret .non)
  .nil)
  .nil)
  (.cons (.asg (.name 2) (.idx (.var 1) (.int 0)))
  (.cons (.ite (.bop true (.cons (.cmp .inn (.var 2) (.glob "WORDS")) (.cons (.cmp .eq (.bi .len (.cons (.var 1) .nil)) (.int 4)) .nil)))
  (.cons (.asg (.tup (.cons (.name 3) (.cons (.name 4) (.cons (.name 5) .nil)))) (.sl (.var 1) (.cons (.int 1) .nil) .nil))
  (.cons (.ite (.bop false (.cons (.not (.call "is_pair" (.cons (.var 0) (.cons (.var 3) (.cons (.var 4) .nil))))) (.cons (.cmp .eq (.var 3) (.var 4)) (.cons (.not (.call "is_from" (.cons (.var 5) (.cons (.int 1) .nil)))) .nil))))
  (.cons (.ret .non)
  .nil)
  .nil)
  (.cons (.ret (.call "turned_over" (.cons (.var 2) (.cons (.var 0) (.cons (.var 3) (.cons (.var 4) (.cons (.var 5) .nil)))))))
  .nil)))
  .nil)
  (.cons (.ite (.bop true (.cons (.cmp .eq (.var 2) (.str "put")) (.cons (.cmp .eq (.bi .len (.cons (.var 1) .nil)) (.int 4)) .nil)))
  (.cons (.asg (.tup (.cons (.name 3) (.cons (.name 4) (.cons (.name 6) .nil)))) (.sl (.var 1) (.cons (.int 1) .nil) .nil))
  (.cons (.ite (.bop false (.cons (.not (.call "is_pair" (.cons (.var 0) (.cons (.var 3) (.cons (.var 4) .nil))))) (.cons (.not (.call "is_from" (.cons (.var 6) (.cons (.int 0) .nil)))) (.cons (.cmp .gt (.var 6) (.bi .len (.cons (.var 0) .nil))) (.cons (.cmp .eq (.bi .len (.cons (.var 0) .nil)) (.glob "MOST_PLACES_deeds")) .nil)))))
  (.cons (.ret .non)
  .nil)
  .nil)
  (.cons (.ret (.ite (.cmp .gt (.idx (.idx (.var 0) (.var 3)) (.var 4)) (.int 0)) (.call "put_in" (.cons (.var 0) (.cons (.var 3) (.cons (.var 4) (.cons (.var 6) .nil))))) .non))
  .nil)))
  .nil)
  (.cons (.ite (.bop true (.cons (.cmp .eq (.var 2) (.str "out")) (.cons (.cmp .eq (.bi .len (.cons (.var 1) .nil)) (.int 2)) (.cons (.call "is_pair" (.cons (.var 0) (.cons (.idx (.var 1) (.int 1)) (.cons (.idx (.var 1) (.int 1)) .nil)))) .nil))))
  (.cons (.ret (.ite (.notN .nope) .nope .non))
  .nil)
  .nil)
  (.cons (.ret .non)
  .nil))))))
def c_behind_s0 : CS := (.ite (.bop false (.cons (.not (.isi (.var 1) .tuple)) (.cons (.cmp .eq (.var 1) (.tup .nil)) (.cons (.not (.isi (.idx (.var 1) (.int 0)) .str)) .nil))))
  (.cons (.ret .non)
  .nil)
  .nil)
def c_behind_s1 : CS := (.asg (.name 2) (.idx (.var 1) (.int 0)))
def c_behind_s2 : CS := (.ite (.bop true (.cons (.cmp .inn (.var 2) (.glob "WORDS")) (.cons (.cmp .eq (.bi .len (.cons (.var 1) .nil)) (.int 4)) .nil)))
  (.cons (.asg (.tup (.cons (.name 3) (.cons (.name 4) (.cons (.name 5) .nil)))) (.sl (.var 1) (.cons (.int 1) .nil) .nil))
  (.cons (.ite (.bop false (.cons (.not (.call "is_pair" (.cons (.var 0) (.cons (.var 3) (.cons (.var 4) .nil))))) (.cons (.cmp .eq (.var 3) (.var 4)) (.cons (.not (.call "is_from" (.cons (.var 5) (.cons (.int 1) .nil)))) .nil))))
  (.cons (.ret .non)
  .nil)
  .nil)
  (.cons (.ret (.call "turned_over" (.cons (.var 2) (.cons (.var 0) (.cons (.var 3) (.cons (.var 4) (.cons (.var 5) .nil)))))))
  .nil)))
  .nil)
def c_behind_s3 : CS := (.ite (.bop true (.cons (.cmp .eq (.var 2) (.str "put")) (.cons (.cmp .eq (.bi .len (.cons (.var 1) .nil)) (.int 4)) .nil)))
  (.cons (.asg (.tup (.cons (.name 3) (.cons (.name 4) (.cons (.name 6) .nil)))) (.sl (.var 1) (.cons (.int 1) .nil) .nil))
  (.cons (.ite (.bop false (.cons (.not (.call "is_pair" (.cons (.var 0) (.cons (.var 3) (.cons (.var 4) .nil))))) (.cons (.not (.call "is_from" (.cons (.var 6) (.cons (.int 0) .nil)))) (.cons (.cmp .gt (.var 6) (.bi .len (.cons (.var 0) .nil))) (.cons (.cmp .eq (.bi .len (.cons (.var 0) .nil)) (.glob "MOST_PLACES_deeds")) .nil)))))
  (.cons (.ret .non)
  .nil)
  .nil)
  (.cons (.ret (.ite (.cmp .gt (.idx (.idx (.var 0) (.var 3)) (.var 4)) (.int 0)) (.call "put_in" (.cons (.var 0) (.cons (.var 3) (.cons (.var 4) (.cons (.var 6) .nil))))) .non))
  .nil)))
  .nil)
def c_behind_s4 : CS := (.ite (.bop true (.cons (.cmp .eq (.var 2) (.str "out")) (.cons (.cmp .eq (.bi .len (.cons (.var 1) .nil)) (.int 2)) (.cons (.call "is_pair" (.cons (.var 0) (.cons (.idx (.var 1) (.int 1)) (.cons (.idx (.var 1) (.int 1)) .nil)))) .nil))))
  (.cons (.ret (.ite (.notN .nope) .nope .non))
  .nil)
  .nil)
def c_behind_s5 : CS := (.ret .non)
theorem x_behind : c_behind = (.cons c_behind_s0 (.cons c_behind_s1 (.cons c_behind_s2 (.cons c_behind_s3 (.cons c_behind_s4 (.cons c_behind_s5 .nil)))))) := rfl
def N_Bench____init__ : List Str := ["self", "web"]
def P_Bench____init__ : List Str := ["self", "web"]
def c_Bench____init__ : CSs := (.cons (.setF "Bench" "now" (.var 0) (.var 1))
  (.cons (.setF "Bench" "log" (.var 0) (.mk (.lst .nil)))
  .nil))
def c_Bench____init___s0 : CS := (.setF "Bench" "now" (.var 0) (.var 1))
def c_Bench____init___s1 : CS := (.setF "Bench" "log" (.var 0) (.mk (.lst .nil)))
theorem x_Bench____init__ : c_Bench____init__ = (.cons c_Bench____init___s0 (.cons c_Bench____init___s1 .nil)) := rfl
def N_Bench__do : List Str := ["self", "word", "parts", "deed"]
def P_Bench__do : List Str := ["self", "word", "parts"]
def c_Bench__do : CSs := (.cons (.asg (.name 3) (.bin .add (.tup (.cons (.var 1) .nil)) (.var 2)))
  (.cons (.setF "Bench" "now" (.var 0) (.call "behind" (.cons (.fld "Bench" "now" (.var 0)) (.cons (.var 3) .nil))))
  (.cons (.app (.fld "Bench" "log" (.var 0)) (.var 3))
  .nil)))
def c_Bench__do_s0 : CS := (.asg (.name 3) (.bin .add (.tup (.cons (.var 1) .nil)) (.var 2)))
def c_Bench__do_s1 : CS := (.setF "Bench" "now" (.var 0) (.call "behind" (.cons (.fld "Bench" "now" (.var 0)) (.cons (.var 3) .nil))))
def c_Bench__do_s2 : CS := (.app (.fld "Bench" "log" (.var 0)) (.var 3))
theorem x_Bench__do : c_Bench__do = (.cons c_Bench__do_s0 (.cons c_Bench__do_s1 (.cons c_Bench__do_s2 .nil))) := rfl
def N_is_full_by : List Str := ["web", "row"]
def P_is_full_by : List Str := ["web"]
def c_is_full_by_l1 : CN := (.lc (.name 1) (.seq (.call "less_ones" (.cons (.var 0) .nil))) .nil (.bi .min (.cons (.var 1) .nil)) [("row", 1)])
def c_is_full_by : CSs := (.cons (.ret (.cmp .ge (.bi .min (.cons (.tmp c_is_full_by_l1) .nil)) (.int 1)))
  .nil)
def N_need_full : List Str := ["web"]
def P_need_full : List Str := ["web"]
def c_need_full : CSs := (.cons (.expr (.call "need_web" (.cons (.var 0) .nil)))
  (.cons (.ite (.not (.call "is_full_by" (.cons (.var 0) .nil)))
  (.cons (.raise "NotFull")
  .nil)
  .nil)
  .nil))
def c_need_full_s0 : CS := (.expr (.call "need_web" (.cons (.var 0) .nil)))
def c_need_full_s1 : CS := (.ite (.not (.call "is_full_by" (.cons (.var 0) .nil)))
  (.cons (.raise "NotFull")
  .nil)
  .nil)
theorem x_need_full : c_need_full = (.cons c_need_full_s0 (.cons c_need_full_s1 .nil)) := rfl
def N_grow_bench : List Str := ["bench", "many", "i"]
def P_grow_bench : List Str := ["bench"]
def c_grow_bench_b1 : CSs := (.cons (.expr (.meth "Bench" "do" (.var 0) .nil ["word", "parts"] (.cons (.str "lead") (.cons (.tup (.cons (.var 2) (.cons (.int 0) (.cons (.int 1) .nil)))) .nil))))
  .nil)
def c_grow_bench : CSs := (.cons (.asg (.name 1) (.bi .len (.cons (.fld "Bench" "now" (.var 0)) .nil)))
  (.cons (.expr (.meth "Bench" "do" (.var 0) .nil ["word", "parts"] (.cons (.str "put") (.cons (.tup (.cons (.int 0) (.cons (.int 0) (.cons (.var 1) .nil)))) .nil))))
  (.cons (.expr (.meth "Bench" "do" (.var 0) .nil ["word", "parts"] (.cons (.str "lead") (.cons (.tup (.cons (.var 1) (.cons (.int 0) (.cons (.int 2) .nil)))) .nil))))
  (.cons (.for_ (.name 2) (.rng2 (.int 1) (.var 1)) c_grow_bench_b1)
  (.cons (.expr (.meth "Bench" "do" (.var 0) .nil ["word", "parts"] (.cons (.str "lead") (.cons (.tup (.cons (.int 0) (.cons (.var 1) (.cons (.int 1) .nil)))) .nil))))
  .nil)))))
def c_grow_bench_s0 : CS := (.asg (.name 1) (.bi .len (.cons (.fld "Bench" "now" (.var 0)) .nil)))
def c_grow_bench_s1 : CS := (.expr (.meth "Bench" "do" (.var 0) .nil ["word", "parts"] (.cons (.str "put") (.cons (.tup (.cons (.int 0) (.cons (.int 0) (.cons (.var 1) .nil)))) .nil))))
def c_grow_bench_s2 : CS := (.expr (.meth "Bench" "do" (.var 0) .nil ["word", "parts"] (.cons (.str "lead") (.cons (.tup (.cons (.var 1) (.cons (.int 0) (.cons (.int 2) .nil)))) .nil))))
def c_grow_bench_s3 : CS := (.for_ (.name 2) (.rng2 (.int 1) (.var 1)) c_grow_bench_b1)
def c_grow_bench_s4 : CS := (.expr (.meth "Bench" "do" (.var 0) .nil ["word", "parts"] (.cons (.str "lead") (.cons (.tup (.cons (.int 0) (.cons (.var 1) (.cons (.int 1) .nil)))) .nil))))
theorem x_grow_bench : c_grow_bench = (.cons c_grow_bench_s0 (.cons c_grow_bench_s1 (.cons c_grow_bench_s2 (.cons c_grow_bench_s3 (.cons c_grow_bench_s4 .nil))))) := rfl
def N_more : List Str := ["web", "bench"]
def P_more : List Str := ["web"]
def c_more : CSs := (.cons (.expr (.call "need_full" (.cons (.var 0) .nil)))
  (.cons (.ite (.cmp .eq (.bi .len (.cons (.var 0) .nil)) (.glob "MOST_PLACES_deeds"))
  (.cons (.raise "TooGreat")
  .nil)
  .nil)
  (.cons (.asg (.name 1) (.new "Bench" (.cons (.var 0) .nil)))
  (.cons (.expr (.call "grow_bench" (.cons (.var 1) .nil)))
  (.cons (.ret (.fld "Bench" "log" (.var 1)))
  .nil)))))
def c_more_s0 : CS := (.expr (.call "need_full" (.cons (.var 0) .nil)))
def c_more_s1 : CS := (.ite (.cmp .eq (.bi .len (.cons (.var 0) .nil)) (.glob "MOST_PLACES_deeds"))
  (.cons (.raise "TooGreat")
  .nil)
  .nil)
def c_more_s2 : CS := (.asg (.name 1) (.new "Bench" (.cons (.var 0) .nil)))
def c_more_s3 : CS := (.expr (.call "grow_bench" (.cons (.var 1) .nil)))
def c_more_s4 : CS := (.ret (.fld "Bench" "log" (.var 1)))
theorem x_more : c_more = (.cons c_more_s0 (.cons c_more_s1 (.cons c_more_s2 (.cons c_more_s3 (.cons c_more_s4 .nil))))) := rfl
def N__law_spread : List Str := ["_law_cell", "_law_at", "_law_primes", "_law_mixed", "_law_one_here", "_law_two", "_law_three"]
def P__law_spread : List Str := ["_law_cell", "_law_at"]
def c__law_spread : CSs := (.cons (.ite (.cmp .ge (.var 0) (.bin .pw (.int 10) (.int 18)))
  (.cons (.ret (.var 0))
  .nil)
  .nil)
  (.cons (.asg (.name 2) (.tmp (.lst (.cons (.int 2147483629) (.cons (.int 2147483587) (.cons (.int 2147483579) (.cons (.int 2147483563) (.cons (.int 2147483549) (.cons (.int 2147483543) (.cons (.int 2147483497) .nil))))))))))
  (.cons (.asg (.name 2) (.bin .add (.var 2) (.tmp (.lst (.cons (.int 2147483489) (.cons (.int 2147483477) (.cons (.int 2147483423) (.cons (.int 2147483399) (.cons (.int 2147483353) (.cons (.int 2147483323) .nil))))))))))
  (.cons (.asg (.name 3) (.bin .add (.bin .add (.bin .mul (.bin .md (.var 0) (.int 1000000007)) (.bin .add (.bin .mul (.int 2) (.var 1)) (.int 69069))) (.bin .mul (.var 1) (.int 40503))) (.int 977)))
  (.cons (.asg (.name 4) (.bin .md (.bin .pw (.var 3) (.int 3)) (.idx (.var 2) (.bin .md (.var 1) (.int 13)))))
  (.cons (.asg (.name 5) (.bin .md (.bin .pw (.bin .add (.bin .add (.bin .mul (.var 4) (.bin .add (.var 1) (.int 3))) (.bin .md (.var 0) (.int 65537))) (.int 5)) (.int 5)) (.idx (.var 2) (.bin .md (.bin .add (.var 1) (.int 5)) (.int 13)))))
  (.cons (.asg (.name 6) (.bin .md (.bin .pw (.bin .add (.bin .add (.var 5) (.bin .md (.var 4) (.int 1009))) (.var 1)) (.int 3)) (.idx (.var 2) (.bin .md (.bin .add (.var 1) (.int 7)) (.int 13)))))
  (.cons (.ret (.bin .add (.bin .mul (.bin .add (.bin .mul (.var 4) (.int 2147483647)) (.var 5)) (.int 2147483647)) (.var 6)))
  .nil))))))))
def c__law_spread_s0 : CS := (.ite (.cmp .ge (.var 0) (.bin .pw (.int 10) (.int 18)))
  (.cons (.ret (.var 0))
  .nil)
  .nil)
def c__law_spread_s1 : CS := (.asg (.name 2) (.tmp (.lst (.cons (.int 2147483629) (.cons (.int 2147483587) (.cons (.int 2147483579) (.cons (.int 2147483563) (.cons (.int 2147483549) (.cons (.int 2147483543) (.cons (.int 2147483497) .nil))))))))))
def c__law_spread_s2 : CS := (.asg (.name 2) (.bin .add (.var 2) (.tmp (.lst (.cons (.int 2147483489) (.cons (.int 2147483477) (.cons (.int 2147483423) (.cons (.int 2147483399) (.cons (.int 2147483353) (.cons (.int 2147483323) .nil))))))))))
def c__law_spread_s3 : CS := (.asg (.name 3) (.bin .add (.bin .add (.bin .mul (.bin .md (.var 0) (.int 1000000007)) (.bin .add (.bin .mul (.int 2) (.var 1)) (.int 69069))) (.bin .mul (.var 1) (.int 40503))) (.int 977)))
def c__law_spread_s4 : CS := (.asg (.name 4) (.bin .md (.bin .pw (.var 3) (.int 3)) (.idx (.var 2) (.bin .md (.var 1) (.int 13)))))
def c__law_spread_s5 : CS := (.asg (.name 5) (.bin .md (.bin .pw (.bin .add (.bin .add (.bin .mul (.var 4) (.bin .add (.var 1) (.int 3))) (.bin .md (.var 0) (.int 65537))) (.int 5)) (.int 5)) (.idx (.var 2) (.bin .md (.bin .add (.var 1) (.int 5)) (.int 13)))))
def c__law_spread_s6 : CS := (.asg (.name 6) (.bin .md (.bin .pw (.bin .add (.bin .add (.var 5) (.bin .md (.var 4) (.int 1009))) (.var 1)) (.int 3)) (.idx (.var 2) (.bin .md (.bin .add (.var 1) (.int 7)) (.int 13)))))
def c__law_spread_s7 : CS := (.ret (.bin .add (.bin .mul (.bin .add (.bin .mul (.var 4) (.int 2147483647)) (.var 5)) (.int 2147483647)) (.var 6)))
theorem x__law_spread : c__law_spread = (.cons c__law_spread_s0 (.cons c__law_spread_s1 (.cons c__law_spread_s2 (.cons c__law_spread_s3 (.cons c__law_spread_s4 (.cons c__law_spread_s5 (.cons c__law_spread_s6 (.cons c__law_spread_s7 .nil)))))))) := rfl
def N__law_open : List Str := ["_law_script", "_law_cells", "_law_k", "_law_cell"]
def P__law_open : List Str := ["_law_script"]
def c__law_open_b1 : CSs := (.cons (.setI (.var 1) (.bin .md (.var 2) (.int 12)) (.bin .add (.idx (.var 1) (.bin .md (.var 2) (.int 12))) (.var 3)))
  .nil)
def c__law_open : CSs := (.cons (.asg (.name 1) (.mk (.listOf (.sl (.var 0) .nil (.cons (.int 12) .nil)))))
  (.cons (.for_ (.tup (.cons (.name 2) (.cons (.name 3) .nil))) (.enum (.sl (.var 0) (.cons (.int 12) .nil) (.cons (.int 63) .nil))) c__law_open_b1)
  (.cons (.ret (.mk (.lst (.cons (.var 1) (.cons (.int 0) (.cons (.int 0) .nil))))))
  .nil)))
def c__law_open_s0 : CS := (.asg (.name 1) (.mk (.listOf (.sl (.var 0) .nil (.cons (.int 12) .nil)))))
def c__law_open_s1 : CS := (.for_ (.tup (.cons (.name 2) (.cons (.name 3) .nil))) (.enum (.sl (.var 0) (.cons (.int 12) .nil) (.cons (.int 63) .nil))) c__law_open_b1)
def c__law_open_s2 : CS := (.ret (.mk (.lst (.cons (.var 1) (.cons (.int 0) (.cons (.int 0) .nil))))))
theorem x__law_open : c__law_open = (.cons c__law_open_s0 (.cons c__law_open_s1 (.cons c__law_open_s2 .nil))) := rfl
def N__law_anew : List Str := ["_law_pen"]
def P__law_anew : List Str := ["_law_pen"]
def c__law_anew : CSs := (.cons (.setI (.var 0) (.int 2) (.int 0))
  (.cons (.ret (.var 0))
  .nil))
def c__law_anew_s0 : CS := (.setI (.var 0) (.int 2) (.int 0))
def c__law_anew_s1 : CS := (.ret (.var 0))
theorem x__law_anew : c__law_anew = (.cons c__law_anew_s0 (.cons c__law_anew_s1 .nil)) := rfl
def N__law_take : List Str := ["_law_pen", "_law_many", "_law_at", "_law_cell", "_law_found"]
def P__law_take : List Str := ["_law_pen", "_law_many"]
def c__law_take : CSs := (.cons (.ite (.cmp .lt (.idx (.var 0) (.int 2)) (.var 1))
  (.cons (.asg (.name 2) (.idx (.var 0) (.int 1)))
  (.cons (.asg (.name 3) (.int 0))
  (.cons (.ite (.cmp .lt (.var 2) (.bi .len (.cons (.idx (.var 0) (.int 0)) .nil)))
  (.cons (.asg (.name 3) (.idx (.idx (.var 0) (.int 0)) (.var 2)))
  .nil)
  (.cons (.ite (.cmp .gt (.bi .len (.cons (.idx (.var 0) (.int 0)) .nil)) (.int 0))
  (.cons (.asg (.name 3) (.bin .md (.idx (.idx (.var 0) (.int 0)) (.bin .md (.bin .add (.bin .mul (.var 2) (.int 5)) (.int 3)) (.bi .len (.cons (.idx (.var 0) (.int 0)) .nil)))) (.bin .add (.bin .pw (.int 10) (.int 17)) (.var 2))))
  .nil)
  .nil)
  .nil))
  (.cons (.setI (.var 0) (.int 1) (.bin .add (.var 2) (.int 1)))
  (.cons (.setI (.var 0) (.int 2) (.call "_law_spread" (.cons (.var 3) (.cons (.var 2) .nil))))
  .nil)))))
  .nil)
  (.cons (.asg (.name 4) (.bin .md (.idx (.var 0) (.int 2)) (.var 1)))
  (.cons (.setI (.var 0) (.int 2) (.bin .fd (.idx (.var 0) (.int 2)) (.var 1)))
  (.cons (.ret (.var 4))
  .nil))))
def c__law_take_s0 : CS := (.ite (.cmp .lt (.idx (.var 0) (.int 2)) (.var 1))
  (.cons (.asg (.name 2) (.idx (.var 0) (.int 1)))
  (.cons (.asg (.name 3) (.int 0))
  (.cons (.ite (.cmp .lt (.var 2) (.bi .len (.cons (.idx (.var 0) (.int 0)) .nil)))
  (.cons (.asg (.name 3) (.idx (.idx (.var 0) (.int 0)) (.var 2)))
  .nil)
  (.cons (.ite (.cmp .gt (.bi .len (.cons (.idx (.var 0) (.int 0)) .nil)) (.int 0))
  (.cons (.asg (.name 3) (.bin .md (.idx (.idx (.var 0) (.int 0)) (.bin .md (.bin .add (.bin .mul (.var 2) (.int 5)) (.int 3)) (.bi .len (.cons (.idx (.var 0) (.int 0)) .nil)))) (.bin .add (.bin .pw (.int 10) (.int 17)) (.var 2))))
  .nil)
  .nil)
  .nil))
  (.cons (.setI (.var 0) (.int 1) (.bin .add (.var 2) (.int 1)))
  (.cons (.setI (.var 0) (.int 2) (.call "_law_spread" (.cons (.var 3) (.cons (.var 2) .nil))))
  .nil)))))
  .nil)
def c__law_take_s1 : CS := (.asg (.name 4) (.bin .md (.idx (.var 0) (.int 2)) (.var 1)))
def c__law_take_s2 : CS := (.setI (.var 0) (.int 2) (.bin .fd (.idx (.var 0) (.int 2)) (.var 1)))
def c__law_take_s3 : CS := (.ret (.var 4))
theorem x__law_take : c__law_take = (.cons c__law_take_s0 (.cons c__law_take_s1 (.cons c__law_take_s2 (.cons c__law_take_s3 .nil)))) := rfl
def N__law_one : List Str := ["_law_pen", "_law_some"]
def P__law_one : List Str := ["_law_pen", "_law_some"]
def c__law_one : CSs := (.cons (.ret (.idx (.var 1) (.call "_law_take" (.cons (.var 0) (.cons (.bi .len (.cons (.var 1) .nil)) .nil)))))
  .nil)
def N__law_drawn : List Str := ["_law_pen", "_law_many", "_law_found", "_law_k"]
def P__law_drawn : List Str := ["_law_pen", "_law_many"]
def c__law_drawn_b1 : CSs := (.cons (.ins (.var 2) (.call "_law_take" (.cons (.var 0) (.cons (.bin .add (.var 3) (.int 1)) .nil))) (.var 3))
  .nil)
def c__law_drawn : CSs := (.cons (.asg (.name 2) (.mk (.lst .nil)))
  (.cons (.for_ (.name 3) (.rng1 (.var 1)) c__law_drawn_b1)
  (.cons (.ret (.var 2))
  .nil)))
def c__law_drawn_s0 : CS := (.asg (.name 2) (.mk (.lst .nil)))
def c__law_drawn_s1 : CS := (.for_ (.name 3) (.rng1 (.var 1)) c__law_drawn_b1)
def c__law_drawn_s2 : CS := (.ret (.var 2))
theorem x__law_drawn : c__law_drawn = (.cons c__law_drawn_s0 (.cons c__law_drawn_s1 (.cons c__law_drawn_s2 .nil))) := rfl
def N__law_web : List Str := ["_law_pen", "_law_places", "_law_most", "_law_many", "_law_thin", "_law_found", "_law_i", "_law_row", "_law_j", "_law_number"]
def P__law_web : List Str := ["_law_pen", "_law_places", "_law_most"]
def c__law_web_b1 : CSs := (.cons (.asg (.name 9) (.call "_law_one" (.cons (.var 0) (.cons (.tmp (.lst (.cons (.call "_law_take" (.cons (.var 0) (.cons (.bin .add (.var 2) (.int 1)) .nil))) (.cons (.call "_law_take" (.cons (.var 0) (.cons (.bin .add (.var 2) (.int 1)) .nil))) (.cons (.int 0) (.cons (.call "_law_take" (.cons (.var 0) (.cons (.bin .add (.var 2) (.int 1)) .nil))) .nil)))))) .nil))))
  (.cons (.app (.var 7) (.ite (.bop false (.cons (.cmp .gt (.var 4) (.int 0)) (.cons (.cmp .gt (.call "_law_take" (.cons (.var 0) (.cons (.int 9) .nil))) (.int 0)) .nil))) (.var 9) (.bin .add (.bin .pw (.int 10) (.int 12)) (.var 9))))
  .nil))
def c__law_web_b2 : CSs := (.cons (.asg (.name 7) (.mk (.lst .nil)))
  (.cons (.for_ (.name 8) (.rng1 (.var 3)) c__law_web_b1)
  (.cons (.app (.var 5) (.bi .tuple (.cons (.var 7) .nil)))
  .nil)))
def c__law_web : CSs := (.cons (.asg (.name 3) (.bin .add (.int 1) (.call "_law_take" (.cons (.var 0) (.cons (.var 1) .nil)))))
  (.cons (.par 4 5 (.call "_law_take" (.cons (.var 0) (.cons (.int 4) .nil))) (.mk (.lst .nil)))
  (.cons (.for_ (.name 6) (.rng1 (.var 3)) c__law_web_b2)
  (.cons (.ret (.bi .tuple (.cons (.var 5) .nil)))
  .nil))))
def c__law_web_b1_s0 : CS := (.asg (.name 9) (.call "_law_one" (.cons (.var 0) (.cons (.tmp (.lst (.cons (.call "_law_take" (.cons (.var 0) (.cons (.bin .add (.var 2) (.int 1)) .nil))) (.cons (.call "_law_take" (.cons (.var 0) (.cons (.bin .add (.var 2) (.int 1)) .nil))) (.cons (.int 0) (.cons (.call "_law_take" (.cons (.var 0) (.cons (.bin .add (.var 2) (.int 1)) .nil))) .nil)))))) .nil))))
def c__law_web_b1_s1 : CS := (.app (.var 7) (.ite (.bop false (.cons (.cmp .gt (.var 4) (.int 0)) (.cons (.cmp .gt (.call "_law_take" (.cons (.var 0) (.cons (.int 9) .nil))) (.int 0)) .nil))) (.var 9) (.bin .add (.bin .pw (.int 10) (.int 12)) (.var 9))))
theorem x__law_web_b1 : c__law_web_b1 = (.cons c__law_web_b1_s0 (.cons c__law_web_b1_s1 .nil)) := rfl
def c__law_web_b2_s0 : CS := (.asg (.name 7) (.mk (.lst .nil)))
def c__law_web_b2_s1 : CS := (.for_ (.name 8) (.rng1 (.var 3)) c__law_web_b1)
def c__law_web_b2_s2 : CS := (.app (.var 5) (.bi .tuple (.cons (.var 7) .nil)))
theorem x__law_web_b2 : c__law_web_b2 = (.cons c__law_web_b2_s0 (.cons c__law_web_b2_s1 (.cons c__law_web_b2_s2 .nil))) := rfl
def c__law_web_s0 : CS := (.asg (.name 3) (.bin .add (.int 1) (.call "_law_take" (.cons (.var 0) (.cons (.var 1) .nil)))))
def c__law_web_s1 : CS := (.par 4 5 (.call "_law_take" (.cons (.var 0) (.cons (.int 4) .nil))) (.mk (.lst .nil)))
def c__law_web_s2 : CS := (.for_ (.name 6) (.rng1 (.var 3)) c__law_web_b2)
def c__law_web_s3 : CS := (.ret (.bi .tuple (.cons (.var 5) .nil)))
theorem x__law_web : c__law_web = (.cons c__law_web_s0 (.cons c__law_web_s1 (.cons c__law_web_s2 (.cons c__law_web_s3 .nil)))) := rfl
def N__law_rich : List Str := ["_law_pen", "_law_places", "_law_most", "_law_many", "_law_ring", "_law_thin", "_law_table", "_law_k", "_law_i", "_law_j", "_law_row"]
def P__law_rich : List Str := ["_law_pen", "_law_places", "_law_most"]
def c__law_rich_l1 : CN := (.lc (.name 7) (.rng1 (.var 3)) .nil (.mk (.rep (.tmp (.lst (.cons (.int 0) .nil))) (.var 3))) [("_law_k", 7)])
def c__law_rich_b1 : CSs := (.cons (.setI (.idx (.var 6) (.idx (.var 4) (.var 7))) (.idx (.var 4) (.bin .md (.bin .add (.var 7) (.int 1)) (.var 3))) (.int 1))
  .nil)
def c__law_rich_b2 : CSs := (.cons (.ite (.cmp .eq (.call "_law_take" (.cons (.var 0) (.cons (.bin .add (.int 1) (.var 5)) .nil))) (.int 0))
  (.cons (.setI (.idx (.var 6) (.var 8)) (.var 9) (.bin .add (.idx (.idx (.var 6) (.var 8)) (.var 9)) (.call "_law_take" (.cons (.var 0) (.cons (.bin .add (.var 2) (.int 1)) .nil)))))
  .nil)
  .nil)
  .nil)
def c__law_rich_b3 : CSs := (.cons (.for_ (.name 9) (.rng1 (.var 3)) c__law_rich_b2)
  .nil)
def c__law_rich_l2 : CN := (.lc (.name 10) (.seq (.var 6)) .nil (.bi .tuple (.cons (.var 10) .nil)) [("_law_row", 10)])
def c__law_rich : CSs := (.cons (.asg (.name 3) (.bin .add (.int 1) (.call "_law_take" (.cons (.var 0) (.cons (.var 1) .nil)))))
  (.cons (.par 4 5 (.call "_law_drawn" (.cons (.var 0) (.cons (.var 3) .nil))) (.call "_law_take" (.cons (.var 0) (.cons (.int 4) .nil))))
  (.cons (.asg (.name 6) (.tmp c__law_rich_l1))
  (.cons (.for_ (.name 7) (.rng1 (.var 3)) c__law_rich_b1)
  (.cons (.for_ (.name 8) (.rng1 (.var 3)) c__law_rich_b3)
  (.cons (.par 8 9 (.call "_law_take" (.cons (.var 0) (.cons (.var 3) .nil))) (.call "_law_take" (.cons (.var 0) (.cons (.var 3) .nil))))
  (.cons (.setI (.idx (.var 6) (.var 8)) (.var 9) (.bin .add (.idx (.idx (.var 6) (.var 8)) (.var 9)) (.int 1)))
  (.cons (.ret (.bi .tuple (.cons (.tmp c__law_rich_l2) .nil)))
  .nil))))))))
def c__law_rich_s0 : CS := (.asg (.name 3) (.bin .add (.int 1) (.call "_law_take" (.cons (.var 0) (.cons (.var 1) .nil)))))
def c__law_rich_s1 : CS := (.par 4 5 (.call "_law_drawn" (.cons (.var 0) (.cons (.var 3) .nil))) (.call "_law_take" (.cons (.var 0) (.cons (.int 4) .nil))))
def c__law_rich_s2 : CS := (.asg (.name 6) (.tmp c__law_rich_l1))
def c__law_rich_s3 : CS := (.for_ (.name 7) (.rng1 (.var 3)) c__law_rich_b1)
def c__law_rich_s4 : CS := (.for_ (.name 8) (.rng1 (.var 3)) c__law_rich_b3)
def c__law_rich_s5 : CS := (.par 8 9 (.call "_law_take" (.cons (.var 0) (.cons (.var 3) .nil))) (.call "_law_take" (.cons (.var 0) (.cons (.var 3) .nil))))
def c__law_rich_s6 : CS := (.setI (.idx (.var 6) (.var 8)) (.var 9) (.bin .add (.idx (.idx (.var 6) (.var 8)) (.var 9)) (.int 1)))
def c__law_rich_s7 : CS := (.ret (.bi .tuple (.cons (.tmp c__law_rich_l2) .nil)))
theorem x__law_rich : c__law_rich = (.cons c__law_rich_s0 (.cons c__law_rich_s1 (.cons c__law_rich_s2 (.cons c__law_rich_s3 (.cons c__law_rich_s4 (.cons c__law_rich_s5 (.cons c__law_rich_s6 (.cons c__law_rich_s7 .nil)))))))) := rfl
def N__law_full : List Str := ["_law_pen", "_law_places", "_law_most", "_law_many", "_law_found", "_law_i", "_law_j"]
def P__law_full : List Str := ["_law_pen", "_law_places", "_law_most"]
def c__law_full_l1 : CN := (.lc (.name 6) (.rng1 (.var 3)) .nil (.bin .add (.bin .add (.int 1) (.bi .int (.cons (.cmp .eq (.var 5) (.var 6)) .nil))) (.call "_law_take" (.cons (.var 0) (.cons (.var 2) .nil)))) [("_law_j", 6)])
def c__law_full_b1 : CSs := (.cons (.app (.var 4) (.bi .tuple (.cons (.tmp c__law_full_l1) .nil)))
  .nil)
def c__law_full : CSs := (.cons (.asg (.name 3) (.bin .add (.int 1) (.call "_law_take" (.cons (.var 0) (.cons (.var 1) .nil)))))
  (.cons (.asg (.name 4) (.mk (.lst .nil)))
  (.cons (.for_ (.name 5) (.rng1 (.var 3)) c__law_full_b1)
  (.cons (.ret (.bi .tuple (.cons (.var 4) .nil)))
  .nil))))
def c__law_full_s0 : CS := (.asg (.name 3) (.bin .add (.int 1) (.call "_law_take" (.cons (.var 0) (.cons (.var 1) .nil)))))
def c__law_full_s1 : CS := (.asg (.name 4) (.mk (.lst .nil)))
def c__law_full_s2 : CS := (.for_ (.name 5) (.rng1 (.var 3)) c__law_full_b1)
def c__law_full_s3 : CS := (.ret (.bi .tuple (.cons (.var 4) .nil)))
theorem x__law_full : c__law_full = (.cons c__law_full_s0 (.cons c__law_full_s1 (.cons c__law_full_s2 (.cons c__law_full_s3 .nil)))) := rfl
def N__law_lead : List Str := ["_law_web_here", "_law_i", "_law_j", "_law_often", "_law_rows", "_law_left", "_law_p", "_law_gain", "_law_turn", "_law_row"]
def P__law_lead : List Str := ["_law_web_here", "_law_i", "_law_j", "_law_often"]
def c__law_lead_l1 : CN := (.lc (.name 9) (.seq (.var 0)) .nil (.mk (.listOf (.var 9))) [("_law_row", 9)])
def c__law_lead_b1 : CSs := (.cons (.asg (.name 7) (.bin .sub (.idx (.idx (.var 4) (.var 2)) (.var 6)) (.bi .int (.cons (.cmp .eq (.var 6) (.var 2)) .nil))))
  (.cons (.setI (.idx (.var 4) (.var 1)) (.var 6) (.bin .add (.idx (.idx (.var 4) (.var 1)) (.var 6)) (.bin .mul (.var 3) (.var 7))))
  .nil))
def c__law_lead_b2 : CSs := (.cons (.setI (.idx (.var 4) (.var 1)) (.var 6) (.bin .add (.idx (.idx (.var 4) (.var 1)) (.var 6)) (.idx (.idx (.var 4) (.var 2)) (.var 6))))
  .nil)
def c__law_lead_b3 : CSs := (.cons (.ite (.cmp .eq (.idx (.idx (.var 4) (.var 1)) (.var 2)) (.int 0))
  (.cons (.ret .non)
  .nil)
  .nil)
  (.cons (.setI (.idx (.var 4) (.var 1)) (.var 2) (.bin .sub (.idx (.idx (.var 4) (.var 1)) (.var 2)) (.int 1)))
  (.cons (.for_ (.name 6) (.rng1 (.bi .len (.cons (.var 4) .nil))) c__law_lead_b2)
  .nil)))
def c__law_lead_l2 : CN := (.lc (.name 9) (.seq (.var 4)) .nil (.bi .tuple (.cons (.var 9) .nil)) [("_law_row", 9)])
def c__law_lead : CSs := (.cons (.asg (.name 4) (.tmp c__law_lead_l1))
  (.cons (.ite (.cmp .gt (.var 3) (.int 99))
  (.cons (.asg (.name 5) (.ite (.cmp .eq (.idx (.idx (.var 4) (.var 2)) (.var 2)) (.int 0)) (.bin .sub (.idx (.idx (.var 4) (.var 1)) (.var 2)) (.var 3)) (.bin .sub (.idx (.idx (.var 4) (.var 1)) (.var 2)) (.int 1))))
  (.cons (.ite (.cmp .lt (.var 5) (.int 0))
  (.cons (.ret .non)
  .nil)
  .nil)
  (.cons (.for_ (.name 6) (.rng1 (.bi .len (.cons (.var 4) .nil))) c__law_lead_b1)
  (.cons (.asg (.name 3) (.int 0))
  .nil))))
  .nil)
  (.cons (.for_ (.name 8) (.rng1 (.var 3)) c__law_lead_b3)
  (.cons (.ret (.bi .tuple (.cons (.tmp c__law_lead_l2) .nil)))
  .nil))))
def c__law_lead_b1_s0 : CS := (.asg (.name 7) (.bin .sub (.idx (.idx (.var 4) (.var 2)) (.var 6)) (.bi .int (.cons (.cmp .eq (.var 6) (.var 2)) .nil))))
def c__law_lead_b1_s1 : CS := (.setI (.idx (.var 4) (.var 1)) (.var 6) (.bin .add (.idx (.idx (.var 4) (.var 1)) (.var 6)) (.bin .mul (.var 3) (.var 7))))
theorem x__law_lead_b1 : c__law_lead_b1 = (.cons c__law_lead_b1_s0 (.cons c__law_lead_b1_s1 .nil)) := rfl
def c__law_lead_b3_s0 : CS := (.ite (.cmp .eq (.idx (.idx (.var 4) (.var 1)) (.var 2)) (.int 0))
  (.cons (.ret .non)
  .nil)
  .nil)
def c__law_lead_b3_s1 : CS := (.setI (.idx (.var 4) (.var 1)) (.var 2) (.bin .sub (.idx (.idx (.var 4) (.var 1)) (.var 2)) (.int 1)))
def c__law_lead_b3_s2 : CS := (.for_ (.name 6) (.rng1 (.bi .len (.cons (.var 4) .nil))) c__law_lead_b2)
theorem x__law_lead_b3 : c__law_lead_b3 = (.cons c__law_lead_b3_s0 (.cons c__law_lead_b3_s1 (.cons c__law_lead_b3_s2 .nil))) := rfl
def c__law_lead_s0 : CS := (.asg (.name 4) (.tmp c__law_lead_l1))
def c__law_lead_s1 : CS := (.ite (.cmp .gt (.var 3) (.int 99))
  (.cons (.asg (.name 5) (.ite (.cmp .eq (.idx (.idx (.var 4) (.var 2)) (.var 2)) (.int 0)) (.bin .sub (.idx (.idx (.var 4) (.var 1)) (.var 2)) (.var 3)) (.bin .sub (.idx (.idx (.var 4) (.var 1)) (.var 2)) (.int 1))))
  (.cons (.ite (.cmp .lt (.var 5) (.int 0))
  (.cons (.ret .non)
  .nil)
  .nil)
  (.cons (.for_ (.name 6) (.rng1 (.bi .len (.cons (.var 4) .nil))) c__law_lead_b1)
  (.cons (.asg (.name 3) (.int 0))
  .nil))))
  .nil)
def c__law_lead_s2 : CS := (.for_ (.name 8) (.rng1 (.var 3)) c__law_lead_b3)
def c__law_lead_s3 : CS := (.ret (.bi .tuple (.cons (.tmp c__law_lead_l2) .nil)))
theorem x__law_lead : c__law_lead = (.cons c__law_lead_s0 (.cons c__law_lead_s1 (.cons c__law_lead_s2 (.cons c__law_lead_s3 .nil)))) := rfl
def N__law_put : List Str := ["_law_web_here", "_law_i", "_law_j", "_law_k", "_law_many", "_law_places", "_law_rows", "_law_p", "_law_q", "_law_left", "_law_row"]
def P__law_put : List Str := ["_law_web_here", "_law_i", "_law_j", "_law_k"]
def c__law_put_l1 : CN := (.lc (.name 7) (.rng1 (.bin .add (.var 4) (.int 1))) (.cons (.cmp .ne (.var 7) (.var 3)) .nil) (.var 7) [("_law_p", 7)])
def c__law_put_l2 : CN := (.lc (.name 7) (.rng1 (.bin .add (.var 4) (.int 1))) .nil (.mk (.rep (.tmp (.lst (.cons (.int 0) .nil))) (.bin .add (.var 4) (.int 1)))) [("_law_p", 7)])
def c__law_put_b1 : CSs := (.cons (.asg (.name 9) (.bin .sub (.idx (.idx (.var 0) (.var 7)) (.var 8)) (.bi .int (.cons (.bop true (.cons (.cmp .eq (.var 7) (.var 1)) (.cons (.cmp .eq (.var 8) (.var 2)) .nil))) .nil))))
  (.cons (.setI (.idx (.var 6) (.idx (.var 5) (.var 7))) (.idx (.var 5) (.var 8)) (.var 9))
  .nil))
def c__law_put_b2 : CSs := (.cons (.for_ (.name 8) (.rng1 (.var 4)) c__law_put_b1)
  .nil)
def c__law_put_l3 : CN := (.lc (.name 10) (.seq (.var 6)) .nil (.bi .tuple (.cons (.var 10) .nil)) [("_law_row", 10)])
def c__law_put : CSs := (.cons (.asg (.name 4) (.bi .len (.cons (.var 0) .nil)))
  (.cons (.asg (.name 5) (.tmp c__law_put_l1))
  (.cons (.asg (.name 6) (.tmp c__law_put_l2))
  (.cons (.for_ (.name 7) (.rng1 (.var 4)) c__law_put_b2)
  (.cons (.setI (.idx (.var 6) (.idx (.var 5) (.var 1))) (.var 3) (.int 1))
  (.cons (.setI (.idx (.var 6) (.var 3)) (.idx (.var 5) (.var 2)) (.int 1))
  (.cons (.ret (.bi .tuple (.cons (.tmp c__law_put_l3) .nil)))
  .nil)))))))
def c__law_put_b1_s0 : CS := (.asg (.name 9) (.bin .sub (.idx (.idx (.var 0) (.var 7)) (.var 8)) (.bi .int (.cons (.bop true (.cons (.cmp .eq (.var 7) (.var 1)) (.cons (.cmp .eq (.var 8) (.var 2)) .nil))) .nil))))
def c__law_put_b1_s1 : CS := (.setI (.idx (.var 6) (.idx (.var 5) (.var 7))) (.idx (.var 5) (.var 8)) (.var 9))
theorem x__law_put_b1 : c__law_put_b1 = (.cons c__law_put_b1_s0 (.cons c__law_put_b1_s1 .nil)) := rfl
def c__law_put_s0 : CS := (.asg (.name 4) (.bi .len (.cons (.var 0) .nil)))
def c__law_put_s1 : CS := (.asg (.name 5) (.tmp c__law_put_l1))
def c__law_put_s2 : CS := (.asg (.name 6) (.tmp c__law_put_l2))
def c__law_put_s3 : CS := (.for_ (.name 7) (.rng1 (.var 4)) c__law_put_b2)
def c__law_put_s4 : CS := (.setI (.idx (.var 6) (.idx (.var 5) (.var 1))) (.var 3) (.int 1))
def c__law_put_s5 : CS := (.setI (.idx (.var 6) (.var 3)) (.idx (.var 5) (.var 2)) (.int 1))
def c__law_put_s6 : CS := (.ret (.bi .tuple (.cons (.tmp c__law_put_l3) .nil)))
theorem x__law_put : c__law_put = (.cons c__law_put_s0 (.cons c__law_put_s1 (.cons c__law_put_s2 (.cons c__law_put_s3 (.cons c__law_put_s4 (.cons c__law_put_s5 (.cons c__law_put_s6 .nil))))))) := rfl
def N__law_whole : List Str := ["_law_thing", "_law_least", "_law_most"]
def P__law_whole : List Str := ["_law_thing", "_law_least", "_law_most"]
def c__law_whole : CSs := (.cons (.ret (.bop true (.cons (.isi (.var 0) .int) (.cons (.not (.isi (.var 0) .bool)) (.cons (.chn .le .le (.var 1) (.var 0) (.var 2)) .nil)))))
  .nil)
def N__law_four : List Str := ["_law_word", "_law_web_here", "_law_i", "_law_j", "_law_often", "_law_over", "_law_found"]
def P__law_four : List Str := ["_law_word", "_law_web_here", "_law_i", "_law_j", "_law_often"]
def c__law_four : CSs := (.cons (.ite (.cmp .eq (.var 0) (.str "lead"))
  (.cons (.ret (.call "_law_lead" (.cons (.var 1) (.cons (.var 2) (.cons (.var 3) (.cons (.var 4) .nil))))))
  .nil)
  .nil)
  (.cons (.ite (.cmp .eq (.var 0) (.str "unlead"))
  (.cons (.ret .nope)
  .nil)
  .nil)
  (.cons (.asg (.name 5) .nope)
  (.cons (.asg (.name 6) (.ite (.cmp .eq (.var 0) (.str "bring")) (.call "_law_lead" (.cons (.var 5) (.cons (.var 3) (.cons (.var 2) (.cons (.var 4) .nil))))) .nope))
  (.cons (.ret (.ite (.isN (.var 6)) .non .nope))
  .nil)))))
def c__law_four_s0 : CS := (.ite (.cmp .eq (.var 0) (.str "lead"))
  (.cons (.ret (.call "_law_lead" (.cons (.var 1) (.cons (.var 2) (.cons (.var 3) (.cons (.var 4) .nil))))))
  .nil)
  .nil)
def c__law_four_s1 : CS := (.ite (.cmp .eq (.var 0) (.str "unlead"))
  (.cons (.ret .nope)
  .nil)
  .nil)
def c__law_four_s2 : CS := (.asg (.name 5) .nope)
def c__law_four_s3 : CS := (.asg (.name 6) (.ite (.cmp .eq (.var 0) (.str "bring")) (.call "_law_lead" (.cons (.var 5) (.cons (.var 3) (.cons (.var 2) (.cons (.var 4) .nil))))) .nope))
def c__law_four_s4 : CS := (.ret (.ite (.isN (.var 6)) .non .nope))
theorem x__law_four : c__law_four = (.cons c__law_four_s0 (.cons c__law_four_s1 (.cons c__law_four_s2 (.cons c__law_four_s3 (.cons c__law_four_s4 .nil))))) := rfl
def N__law_behind : List Str := ["_law_web_here", "_law_thing", "_law_last", "_law_word", "_law_i", "_law_j", "_law_often", "_law_right"]
def P__law_behind : List Str := ["_law_web_here", "_law_thing"]
def c__law_behind : CSs := (.cons (.ite (.bop false (.cons (.not (.isi (.var 1) .tuple)) (.cons (.cmp .nin (.bi .len (.cons (.var 1) .nil)) (.tup (.cons (.int 2) (.cons (.int 4) .nil)))) .nil)))
  (.cons (.ret .non)
  .nil)
  .nil)
  (.cons (.asg (.name 2) (.bin .sub (.bi .len (.cons (.var 0) .nil)) (.int 1)))
  (.cons (.ite (.cmp .eq (.bi .len (.cons (.var 1) .nil)) (.int 2))
  (.cons (.ret (.ite (.bop true (.cons (.cmp .eq (.idx (.var 1) (.int 0)) (.str "out")) (.cons (.call "_law_whole" (.cons (.idx (.var 1) (.int 1)) (.cons (.int 0) (.cons (.var 2) .nil)))) .nil))) .nope .non))
  .nil)
  .nil)
  (.cons (.asg (.tup (.cons (.name 3) (.cons (.name 4) (.cons (.name 5) (.cons (.name 6) .nil))))) (.var 1))
  (.cons (.ite (.bop false (.cons (.not (.call "_law_whole" (.cons (.var 4) (.cons (.int 0) (.cons (.var 2) .nil))))) (.cons (.not (.call "_law_whole" (.cons (.var 5) (.cons (.int 0) (.cons (.var 2) .nil))))) .nil)))
  (.cons (.ret .non)
  .nil)
  .nil)
  (.cons (.ite (.cmp .eq (.var 3) (.str "put"))
  (.cons (.asg (.name 7) (.bop true (.cons (.call "_law_whole" (.cons (.var 6) (.cons (.int 0) (.cons (.bin .add (.var 2) (.int 1)) .nil)))) (.cons (.cmp .lt (.var 2) (.int 7)) (.cons (.cmp .gt (.idx (.idx (.var 0) (.var 4)) (.var 5)) (.int 0)) .nil)))))
  (.cons (.ret (.ite (.var 7) (.call "_law_put" (.cons (.var 0) (.cons (.var 4) (.cons (.var 5) (.cons (.var 6) .nil))))) .non))
  .nil))
  .nil)
  (.cons (.ite (.bop false (.cons (.cmp .nin (.var 3) (.tup (.cons (.str "lead") (.cons (.str "bring") (.cons (.str "unlead") (.cons (.str "unbring") .nil)))))) (.cons (.cmp .eq (.var 4) (.var 5)) (.cons (.not (.call "_law_whole" (.cons (.var 6) (.cons (.int 1) (.cons (.var 6) .nil))))) .nil))))
  (.cons (.ret .non)
  .nil)
  .nil)
  (.cons (.ret (.call "_law_four" (.cons (.var 3) (.cons (.var 0) (.cons (.var 4) (.cons (.var 5) (.cons (.var 6) .nil)))))))
  .nil))))))))
def c__law_behind_s0 : CS := (.ite (.bop false (.cons (.not (.isi (.var 1) .tuple)) (.cons (.cmp .nin (.bi .len (.cons (.var 1) .nil)) (.tup (.cons (.int 2) (.cons (.int 4) .nil)))) .nil)))
  (.cons (.ret .non)
  .nil)
  .nil)
def c__law_behind_s1 : CS := (.asg (.name 2) (.bin .sub (.bi .len (.cons (.var 0) .nil)) (.int 1)))
def c__law_behind_s2 : CS := (.ite (.cmp .eq (.bi .len (.cons (.var 1) .nil)) (.int 2))
  (.cons (.ret (.ite (.bop true (.cons (.cmp .eq (.idx (.var 1) (.int 0)) (.str "out")) (.cons (.call "_law_whole" (.cons (.idx (.var 1) (.int 1)) (.cons (.int 0) (.cons (.var 2) .nil)))) .nil))) .nope .non))
  .nil)
  .nil)
def c__law_behind_s3 : CS := (.asg (.tup (.cons (.name 3) (.cons (.name 4) (.cons (.name 5) (.cons (.name 6) .nil))))) (.var 1))
def c__law_behind_s4 : CS := (.ite (.bop false (.cons (.not (.call "_law_whole" (.cons (.var 4) (.cons (.int 0) (.cons (.var 2) .nil))))) (.cons (.not (.call "_law_whole" (.cons (.var 5) (.cons (.int 0) (.cons (.var 2) .nil))))) .nil)))
  (.cons (.ret .non)
  .nil)
  .nil)
def c__law_behind_s5 : CS := (.ite (.cmp .eq (.var 3) (.str "put"))
  (.cons (.asg (.name 7) (.bop true (.cons (.call "_law_whole" (.cons (.var 6) (.cons (.int 0) (.cons (.bin .add (.var 2) (.int 1)) .nil)))) (.cons (.cmp .lt (.var 2) (.int 7)) (.cons (.cmp .gt (.idx (.idx (.var 0) (.var 4)) (.var 5)) (.int 0)) .nil)))))
  (.cons (.ret (.ite (.var 7) (.call "_law_put" (.cons (.var 0) (.cons (.var 4) (.cons (.var 5) (.cons (.var 6) .nil))))) .non))
  .nil))
  .nil)
def c__law_behind_s6 : CS := (.ite (.bop false (.cons (.cmp .nin (.var 3) (.tup (.cons (.str "lead") (.cons (.str "bring") (.cons (.str "unlead") (.cons (.str "unbring") .nil)))))) (.cons (.cmp .eq (.var 4) (.var 5)) (.cons (.not (.call "_law_whole" (.cons (.var 6) (.cons (.int 1) (.cons (.var 6) .nil))))) .nil))))
  (.cons (.ret .non)
  .nil)
  .nil)
def c__law_behind_s7 : CS := (.ret (.call "_law_four" (.cons (.var 3) (.cons (.var 0) (.cons (.var 4) (.cons (.var 5) (.cons (.var 6) .nil)))))))
theorem x__law_behind : c__law_behind = (.cons c__law_behind_s0 (.cons c__law_behind_s1 (.cons c__law_behind_s2 (.cons c__law_behind_s3 (.cons c__law_behind_s4 (.cons c__law_behind_s5 (.cons c__law_behind_s6 (.cons c__law_behind_s7 .nil)))))))) := rfl
def N__law_along : List Str := ["_law_web_here", "_law_deeds", "_law_words", "_law_deed"]
def P__law_along : List Str := ["_law_web_here", "_law_deeds", "_law_words"]
def c__law_along_b1 : CSs := (.cons (.ite (.bop false (.cons (.not (.isi (.var 3) .tuple)) (.cons (.cmp .eq (.sl (.var 3) .nil (.cons (.int 1) .nil)) (.tup .nil)) (.cons (.cmp .nin (.idx (.var 3) (.int 0)) (.var 2)) .nil))))
  (.cons (.ret .non)
  .nil)
  .nil)
  (.cons (.asg (.name 0) (.call "_law_behind" (.cons (.var 0) (.cons (.var 3) .nil))))
  (.cons (.ite (.isN (.var 0))
  (.cons (.ret .non)
  .nil)
  .nil)
  .nil)))
def c__law_along : CSs := (.cons (.ite (.not (.isi (.var 1) .list))
  (.cons (.ret .non)
  .nil)
  .nil)
  (.cons (.for_ (.name 3) (.seq (.var 1)) c__law_along_b1)
  (.cons (.ret (.var 0))
  .nil)))
def c__law_along_b1_s0 : CS := (.ite (.bop false (.cons (.not (.isi (.var 3) .tuple)) (.cons (.cmp .eq (.sl (.var 3) .nil (.cons (.int 1) .nil)) (.tup .nil)) (.cons (.cmp .nin (.idx (.var 3) (.int 0)) (.var 2)) .nil))))
  (.cons (.ret .non)
  .nil)
  .nil)
def c__law_along_b1_s1 : CS := (.asg (.name 0) (.call "_law_behind" (.cons (.var 0) (.cons (.var 3) .nil))))
def c__law_along_b1_s2 : CS := (.ite (.isN (.var 0))
  (.cons (.ret .non)
  .nil)
  .nil)
theorem x__law_along_b1 : c__law_along_b1 = (.cons c__law_along_b1_s0 (.cons c__law_along_b1_s1 (.cons c__law_along_b1_s2 .nil))) := rfl
def c__law_along_s0 : CS := (.ite (.not (.isi (.var 1) .list))
  (.cons (.ret .non)
  .nil)
  .nil)
def c__law_along_s1 : CS := (.for_ (.name 3) (.seq (.var 1)) c__law_along_b1)
def c__law_along_s2 : CS := (.ret (.var 0))
theorem x__law_along : c__law_along = (.cons c__law_along_s0 (.cons c__law_along_s1 (.cons c__law_along_s2 .nil))) := rfl
def N__law_told : List Str := ["_law_web_here", "_law_caught", "_law_found", "e", "_law_some"]
def P__law_told : List Str := ["_law_web_here"]
def c__law_told : CSs := (.cons (.asg (.tup (.cons (.name 1) (.cons (.name 2) .nil))) (.tup (.cons .non (.cons .non .nil))))
  (.cons (.tryA (.cons (.asg (.name 2) (.call "more" (.cons (.var 0) .nil)))
  .nil) "RoadError" 3 1)
  (.cons (.ite (.isN (.var 1))
  (.cons (.ret (.var 2))
  .nil)
  .nil)
  (.cons (.ite (.isEs (.var 1) ["NoDeed", "NoWeb", "NotRich", "NotLevel", "TooMany"])
  (.cons (.ret (.str "odd"))
  .nil)
  .nil)
  (.cons (.asg (.name 4) (.tmp (.lst (.cons (.isE (.var 1) "NotFull") (.cons (.isE (.var 1) "TooGreat") .nil)))))
  (.cons (.ret (.ite (.cmp .eq (.cntB (.var 4) true) (.int 1)) (.idx (.tmp (.lst (.cons (.str "not full") (.cons (.str "too great") .nil)))) (.ixOf (.var 4) (.bl true))) (.str "odd")))
  .nil))))))
def c__law_told_s0 : CS := (.asg (.tup (.cons (.name 1) (.cons (.name 2) .nil))) (.tup (.cons .non (.cons .non .nil))))
def c__law_told_s1 : CS := (.tryA (.cons (.asg (.name 2) (.call "more" (.cons (.var 0) .nil)))
  .nil) "RoadError" 3 1)
def c__law_told_s2 : CS := (.ite (.isN (.var 1))
  (.cons (.ret (.var 2))
  .nil)
  .nil)
def c__law_told_s3 : CS := (.ite (.isEs (.var 1) ["NoDeed", "NoWeb", "NotRich", "NotLevel", "TooMany"])
  (.cons (.ret (.str "odd"))
  .nil)
  .nil)
def c__law_told_s4 : CS := (.asg (.name 4) (.tmp (.lst (.cons (.isE (.var 1) "NotFull") (.cons (.isE (.var 1) "TooGreat") .nil)))))
def c__law_told_s5 : CS := (.ret (.ite (.cmp .eq (.cntB (.var 4) true) (.int 1)) (.idx (.tmp (.lst (.cons (.str "not full") (.cons (.str "too great") .nil)))) (.ixOf (.var 4) (.bl true))) (.str "odd")))
theorem x__law_told : c__law_told = (.cons c__law_told_s0 (.cons c__law_told_s1 (.cons c__law_told_s2 (.cons c__law_told_s3 (.cons c__law_told_s4 (.cons c__law_told_s5 .nil)))))) := rfl
def N__law_is_full : List Str := ["_law_web_here", "_law_rows", "_law_i", "_law_row", "_law_j", "_law_number"]
def P__law_is_full : List Str := ["_law_web_here"]
def c__law_is_full_l1 : CN := (.lc (.tup (.cons (.name 4) (.cons (.name 5) .nil))) (.enum (.var 3)) .nil (.bin .sub (.var 5) (.bi .int (.cons (.cmp .eq (.var 2) (.var 4)) .nil))) [("_law_j", 4), ("_law_number", 5)])
def c__law_is_full_l2 : CN := (.lc (.tup (.cons (.name 2) (.cons (.name 3) .nil))) (.enum (.var 0)) .nil (.tmp c__law_is_full_l1) [("_law_i", 2), ("_law_row", 3)])
def c__law_is_full_l3 : CN := (.lc (.name 3) (.seq (.var 1)) .nil (.bi .min (.cons (.var 3) .nil)) [("_law_row", 3)])
def c__law_is_full : CSs := (.cons (.asg (.name 1) (.tmp c__law_is_full_l2))
  (.cons (.ret (.cmp .ge (.bi .min (.cons (.tmp c__law_is_full_l3) .nil)) (.int 1)))
  .nil))
def c__law_is_full_s0 : CS := (.asg (.name 1) (.tmp c__law_is_full_l2))
def c__law_is_full_s1 : CS := (.ret (.cmp .ge (.bi .min (.cons (.tmp c__law_is_full_l3) .nil)) (.int 1)))
theorem x__law_is_full : c__law_is_full = (.cons c__law_is_full_s0 (.cons c__law_is_full_s1 .nil)) := rfl
def N_law : List Str := ["_law_script", "_law_pen", "_law_words", "_law_turn", "_law_web_here", "_law_found", "_law_last", "_law_seen", "_law_other", "_law_great", "_law_thin", "_law_i", "_law_j"]
def P_law : List Str := ["_law_script"]
def c_law_b1 : CSs := (.cons (.asg (.name 4) (.call "_law_full" (.cons (.call "_law_anew" (.cons (.var 1) .nil)) (.cons (.int 7) (.cons (.call "_law_one" (.cons (.var 1) (.cons (.tmp (.lst (.cons (.int 1) (.cons (.int 3) (.cons (.bin .pw (.int 10) (.int 9)) .nil))))) .nil))) .nil)))))
  (.cons (.asg (.name 5) (.call "_law_told" (.cons (.var 4) .nil)))
  (.cons (.asg (.name 6) (.call "_law_along" (.cons (.var 4) (.cons (.var 5) (.cons (.var 2) .nil)))))
  (.cons (.ite (.bop false (.cons (.isN (.var 6)) (.cons (.cmp .ne (.bi .len (.cons (.var 6) .nil)) (.bin .add (.bi .len (.cons (.var 4) .nil)) (.int 1))) (.cons (.not (.call "_law_is_full" (.cons (.var 6) .nil))) .nil))))
  (.cons (.ret (.bl false))
  .nil)
  .nil)
  (.cons (.asg (.name 7) (.tmp (.listOf (.var 5))))
  (.cons (.app (.var 5) (.int 0))
  (.cons (.ite (.cmp .ne (.call "_law_told" (.cons (.var 4) .nil)) (.var 7))
  (.cons (.ret (.bl false))
  .nil)
  .nil)
  (.cons (.asg (.name 8) (.call "_law_one" (.cons (.var 1) (.cons (.tmp (.lst (.cons (.call "_law_web" (.cons (.var 1) (.cons (.int 8) (.cons (.int 3) .nil)))) (.cons (.call "_law_rich" (.cons (.var 1) (.cons (.int 8) (.cons (.int 2) .nil)))) (.cons (.call "_law_web" (.cons (.var 1) (.cons (.int 4) (.cons (.int 3) .nil)))) (.cons (.tup (.cons (.tup (.cons (.int 1) .nil)) .nil)) .nil)))))) .nil))))
  (.cons (.ite (.bop true (.cons (.not (.call "_law_is_full" (.cons (.var 8) .nil))) (.cons (.cmp .ne (.call "_law_told" (.cons (.var 8) .nil)) (.str "not full")) .nil)))
  (.cons (.ret (.bl false))
  .nil)
  .nil)
  .nil)))))))))
def c_law_l1 : CN := (.lc (.name 12) (.rng1 (.int 8)) .nil (.bin .add (.bin .add (.int 1) (.bi .int (.cons (.cmp .eq (.var 11) (.var 12)) .nil))) (.call "_law_take" (.cons (.var 1) (.cons (.int 3) .nil)))) [("_law_j", 12)])
def c_law_l2 : CN := (.lc (.name 11) (.rng1 (.int 8)) .nil (.bi .tuple (.cons (.tmp c_law_l1) .nil)) [("_law_i", 11)])
def c_law : CSs := (.cons (.asg (.name 1) (.call "_law_open" (.cons (.var 0) .nil)))
  (.cons (.asg (.name 2) (.tup (.cons (.str "lead") (.cons (.str "bring") (.cons (.str "unlead") (.cons (.str "unbring") (.cons (.str "put") (.cons (.str "out") .nil))))))))
  (.cons (.for_ (.name 3) (.rng1 (.int 3)) c_law_b1)
  (.cons (.asg (.name 9) (.bi .tuple (.cons (.tmp c_law_l2) .nil)))
  (.cons (.asg (.name 10) (.bin .add (.sl (.var 9) .nil (.cons (.int 7) .nil)) (.tup (.cons (.bin .mul (.tup (.cons (.int 0) .nil)) (.int 8)) .nil))))
  (.cons (.ret (.bop true (.cons (.cmp .eq (.call "_law_told" (.cons (.var 9) .nil)) (.str "too great")) (.cons (.cmp .eq (.call "_law_told" (.cons (.var 10) .nil)) (.str "not full")) .nil))))
  .nil))))))
def c_law_b1_s0 : CS := (.asg (.name 4) (.call "_law_full" (.cons (.call "_law_anew" (.cons (.var 1) .nil)) (.cons (.int 7) (.cons (.call "_law_one" (.cons (.var 1) (.cons (.tmp (.lst (.cons (.int 1) (.cons (.int 3) (.cons (.bin .pw (.int 10) (.int 9)) .nil))))) .nil))) .nil)))))
def c_law_b1_s1 : CS := (.asg (.name 5) (.call "_law_told" (.cons (.var 4) .nil)))
def c_law_b1_s2 : CS := (.asg (.name 6) (.call "_law_along" (.cons (.var 4) (.cons (.var 5) (.cons (.var 2) .nil)))))
def c_law_b1_s3 : CS := (.ite (.bop false (.cons (.isN (.var 6)) (.cons (.cmp .ne (.bi .len (.cons (.var 6) .nil)) (.bin .add (.bi .len (.cons (.var 4) .nil)) (.int 1))) (.cons (.not (.call "_law_is_full" (.cons (.var 6) .nil))) .nil))))
  (.cons (.ret (.bl false))
  .nil)
  .nil)
def c_law_b1_s4 : CS := (.asg (.name 7) (.tmp (.listOf (.var 5))))
def c_law_b1_s5 : CS := (.app (.var 5) (.int 0))
def c_law_b1_s6 : CS := (.ite (.cmp .ne (.call "_law_told" (.cons (.var 4) .nil)) (.var 7))
  (.cons (.ret (.bl false))
  .nil)
  .nil)
def c_law_b1_s7 : CS := (.asg (.name 8) (.call "_law_one" (.cons (.var 1) (.cons (.tmp (.lst (.cons (.call "_law_web" (.cons (.var 1) (.cons (.int 8) (.cons (.int 3) .nil)))) (.cons (.call "_law_rich" (.cons (.var 1) (.cons (.int 8) (.cons (.int 2) .nil)))) (.cons (.call "_law_web" (.cons (.var 1) (.cons (.int 4) (.cons (.int 3) .nil)))) (.cons (.tup (.cons (.tup (.cons (.int 1) .nil)) .nil)) .nil)))))) .nil))))
def c_law_b1_s8 : CS := (.ite (.bop true (.cons (.not (.call "_law_is_full" (.cons (.var 8) .nil))) (.cons (.cmp .ne (.call "_law_told" (.cons (.var 8) .nil)) (.str "not full")) .nil)))
  (.cons (.ret (.bl false))
  .nil)
  .nil)
theorem x_law_b1 : c_law_b1 = (.cons c_law_b1_s0 (.cons c_law_b1_s1 (.cons c_law_b1_s2 (.cons c_law_b1_s3 (.cons c_law_b1_s4 (.cons c_law_b1_s5 (.cons c_law_b1_s6 (.cons c_law_b1_s7 (.cons c_law_b1_s8 .nil))))))))) := rfl
def c_law_s0 : CS := (.asg (.name 1) (.call "_law_open" (.cons (.var 0) .nil)))
def c_law_s1 : CS := (.asg (.name 2) (.tup (.cons (.str "lead") (.cons (.str "bring") (.cons (.str "unlead") (.cons (.str "unbring") (.cons (.str "put") (.cons (.str "out") .nil))))))))
def c_law_s2 : CS := (.for_ (.name 3) (.rng1 (.int 3)) c_law_b1)
def c_law_s3 : CS := (.asg (.name 9) (.bi .tuple (.cons (.tmp c_law_l2) .nil)))
def c_law_s4 : CS := (.asg (.name 10) (.bin .add (.sl (.var 9) .nil (.cons (.int 7) .nil)) (.tup (.cons (.bin .mul (.tup (.cons (.int 0) .nil)) (.int 8)) .nil))))
def c_law_s5 : CS := (.ret (.bop true (.cons (.cmp .eq (.call "_law_told" (.cons (.var 9) .nil)) (.str "too great")) (.cons (.cmp .eq (.call "_law_told" (.cons (.var 10) .nil)) (.str "not full")) .nil))))
theorem x_law : c_law = (.cons c_law_s0 (.cons c_law_s1 (.cons c_law_s2 (.cons c_law_s3 (.cons c_law_s4 (.cons c_law_s5 .nil)))))) := rfl

theorem m_is_whole : matchSs N_is_whole (defScope (top 10)) c_is_whole (defBody (top 10)) = true := by decide +kernel
theorem s_is_whole : FnScope N_is_whole P_is_whole (defScope (top 10)) := ⟨by decide +kernel, by decide +kernel, by decide +kernel, by decide +kernel, by decide +kernel, by decide +kernel, by decide +kernel⟩
theorem m_is_from : matchSs N_is_from (defScope (top 11)) c_is_from (defBody (top 11)) = true := by decide +kernel
theorem s_is_from : FnScope N_is_from P_is_from (defScope (top 11)) := ⟨by decide +kernel, by decide +kernel, by decide +kernel, by decide +kernel, by decide +kernel, by decide +kernel, by decide +kernel⟩
theorem m_is_square : matchSs N_is_square (defScope (top 12)) c_is_square (defBody (top 12)) = true := by decide +kernel
theorem s_is_square : FnScope N_is_square P_is_square (defScope (top 12)) := ⟨by decide +kernel, by decide +kernel, by decide +kernel, by decide +kernel, by decide +kernel, by decide +kernel, by decide +kernel⟩
theorem m_less_ones : matchSs N_less_ones (defScope (top 14)) c_less_ones (defBody (top 14)) = true := by decide +kernel
theorem s_less_ones : FnScope N_less_ones P_less_ones (defScope (top 14)) := ⟨by decide +kernel, by decide +kernel, by decide +kernel, by decide +kernel, by decide +kernel, by decide +kernel, by decide +kernel⟩
theorem m_set_row : matchSs N_set_row (defScope (top 15)) c_set_row (defBody (top 15)) = true := by decide +kernel
theorem s_set_row : FnScope N_set_row P_set_row (defScope (top 15)) := ⟨by decide +kernel, by decide +kernel, by decide +kernel, by decide +kernel, by decide +kernel, by decide +kernel, by decide +kernel⟩
theorem m_is_web : matchSs N_is_web (defScope (top 18)) c_is_web (defBody (top 18)) = true := by decide +kernel
theorem s_is_web : FnScope N_is_web P_is_web (defScope (top 18)) := ⟨by decide +kernel, by decide +kernel, by decide +kernel, by decide +kernel, by decide +kernel, by decide +kernel, by decide +kernel⟩
theorem m_need_web : matchSs N_need_web (defScope (top 19)) c_need_web (defBody (top 19)) = true := by decide +kernel
theorem s_need_web : FnScope N_need_web P_need_web (defScope (top 19)) := ⟨by decide +kernel, by decide +kernel, by decide +kernel, by decide +kernel, by decide +kernel, by decide +kernel, by decide +kernel⟩
theorem m_led : matchSs N_led (defScope (top 23)) c_led (defBody (top 23)) = true := by decide +kernel
theorem s_led : FnScope N_led P_led (defScope (top 23)) := ⟨by decide +kernel, by decide +kernel, by decide +kernel, by decide +kernel, by decide +kernel, by decide +kernel, by decide +kernel⟩
theorem m_is_pair : matchSs N_is_pair (defScope (top 25)) c_is_pair (defBody (top 25)) = true := by decide +kernel
theorem s_is_pair : FnScope N_is_pair P_is_pair (defScope (top 25)) := ⟨by decide +kernel, by decide +kernel, by decide +kernel, by decide +kernel, by decide +kernel, by decide +kernel, by decide +kernel⟩
theorem m_turned_over : matchSs N_turned_over (defScope (top 26)) c_turned_over (defBody (top 26)) = true := by decide +kernel
theorem s_turned_over : FnScope N_turned_over P_turned_over (defScope (top 26)) := ⟨by decide +kernel, by decide +kernel, by decide +kernel, by decide +kernel, by decide +kernel, by decide +kernel, by decide +kernel⟩
theorem m_put_in : matchSs N_put_in (defScope (top 27)) c_put_in (defBody (top 27)) = true := by decide +kernel
theorem s_put_in : FnScope N_put_in P_put_in (defScope (top 27)) := ⟨by decide +kernel, by decide +kernel, by decide +kernel, by decide +kernel, by decide +kernel, by decide +kernel, by decide +kernel⟩
theorem m_behind : matchSs N_behind (defScope (top 30)) c_behind (defBody (top 30)) = true := by decide +kernel
theorem s_behind : FnScope N_behind P_behind (defScope (top 30)) := ⟨by decide +kernel, by decide +kernel, by decide +kernel, by decide +kernel, by decide +kernel, by decide +kernel, by decide +kernel⟩
theorem m_Bench____init__ : matchSs N_Bench____init__ (defScope (inC (top 32) 0)) c_Bench____init__ (defBody (inC (top 32) 0)) = true := by decide +kernel
theorem s_Bench____init__ : FnScope N_Bench____init__ P_Bench____init__ (defScope (inC (top 32) 0)) := ⟨by decide +kernel, by decide +kernel, by decide +kernel, by decide +kernel, by decide +kernel, by decide +kernel, by decide +kernel⟩
theorem m_Bench__do : matchSs N_Bench__do (defScope (inC (top 32) 1)) c_Bench__do (defBody (inC (top 32) 1)) = true := by decide +kernel
theorem s_Bench__do : FnScope N_Bench__do P_Bench__do (defScope (inC (top 32) 1)) := ⟨by decide +kernel, by decide +kernel, by decide +kernel, by decide +kernel, by decide +kernel, by decide +kernel, by decide +kernel⟩
theorem m_is_full_by : matchSs N_is_full_by (defScope (top 33)) c_is_full_by (defBody (top 33)) = true := by decide +kernel
theorem s_is_full_by : FnScope N_is_full_by P_is_full_by (defScope (top 33)) := ⟨by decide +kernel, by decide +kernel, by decide +kernel, by decide +kernel, by decide +kernel, by decide +kernel, by decide +kernel⟩
theorem m_need_full : matchSs N_need_full (defScope (top 34)) c_need_full (defBody (top 34)) = true := by decide +kernel
theorem s_need_full : FnScope N_need_full P_need_full (defScope (top 34)) := ⟨by decide +kernel, by decide +kernel, by decide +kernel, by decide +kernel, by decide +kernel, by decide +kernel, by decide +kernel⟩
theorem m_grow_bench : matchSs N_grow_bench (defScope (top 35)) c_grow_bench (defBody (top 35)) = true := by decide +kernel
theorem s_grow_bench : FnScope N_grow_bench P_grow_bench (defScope (top 35)) := ⟨by decide +kernel, by decide +kernel, by decide +kernel, by decide +kernel, by decide +kernel, by decide +kernel, by decide +kernel⟩
theorem m_more : matchSs N_more (defScope (top 36)) c_more (defBody (top 36)) = true := by decide +kernel
theorem s_more : FnScope N_more P_more (defScope (top 36)) := ⟨by decide +kernel, by decide +kernel, by decide +kernel, by decide +kernel, by decide +kernel, by decide +kernel, by decide +kernel⟩
theorem m__law_spread : matchSs N__law_spread (defScope (top 38)) c__law_spread (defBody (top 38)) = true := by decide +kernel
theorem s__law_spread : FnScope N__law_spread P__law_spread (defScope (top 38)) := ⟨by decide +kernel, by decide +kernel, by decide +kernel, by decide +kernel, by decide +kernel, by decide +kernel, by decide +kernel⟩
theorem m__law_open : matchSs N__law_open (defScope (top 39)) c__law_open (defBody (top 39)) = true := by decide +kernel
theorem s__law_open : FnScope N__law_open P__law_open (defScope (top 39)) := ⟨by decide +kernel, by decide +kernel, by decide +kernel, by decide +kernel, by decide +kernel, by decide +kernel, by decide +kernel⟩
theorem m__law_anew : matchSs N__law_anew (defScope (top 40)) c__law_anew (defBody (top 40)) = true := by decide +kernel
theorem s__law_anew : FnScope N__law_anew P__law_anew (defScope (top 40)) := ⟨by decide +kernel, by decide +kernel, by decide +kernel, by decide +kernel, by decide +kernel, by decide +kernel, by decide +kernel⟩
theorem m__law_take : matchSs N__law_take (defScope (top 41)) c__law_take (defBody (top 41)) = true := by decide +kernel
theorem s__law_take : FnScope N__law_take P__law_take (defScope (top 41)) := ⟨by decide +kernel, by decide +kernel, by decide +kernel, by decide +kernel, by decide +kernel, by decide +kernel, by decide +kernel⟩
theorem m__law_one : matchSs N__law_one (defScope (top 42)) c__law_one (defBody (top 42)) = true := by decide +kernel
theorem s__law_one : FnScope N__law_one P__law_one (defScope (top 42)) := ⟨by decide +kernel, by decide +kernel, by decide +kernel, by decide +kernel, by decide +kernel, by decide +kernel, by decide +kernel⟩
theorem m__law_drawn : matchSs N__law_drawn (defScope (top 43)) c__law_drawn (defBody (top 43)) = true := by decide +kernel
theorem s__law_drawn : FnScope N__law_drawn P__law_drawn (defScope (top 43)) := ⟨by decide +kernel, by decide +kernel, by decide +kernel, by decide +kernel, by decide +kernel, by decide +kernel, by decide +kernel⟩
theorem m__law_web : matchSs N__law_web (defScope (top 44)) c__law_web (defBody (top 44)) = true := by decide +kernel
theorem s__law_web : FnScope N__law_web P__law_web (defScope (top 44)) := ⟨by decide +kernel, by decide +kernel, by decide +kernel, by decide +kernel, by decide +kernel, by decide +kernel, by decide +kernel⟩
theorem m__law_rich : matchSs N__law_rich (defScope (top 45)) c__law_rich (defBody (top 45)) = true := by decide +kernel
theorem s__law_rich : FnScope N__law_rich P__law_rich (defScope (top 45)) := ⟨by decide +kernel, by decide +kernel, by decide +kernel, by decide +kernel, by decide +kernel, by decide +kernel, by decide +kernel⟩
theorem m__law_full : matchSs N__law_full (defScope (top 46)) c__law_full (defBody (top 46)) = true := by decide +kernel
theorem s__law_full : FnScope N__law_full P__law_full (defScope (top 46)) := ⟨by decide +kernel, by decide +kernel, by decide +kernel, by decide +kernel, by decide +kernel, by decide +kernel, by decide +kernel⟩
theorem m__law_lead : matchSs N__law_lead (defScope (top 48)) c__law_lead (defBody (top 48)) = true := by decide +kernel
theorem s__law_lead : FnScope N__law_lead P__law_lead (defScope (top 48)) := ⟨by decide +kernel, by decide +kernel, by decide +kernel, by decide +kernel, by decide +kernel, by decide +kernel, by decide +kernel⟩
theorem m__law_put : matchSs N__law_put (defScope (top 50)) c__law_put (defBody (top 50)) = true := by decide +kernel
theorem s__law_put : FnScope N__law_put P__law_put (defScope (top 50)) := ⟨by decide +kernel, by decide +kernel, by decide +kernel, by decide +kernel, by decide +kernel, by decide +kernel, by decide +kernel⟩
theorem m__law_whole : matchSs N__law_whole (defScope (top 52)) c__law_whole (defBody (top 52)) = true := by decide +kernel
theorem s__law_whole : FnScope N__law_whole P__law_whole (defScope (top 52)) := ⟨by decide +kernel, by decide +kernel, by decide +kernel, by decide +kernel, by decide +kernel, by decide +kernel, by decide +kernel⟩
theorem m__law_four : matchSs N__law_four (defScope (top 53)) c__law_four (defBody (top 53)) = true := by decide +kernel
theorem s__law_four : FnScope N__law_four P__law_four (defScope (top 53)) := ⟨by decide +kernel, by decide +kernel, by decide +kernel, by decide +kernel, by decide +kernel, by decide +kernel, by decide +kernel⟩
theorem m__law_behind : matchSs N__law_behind (defScope (top 54)) c__law_behind (defBody (top 54)) = true := by decide +kernel
theorem s__law_behind : FnScope N__law_behind P__law_behind (defScope (top 54)) := ⟨by decide +kernel, by decide +kernel, by decide +kernel, by decide +kernel, by decide +kernel, by decide +kernel, by decide +kernel⟩
theorem m__law_along : matchSs N__law_along (defScope (top 55)) c__law_along (defBody (top 55)) = true := by decide +kernel
theorem s__law_along : FnScope N__law_along P__law_along (defScope (top 55)) := ⟨by decide +kernel, by decide +kernel, by decide +kernel, by decide +kernel, by decide +kernel, by decide +kernel, by decide +kernel⟩
theorem m__law_told : matchSs N__law_told (defScope (top 56)) c__law_told (defBody (top 56)) = true := by decide +kernel
theorem s__law_told : FnScope N__law_told P__law_told (defScope (top 56)) := ⟨by decide +kernel, by decide +kernel, by decide +kernel, by decide +kernel, by decide +kernel, by decide +kernel, by decide +kernel⟩
theorem m__law_is_full : matchSs N__law_is_full (defScope (top 57)) c__law_is_full (defBody (top 57)) = true := by decide +kernel
theorem s__law_is_full : FnScope N__law_is_full P__law_is_full (defScope (top 57)) := ⟨by decide +kernel, by decide +kernel, by decide +kernel, by decide +kernel, by decide +kernel, by decide +kernel, by decide +kernel⟩
theorem m_law : matchSs N_law (defScope (top 58)) c_law (defBody (top 58)) = true := by decide +kernel
theorem s_law : FnScope N_law P_law (defScope (top 58)) := ⟨by decide +kernel, by decide +kernel, by decide +kernel, by decide +kernel, by decide +kernel, by decide +kernel, by decide +kernel⟩
end K

set_option Elab.async false
set_option linter.all false
set_option maxRecDepth 100000
set_option maxHeartbeats 1600000
namespace K
open PySem PySem.Spec PyProof.Rows L2 Z
def FU : Nat := 1000000
def ERow : List Str := ["RoadError", "NoDeed", "NoWeb", "NotRich", "NotLevel", "TooMany", "NotFull", "TooGreat"]
def ERra : List Str := ["NoWeb", "NotFull", "TooGreat"]
def ERfl : List (Str × Str) := [("Bench", "now"), ("Bench", "log")]
def ERb (D C : Str) : Bool := decide (C = "RoadError") || decide (C = D)
def T0 : Th where
  dom := fun _ => false
  fn := fun _ _ _ => .no
  gl := fun x => if x = "MOST_PLACES_webs" then some (.int 8) else if x = "MOST_PLACES_deeds" then some (.int 8) else if x = "WORDS" then some (.tup [.str "lead", .str "bring", .str "unlead", .str "unbring"]) else none
  mdom := fun _ _ => false
  me := fun _ _ _ _ => .no
  mks := fun _ _ => []
  fldB := fun C f => decide ((C, f) ∈ ERfl)
  excB := fun C => decide (C ∈ ERra)
  clsB := fun C => decide (C ∈ ERow)
  sub := fun D C => if D ∈ ERra ∧ C ∈ ERow then some (ERb D C) else none
  dct := fun _ => none
def f_is_whole : List U → Sto → Res U := fnOf T0 FU N_is_whole P_is_whole c_is_whole
theorem b_is_whole {u0 : U} {S : Sto} : f_is_whole [u0] S = (evSs T0 FU c_is_whole (startR N_is_whole [u0]) S).res := fnOf_eq rfl
theorem r_is_whole {u0 : U} : startR N_is_whole [u0] = [some u0] ++ List.replicate (N_is_whole.length - 1) none := rfl
def T1 : Th := T0.add "is_whole" f_is_whole
def f_is_from : List U → Sto → Res U := fnOf T1 FU N_is_from P_is_from c_is_from
theorem d_is_from__is_whole : T1.dom "is_whole" = true := by decide +kernel
theorem t_is_from__is_whole : T1.fn "is_whole" = f_is_whole := by kernel_rfl
theorem b_is_from {u0 u1 : U} {S : Sto} : f_is_from [u0, u1] S = (evSs T1 FU c_is_from (startR N_is_from [u0, u1]) S).res := fnOf_eq rfl
theorem r_is_from {u0 u1 : U} : startR N_is_from [u0, u1] = [some u0, some u1] ++ List.replicate (N_is_from.length - 2) none := rfl
def T2 : Th := T1.add "is_from" f_is_from
def f_is_square : List U → Sto → Res U := fnOf T2 FU N_is_square P_is_square c_is_square
theorem d_is_square__is_whole : T2.dom "is_whole" = true := by decide +kernel
theorem t_is_square__is_whole : T2.fn "is_whole" = f_is_whole := by kernel_rfl
theorem b_is_square {u0 u1 : U} {S : Sto} : f_is_square [u0, u1] S = (evSs T2 FU c_is_square (startR N_is_square [u0, u1]) S).res := fnOf_eq rfl
theorem r_is_square {u0 u1 : U} : startR N_is_square [u0, u1] = [some u0, some u1] ++ List.replicate (N_is_square.length - 2) none := rfl
def T3 : Th := T2.add "is_square" f_is_square
def f_less_ones : List U → Sto → Res U := fnOf T3 FU N_less_ones P_less_ones c_less_ones
theorem b_less_ones {u0 : U} {S : Sto} : f_less_ones [u0] S = (evSs T3 FU c_less_ones (startR N_less_ones [u0]) S).res := fnOf_eq rfl
theorem r_less_ones {u0 : U} : startR N_less_ones [u0] = [some u0] ++ List.replicate (N_less_ones.length - 1) none := rfl
def T4 : Th := T3.add "less_ones" f_less_ones
def f_set_row : List U → Sto → Res U := fnOf T4 FU N_set_row P_set_row c_set_row
theorem b_set_row {u0 u1 u2 : U} {S : Sto} : f_set_row [u0, u1, u2] S = (evSs T4 FU c_set_row (startR N_set_row [u0, u1, u2]) S).res := fnOf_eq rfl
theorem r_set_row {u0 u1 u2 : U} : startR N_set_row [u0, u1, u2] = [some u0, some u1, some u2] ++ List.replicate (N_set_row.length - 3) none := rfl
def T5 : Th := T4.add "set_row" f_set_row
def f_is_web : List U → Sto → Res U := fnOf T5 FU N_is_web P_is_web c_is_web
theorem d_is_web__is_square : T5.dom "is_square" = true := by decide +kernel
theorem t_is_web__is_square : T5.fn "is_square" = f_is_square := by kernel_rfl
theorem b_is_web {u0 : U} {S : Sto} : f_is_web [u0] S = (evSs T5 FU c_is_web (startR N_is_web [u0]) S).res := fnOf_eq rfl
theorem r_is_web {u0 : U} : startR N_is_web [u0] = [some u0] ++ List.replicate (N_is_web.length - 1) none := rfl
def T6 : Th := T5.add "is_web" f_is_web
def f_need_web : List U → Sto → Res U := fnOf T6 FU N_need_web P_need_web c_need_web
theorem d_need_web__is_web : T6.dom "is_web" = true := by decide +kernel
theorem t_need_web__is_web : T6.fn "is_web" = f_is_web := by kernel_rfl
theorem b_need_web {u0 : U} {S : Sto} : f_need_web [u0] S = (evSs T6 FU c_need_web (startR N_need_web [u0]) S).res := fnOf_eq rfl
theorem r_need_web {u0 : U} : startR N_need_web [u0] = [some u0] ++ List.replicate (N_need_web.length - 1) none := rfl
def T7 : Th := T6.add "need_web" f_need_web
def f_led : List U → Sto → Res U := fnOf T7 FU N_led P_led c_led
theorem d_led__set_row : T7.dom "set_row" = true := by decide +kernel
theorem t_led__set_row : T7.fn "set_row" = f_set_row := by kernel_rfl
theorem b_led {u0 u1 u2 u3 : U} {S : Sto} : f_led [u0, u1, u2, u3] S = (evSs T7 FU c_led (startR N_led [u0, u1, u2, u3]) S).res := fnOf_eq rfl
theorem r_led {u0 u1 u2 u3 : U} : startR N_led [u0, u1, u2, u3] = [some u0, some u1, some u2, some u3] ++ List.replicate (N_led.length - 4) none := rfl
def T8 : Th := T7.add "led" f_led
def f_is_pair : List U → Sto → Res U := fnOf T8 FU N_is_pair P_is_pair c_is_pair
theorem d_is_pair__is_from : T8.dom "is_from" = true := by decide +kernel
theorem t_is_pair__is_from : T8.fn "is_from" = f_is_from := by kernel_rfl
theorem b_is_pair {u0 u1 u2 : U} {S : Sto} : f_is_pair [u0, u1, u2] S = (evSs T8 FU c_is_pair (startR N_is_pair [u0, u1, u2]) S).res := fnOf_eq rfl
theorem r_is_pair {u0 u1 u2 : U} : startR N_is_pair [u0, u1, u2] = [some u0, some u1, some u2] ++ List.replicate (N_is_pair.length - 3) none := rfl
def T9 : Th := T8.add "is_pair" f_is_pair
def f_turned_over : List U → Sto → Res U := fnOf T9 FU N_turned_over P_turned_over c_turned_over
theorem d_turned_over__led : T9.dom "led" = true := by decide +kernel
theorem t_turned_over__led : T9.fn "led" = f_led := by kernel_rfl
theorem b_turned_over {u0 u1 u2 u3 u4 : U} {S : Sto} : f_turned_over [u0, u1, u2, u3, u4] S = (evSs T9 FU c_turned_over (startR N_turned_over [u0, u1, u2, u3, u4]) S).res := fnOf_eq rfl
theorem r_turned_over {u0 u1 u2 u3 u4 : U} : startR N_turned_over [u0, u1, u2, u3, u4] = [some u0, some u1, some u2, some u3, some u4] ++ List.replicate (N_turned_over.length - 5) none := rfl
def T10 : Th := T9.add "turned_over" f_turned_over
def f_put_in : List U → Sto → Res U := fnOf T10 FU N_put_in P_put_in c_put_in
theorem b_put_in {u0 u1 u2 u3 : U} {S : Sto} : f_put_in [u0, u1, u2, u3] S = (evSs T10 FU c_put_in (startR N_put_in [u0, u1, u2, u3]) S).res := fnOf_eq rfl
theorem r_put_in {u0 u1 u2 u3 : U} : startR N_put_in [u0, u1, u2, u3] = [some u0, some u1, some u2, some u3] ++ List.replicate (N_put_in.length - 4) none := rfl
def T11 : Th := T10.add "put_in" f_put_in
def f_behind : List U → Sto → Res U := fnOf T11 FU N_behind P_behind c_behind
theorem d_behind__turned_over : T11.dom "turned_over" = true := by decide +kernel
theorem t_behind__turned_over : T11.fn "turned_over" = f_turned_over := by kernel_rfl
theorem d_behind__is_pair : T11.dom "is_pair" = true := by decide +kernel
theorem t_behind__is_pair : T11.fn "is_pair" = f_is_pair := by kernel_rfl
theorem d_behind__put_in : T11.dom "put_in" = true := by decide +kernel
theorem t_behind__put_in : T11.fn "put_in" = f_put_in := by kernel_rfl
theorem d_behind__is_from : T11.dom "is_from" = true := by decide +kernel
theorem t_behind__is_from : T11.fn "is_from" = f_is_from := by kernel_rfl
theorem b_behind {u0 u1 : U} {S : Sto} : f_behind [u0, u1] S = (evSs T11 FU c_behind (startR N_behind [u0, u1]) S).res := fnOf_eq rfl
theorem r_behind {u0 u1 : U} : startR N_behind [u0, u1] = [some u0, some u1] ++ List.replicate (N_behind.length - 2) none := rfl
def T12 : Th := T11.add "behind" f_behind
def f_Bench____init__ : List U → Sto → Res U := fnOf T12 FU N_Bench____init__ P_Bench____init__ c_Bench____init__
theorem b_Bench____init__ {u0 u1 : U} {S : Sto} : f_Bench____init__ [u0, u1] S = (evSs T12 FU c_Bench____init__ (startR N_Bench____init__ [u0, u1]) S).res := fnOf_eq rfl
theorem r_Bench____init__ {u0 u1 : U} : startR N_Bench____init__ [u0, u1] = [some u0, some u1] ++ List.replicate (N_Bench____init__.length - 2) none := rfl
def T13 : Th := T12.addM "Bench" "__init__" ([] : List Str) f_Bench____init__
def f_Bench__do : List U → Sto → Res U := fnOf T13 FU N_Bench__do P_Bench__do c_Bench__do
theorem d_Bench__do__behind : T13.dom "behind" = true := by decide +kernel
theorem t_Bench__do__behind : T13.fn "behind" = f_behind := by kernel_rfl
theorem b_Bench__do {u0 u1 u2 : U} {S : Sto} : f_Bench__do [u0, u1, u2] S = (evSs T13 FU c_Bench__do (startR N_Bench__do [u0, u1, u2]) S).res := fnOf_eq rfl
theorem r_Bench__do {u0 u1 u2 : U} : startR N_Bench__do [u0, u1, u2] = [some u0, some u1, some u2] ++ List.replicate (N_Bench__do.length - 3) none := rfl
def T14 : Th := T13.addM "Bench" "do" (["word", "parts"] : List Str) f_Bench__do
def f_is_full_by : List U → Sto → Res U := fnOf T14 FU N_is_full_by P_is_full_by c_is_full_by
theorem d_is_full_by__less_ones : T14.dom "less_ones" = true := by decide +kernel
theorem t_is_full_by__less_ones : T14.fn "less_ones" = f_less_ones := by kernel_rfl
theorem b_is_full_by {u0 : U} {S : Sto} : f_is_full_by [u0] S = (evSs T14 FU c_is_full_by (startR N_is_full_by [u0]) S).res := fnOf_eq rfl
theorem r_is_full_by {u0 : U} : startR N_is_full_by [u0] = [some u0] ++ List.replicate (N_is_full_by.length - 1) none := rfl
def T15 : Th := T14.add "is_full_by" f_is_full_by
def f_need_full : List U → Sto → Res U := fnOf T15 FU N_need_full P_need_full c_need_full
theorem d_need_full__need_web : T15.dom "need_web" = true := by decide +kernel
theorem t_need_full__need_web : T15.fn "need_web" = f_need_web := by kernel_rfl
theorem d_need_full__is_full_by : T15.dom "is_full_by" = true := by decide +kernel
theorem t_need_full__is_full_by : T15.fn "is_full_by" = f_is_full_by := by kernel_rfl
theorem b_need_full {u0 : U} {S : Sto} : f_need_full [u0] S = (evSs T15 FU c_need_full (startR N_need_full [u0]) S).res := fnOf_eq rfl
theorem r_need_full {u0 : U} : startR N_need_full [u0] = [some u0] ++ List.replicate (N_need_full.length - 1) none := rfl
def T16 : Th := T15.add "need_full" f_need_full
def f_grow_bench : List U → Sto → Res U := fnOf T16 FU N_grow_bench P_grow_bench c_grow_bench
theorem d_grow_bench__Bench__do : T16.mdom "Bench" "do" = true := by decide +kernel
theorem k_grow_bench__Bench__do : T16.mks "Bench" "do" = (["word", "parts"] : List Str) := by kernel_rfl
theorem t_grow_bench__Bench__do : T16.me "Bench" "do" = f_Bench__do := by kernel_rfl
theorem b_grow_bench {u0 : U} {S : Sto} : f_grow_bench [u0] S = (evSs T16 FU c_grow_bench (startR N_grow_bench [u0]) S).res := fnOf_eq rfl
theorem r_grow_bench {u0 : U} : startR N_grow_bench [u0] = [some u0] ++ List.replicate (N_grow_bench.length - 1) none := rfl
def T17 : Th := T16.add "grow_bench" f_grow_bench
def f_more : List U → Sto → Res U := fnOf T17 FU N_more P_more c_more
theorem d_more__need_full : T17.dom "need_full" = true := by decide +kernel
theorem t_more__need_full : T17.fn "need_full" = f_need_full := by kernel_rfl
theorem d_more__grow_bench : T17.dom "grow_bench" = true := by decide +kernel
theorem t_more__grow_bench : T17.fn "grow_bench" = f_grow_bench := by kernel_rfl
theorem d_more__Bench____init__ : T17.mdom "Bench" "__init__" = true := by decide +kernel
theorem k_more__Bench____init__ : T17.mks "Bench" "__init__" = ([] : List Str) := by kernel_rfl
theorem t_more__Bench____init__ : T17.me "Bench" "__init__" = f_Bench____init__ := by kernel_rfl
theorem b_more {u0 : U} {S : Sto} : f_more [u0] S = (evSs T17 FU c_more (startR N_more [u0]) S).res := fnOf_eq rfl
theorem r_more {u0 : U} : startR N_more [u0] = [some u0] ++ List.replicate (N_more.length - 1) none := rfl
def T18 : Th := T17.add "more" f_more
def f__law_spread : List U → Sto → Res U := fnOf T18 FU N__law_spread P__law_spread c__law_spread
theorem b__law_spread {u0 u1 : U} {S : Sto} : f__law_spread [u0, u1] S = (evSs T18 FU c__law_spread (startR N__law_spread [u0, u1]) S).res := fnOf_eq rfl
theorem r__law_spread {u0 u1 : U} : startR N__law_spread [u0, u1] = [some u0, some u1] ++ List.replicate (N__law_spread.length - 2) none := rfl
def T19 : Th := T18.add "_law_spread" f__law_spread
def f__law_open : List U → Sto → Res U := fnOf T19 FU N__law_open P__law_open c__law_open
theorem b__law_open {u0 : U} {S : Sto} : f__law_open [u0] S = (evSs T19 FU c__law_open (startR N__law_open [u0]) S).res := fnOf_eq rfl
theorem r__law_open {u0 : U} : startR N__law_open [u0] = [some u0] ++ List.replicate (N__law_open.length - 1) none := rfl
def T20 : Th := T19.add "_law_open" f__law_open
def f__law_anew : List U → Sto → Res U := fnOf T20 FU N__law_anew P__law_anew c__law_anew
theorem b__law_anew {u0 : U} {S : Sto} : f__law_anew [u0] S = (evSs T20 FU c__law_anew (startR N__law_anew [u0]) S).res := fnOf_eq rfl
theorem r__law_anew {u0 : U} : startR N__law_anew [u0] = [some u0] ++ List.replicate (N__law_anew.length - 1) none := rfl
def T21 : Th := T20.add "_law_anew" f__law_anew
def f__law_take : List U → Sto → Res U := fnOf T21 FU N__law_take P__law_take c__law_take
theorem d__law_take___law_spread : T21.dom "_law_spread" = true := by decide +kernel
theorem t__law_take___law_spread : T21.fn "_law_spread" = f__law_spread := by kernel_rfl
theorem b__law_take {u0 u1 : U} {S : Sto} : f__law_take [u0, u1] S = (evSs T21 FU c__law_take (startR N__law_take [u0, u1]) S).res := fnOf_eq rfl
theorem r__law_take {u0 u1 : U} : startR N__law_take [u0, u1] = [some u0, some u1] ++ List.replicate (N__law_take.length - 2) none := rfl
def T22 : Th := T21.add "_law_take" f__law_take
def f__law_one : List U → Sto → Res U := fnOf T22 FU N__law_one P__law_one c__law_one
theorem d__law_one___law_take : T22.dom "_law_take" = true := by decide +kernel
theorem t__law_one___law_take : T22.fn "_law_take" = f__law_take := by kernel_rfl
theorem b__law_one {u0 u1 : U} {S : Sto} : f__law_one [u0, u1] S = (evSs T22 FU c__law_one (startR N__law_one [u0, u1]) S).res := fnOf_eq rfl
theorem r__law_one {u0 u1 : U} : startR N__law_one [u0, u1] = [some u0, some u1] ++ List.replicate (N__law_one.length - 2) none := rfl
def T23 : Th := T22.add "_law_one" f__law_one
def f__law_drawn : List U → Sto → Res U := fnOf T23 FU N__law_drawn P__law_drawn c__law_drawn
theorem d__law_drawn___law_take : T23.dom "_law_take" = true := by decide +kernel
theorem t__law_drawn___law_take : T23.fn "_law_take" = f__law_take := by kernel_rfl
theorem b__law_drawn {u0 u1 : U} {S : Sto} : f__law_drawn [u0, u1] S = (evSs T23 FU c__law_drawn (startR N__law_drawn [u0, u1]) S).res := fnOf_eq rfl
theorem r__law_drawn {u0 u1 : U} : startR N__law_drawn [u0, u1] = [some u0, some u1] ++ List.replicate (N__law_drawn.length - 2) none := rfl
def T24 : Th := T23.add "_law_drawn" f__law_drawn
def f__law_web : List U → Sto → Res U := fnOf T24 FU N__law_web P__law_web c__law_web
theorem d__law_web___law_take : T24.dom "_law_take" = true := by decide +kernel
theorem t__law_web___law_take : T24.fn "_law_take" = f__law_take := by kernel_rfl
theorem d__law_web___law_one : T24.dom "_law_one" = true := by decide +kernel
theorem t__law_web___law_one : T24.fn "_law_one" = f__law_one := by kernel_rfl
theorem b__law_web {u0 u1 u2 : U} {S : Sto} : f__law_web [u0, u1, u2] S = (evSs T24 FU c__law_web (startR N__law_web [u0, u1, u2]) S).res := fnOf_eq rfl
theorem r__law_web {u0 u1 u2 : U} : startR N__law_web [u0, u1, u2] = [some u0, some u1, some u2] ++ List.replicate (N__law_web.length - 3) none := rfl
def T25 : Th := T24.add "_law_web" f__law_web
def f__law_rich : List U → Sto → Res U := fnOf T25 FU N__law_rich P__law_rich c__law_rich
theorem d__law_rich___law_take : T25.dom "_law_take" = true := by decide +kernel
theorem t__law_rich___law_take : T25.fn "_law_take" = f__law_take := by kernel_rfl
theorem d__law_rich___law_drawn : T25.dom "_law_drawn" = true := by decide +kernel
theorem t__law_rich___law_drawn : T25.fn "_law_drawn" = f__law_drawn := by kernel_rfl
theorem b__law_rich {u0 u1 u2 : U} {S : Sto} : f__law_rich [u0, u1, u2] S = (evSs T25 FU c__law_rich (startR N__law_rich [u0, u1, u2]) S).res := fnOf_eq rfl
theorem r__law_rich {u0 u1 u2 : U} : startR N__law_rich [u0, u1, u2] = [some u0, some u1, some u2] ++ List.replicate (N__law_rich.length - 3) none := rfl
def T26 : Th := T25.add "_law_rich" f__law_rich
def f__law_full : List U → Sto → Res U := fnOf T26 FU N__law_full P__law_full c__law_full
theorem d__law_full___law_take : T26.dom "_law_take" = true := by decide +kernel
theorem t__law_full___law_take : T26.fn "_law_take" = f__law_take := by kernel_rfl
theorem b__law_full {u0 u1 u2 : U} {S : Sto} : f__law_full [u0, u1, u2] S = (evSs T26 FU c__law_full (startR N__law_full [u0, u1, u2]) S).res := fnOf_eq rfl
theorem r__law_full {u0 u1 u2 : U} : startR N__law_full [u0, u1, u2] = [some u0, some u1, some u2] ++ List.replicate (N__law_full.length - 3) none := rfl
def T27 : Th := T26.add "_law_full" f__law_full
def f__law_lead : List U → Sto → Res U := fnOf T27 FU N__law_lead P__law_lead c__law_lead
theorem b__law_lead {u0 u1 u2 u3 : U} {S : Sto} : f__law_lead [u0, u1, u2, u3] S = (evSs T27 FU c__law_lead (startR N__law_lead [u0, u1, u2, u3]) S).res := fnOf_eq rfl
theorem r__law_lead {u0 u1 u2 u3 : U} : startR N__law_lead [u0, u1, u2, u3] = [some u0, some u1, some u2, some u3] ++ List.replicate (N__law_lead.length - 4) none := rfl
def T28 : Th := T27.add "_law_lead" f__law_lead
def f__law_put : List U → Sto → Res U := fnOf T28 FU N__law_put P__law_put c__law_put
theorem b__law_put {u0 u1 u2 u3 : U} {S : Sto} : f__law_put [u0, u1, u2, u3] S = (evSs T28 FU c__law_put (startR N__law_put [u0, u1, u2, u3]) S).res := fnOf_eq rfl
theorem r__law_put {u0 u1 u2 u3 : U} : startR N__law_put [u0, u1, u2, u3] = [some u0, some u1, some u2, some u3] ++ List.replicate (N__law_put.length - 4) none := rfl
def T29 : Th := T28.add "_law_put" f__law_put
def f__law_whole : List U → Sto → Res U := fnOf T29 FU N__law_whole P__law_whole c__law_whole
theorem b__law_whole {u0 u1 u2 : U} {S : Sto} : f__law_whole [u0, u1, u2] S = (evSs T29 FU c__law_whole (startR N__law_whole [u0, u1, u2]) S).res := fnOf_eq rfl
theorem r__law_whole {u0 u1 u2 : U} : startR N__law_whole [u0, u1, u2] = [some u0, some u1, some u2] ++ List.replicate (N__law_whole.length - 3) none := rfl
def T30 : Th := T29.add "_law_whole" f__law_whole
def f__law_four : List U → Sto → Res U := fnOf T30 FU N__law_four P__law_four c__law_four
theorem d__law_four___law_lead : T30.dom "_law_lead" = true := by decide +kernel
theorem t__law_four___law_lead : T30.fn "_law_lead" = f__law_lead := by kernel_rfl
theorem b__law_four {u0 u1 u2 u3 u4 : U} {S : Sto} : f__law_four [u0, u1, u2, u3, u4] S = (evSs T30 FU c__law_four (startR N__law_four [u0, u1, u2, u3, u4]) S).res := fnOf_eq rfl
theorem r__law_four {u0 u1 u2 u3 u4 : U} : startR N__law_four [u0, u1, u2, u3, u4] = [some u0, some u1, some u2, some u3, some u4] ++ List.replicate (N__law_four.length - 5) none := rfl
def T31 : Th := T30.add "_law_four" f__law_four
def f__law_behind : List U → Sto → Res U := fnOf T31 FU N__law_behind P__law_behind c__law_behind
theorem d__law_behind___law_four : T31.dom "_law_four" = true := by decide +kernel
theorem t__law_behind___law_four : T31.fn "_law_four" = f__law_four := by kernel_rfl
theorem d__law_behind___law_whole : T31.dom "_law_whole" = true := by decide +kernel
theorem t__law_behind___law_whole : T31.fn "_law_whole" = f__law_whole := by kernel_rfl
theorem d__law_behind___law_put : T31.dom "_law_put" = true := by decide +kernel
theorem t__law_behind___law_put : T31.fn "_law_put" = f__law_put := by kernel_rfl
theorem b__law_behind {u0 u1 : U} {S : Sto} : f__law_behind [u0, u1] S = (evSs T31 FU c__law_behind (startR N__law_behind [u0, u1]) S).res := fnOf_eq rfl
theorem r__law_behind {u0 u1 : U} : startR N__law_behind [u0, u1] = [some u0, some u1] ++ List.replicate (N__law_behind.length - 2) none := rfl
def T32 : Th := T31.add "_law_behind" f__law_behind
def f__law_along : List U → Sto → Res U := fnOf T32 FU N__law_along P__law_along c__law_along
theorem d__law_along___law_behind : T32.dom "_law_behind" = true := by decide +kernel
theorem t__law_along___law_behind : T32.fn "_law_behind" = f__law_behind := by kernel_rfl
theorem b__law_along {u0 u1 u2 : U} {S : Sto} : f__law_along [u0, u1, u2] S = (evSs T32 FU c__law_along (startR N__law_along [u0, u1, u2]) S).res := fnOf_eq rfl
theorem r__law_along {u0 u1 u2 : U} : startR N__law_along [u0, u1, u2] = [some u0, some u1, some u2] ++ List.replicate (N__law_along.length - 3) none := rfl
def T33 : Th := T32.add "_law_along" f__law_along
def f__law_told : List U → Sto → Res U := fnOf T33 FU N__law_told P__law_told c__law_told
theorem d__law_told__more : T33.dom "more" = true := by decide +kernel
theorem t__law_told__more : T33.fn "more" = f_more := by kernel_rfl
theorem b__law_told {u0 : U} {S : Sto} : f__law_told [u0] S = (evSs T33 FU c__law_told (startR N__law_told [u0]) S).res := fnOf_eq rfl
theorem r__law_told {u0 : U} : startR N__law_told [u0] = [some u0] ++ List.replicate (N__law_told.length - 1) none := rfl
def T34 : Th := T33.add "_law_told" f__law_told
def f__law_is_full : List U → Sto → Res U := fnOf T34 FU N__law_is_full P__law_is_full c__law_is_full
theorem b__law_is_full {u0 : U} {S : Sto} : f__law_is_full [u0] S = (evSs T34 FU c__law_is_full (startR N__law_is_full [u0]) S).res := fnOf_eq rfl
theorem r__law_is_full {u0 : U} : startR N__law_is_full [u0] = [some u0] ++ List.replicate (N__law_is_full.length - 1) none := rfl
def T35 : Th := T34.add "_law_is_full" f__law_is_full
def f_law : List U → Sto → Res U := fnOf T35 FU N_law P_law c_law
theorem d_law___law_open : T35.dom "_law_open" = true := by decide +kernel
theorem t_law___law_open : T35.fn "_law_open" = f__law_open := by kernel_rfl
theorem d_law___law_full : T35.dom "_law_full" = true := by decide +kernel
theorem t_law___law_full : T35.fn "_law_full" = f__law_full := by kernel_rfl
theorem d_law___law_told : T35.dom "_law_told" = true := by decide +kernel
theorem t_law___law_told : T35.fn "_law_told" = f__law_told := by kernel_rfl
theorem d_law___law_along : T35.dom "_law_along" = true := by decide +kernel
theorem t_law___law_along : T35.fn "_law_along" = f__law_along := by kernel_rfl
theorem d_law___law_one : T35.dom "_law_one" = true := by decide +kernel
theorem t_law___law_one : T35.fn "_law_one" = f__law_one := by kernel_rfl
theorem d_law___law_anew : T35.dom "_law_anew" = true := by decide +kernel
theorem t_law___law_anew : T35.fn "_law_anew" = f__law_anew := by kernel_rfl
theorem d_law___law_is_full : T35.dom "_law_is_full" = true := by decide +kernel
theorem t_law___law_is_full : T35.fn "_law_is_full" = f__law_is_full := by kernel_rfl
theorem d_law___law_web : T35.dom "_law_web" = true := by decide +kernel
theorem t_law___law_web : T35.fn "_law_web" = f__law_web := by kernel_rfl
theorem d_law___law_rich : T35.dom "_law_rich" = true := by decide +kernel
theorem t_law___law_rich : T35.fn "_law_rich" = f__law_rich := by kernel_rfl
theorem d_law___law_take : T35.dom "_law_take" = true := by decide +kernel
theorem t_law___law_take : T35.fn "_law_take" = f__law_take := by kernel_rfl
theorem b_law {u0 : U} {S : Sto} : f_law [u0] S = (evSs T35 FU c_law (startR N_law [u0]) S).res := fnOf_eq rfl
theorem r_law {u0 : U} : startR N_law [u0] = [some u0] ++ List.replicate (N_law.length - 1) none := rfl
def T36 : Th := T35.add "law" f_law
end K

set_option Elab.async false
set_option linter.all false
set_option maxRecDepth 100000
set_option maxHeartbeats 1600000
namespace K
open PySem PySem.Spec PyProof.Rows L2 Z
def isW : U → Bool
  | .int _ => true
  | _ => false
def noObj : U → Bool
  | .obj _ => false
  | .fn _ => false
  | .exc _ => false
  | .non => true
  | .bl _ => true
  | .int _ => true
  | .str _ => true
  | .tup _ => true
  | .tl _ => true
  | .rl _ => true
theorem no_non : noObj .non = true := id rfl
theorem no_bl {b : Bool} : noObj (.bl b) = true := id rfl
theorem no_int {b : Int} : noObj (.int b) = true := id rfl
theorem no_str {b : Str} : noObj (.str b) = true := id rfl
theorem no_tup {b : List U} : noObj (.tup b) = true := id rfl
theorem no_tl {b : List U} : noObj (.tl b) = true := id rfl
theorem no_rl {b : List U} : noObj (.rl b) = true := id rfl
theorem e_is_whole {u : U} {S : Sto} (h : noObj u = true) : f_is_whole [u] S = .ok (.bl (isW u)) S := by
  rw [b_is_whole, r_is_whole]
  cases u <;> first | (cases h; done) | simp [evSs, evS, ev, evs, evB, evO, evN_lst, evN_listOf, evN_cat, evI, Res.bind, Res.toS, SR.andThen, ofO, ofS, asgT, asgTs, List.getElem?_cons_zero, List.getElem?_cons_succ, List.set_cons_zero, List.set_cons_succ, Option.map_some, Option.map_none, Option.bind_some, Option.bind_none, List.length_cons, List.length_nil, if_true, if_false, SR.res, Bool.not_true, Bool.not_false, Bool.false_eq_true, wipeR, List.map_cons, List.map_nil, cmp_eqI, cmp_neI, cmpS_eq, cmpS_ne, cmpI_lt, cmpI_le, cmpI_gt, cmpI_ge, Bool.not_eq_true, decide_true, decide_false, c_is_whole, isiE, tyE, isiT, isW]
def fromB (k : Int) : U → Bool
  | .int i => decide (k ≤ i)
  | _ => false
theorem e_is_from {u : U} {k : Int} {S : Sto} (h : noObj u = true) : f_is_from [u, .int k] S = .ok (.bl (fromB k u)) S := by
  rw [b_is_from, r_is_from]
  cases u <;> first | (cases h; done) | simp [evSs, evS, ev, evs, evB, evO, evN_lst, evN_listOf, evN_cat, evI, Res.bind, Res.toS, SR.andThen, ofO, ofS, asgT, asgTs, List.getElem?_cons_zero, List.getElem?_cons_succ, List.set_cons_zero, List.set_cons_succ, Option.map_some, Option.map_none, Option.bind_some, Option.bind_none, List.length_cons, List.length_nil, if_true, if_false, SR.res, Bool.not_true, Bool.not_false, Bool.false_eq_true, wipeR, List.map_cons, List.map_nil, cmp_eqI, cmp_neI, cmpS_eq, cmpS_ne, cmpI_lt, cmpI_le, cmpI_gt, cmpI_ge, Bool.not_eq_true, decide_true, decide_false, c_is_from, d_is_from__is_whole, t_is_from__is_whole, e_is_whole, no_non, no_bl, no_int, no_str, no_tup, no_tl, no_rl, isW, cmpE, fromB]
end K

set_option Elab.async false
set_option linter.all false
set_option maxRecDepth 100000
set_option maxHeartbeats 1600000
namespace K
open PySem PySem.Spec PyProof.Rows L2 Z
def rowU (r : List Int) : U := .tup (r.map U.int)
def webU (W : List (List Int)) : U := .tup (W.map rowU)
structure WebOk (W : List (List Int)) : Prop where
  pos : 1 ≤ W.length
  le : W.length ≤ 8
  len : ∀ r, r ∈ W → r.length = W.length
  nn : ∀ r, r ∈ W → ∀ i, i ∈ r → 0 ≤ i
theorem all_true {α : Type} (l : List α) : (l.all fun _ => true) = true := by induction l <;> simp_all
theorem e_sq_l1 {r : List Int} {ρ : Rho} {S : Sto} (hr : r.length ≤ 8) (h2 : ρ[2]? = some (some (rowU r))) (h3 : 3 < ρ.length) : evN T2 c_is_square_l1 ρ S = .ok (r.map fun _ => .bl true) S := by
  have := evN_map (T := T2) (tg := .name 3) (it := .seq (.var 2)) (elt := .call "is_whole" (.cons (.var 3) .nil)) (own := [("number", 3)]) (ρ := ρ) (S := S) (S1 := S) (items := r.map U.int) (fun _ => .bl true)
    (by simp only [evI, ev, h2, Res.bind, seqOf, rowU, Option.isSome, if_true]) Over.tup len_tup (by simp; omega) (fun x hx => by
      obtain ⟨i, hi, rfl⟩ := List.mem_map.mp hx
      refine ⟨_, rfl, ?_⟩
      simp [evSs, evS, ev, evs, evB, evO, evN_lst, evN_listOf, evN_cat, evI, Res.bind, Res.toS, SR.andThen, ofO, ofS, asgT, asgTs, List.getElem?_cons_zero, List.getElem?_cons_succ, List.set_cons_zero, List.set_cons_succ, Option.map_some, Option.map_none, Option.bind_some, Option.bind_none, List.length_cons, List.length_nil, if_true, if_false, SR.res, Bool.not_true, Bool.not_false, Bool.false_eq_true, wipeR, List.map_cons, List.map_nil, cmp_eqI, cmp_neI, cmpS_eq, cmpS_ne, cmpI_lt, cmpI_le, cmpI_gt, cmpI_ge, Bool.not_eq_true, decide_true, decide_false, h3, d_is_square__is_whole, t_is_square__is_whole, e_is_whole, no_int, isW, wipeR])
  rw [List.map_map] at this
  exact this
theorem e_is_square {W : List (List Int)} {n : Nat} {S : Sto} (hl : W.length = n) (hn : n ≤ 8) (hr : ∀ r, r ∈ W → r.length = n) : f_is_square [webU W, .int n] S = .ok (.bl true) S := by
  subst hl
  rw [b_is_square, r_is_square]
  obtain ⟨ρ', S', h1, x, y, h2, h3⟩ := forGo_all (src := .seq (webU W)) (t := .name 2) (body := evSs T2 FU c_is_square_b1) (items := W.map rowU) (fun i ρ S' => ∃ x y, ρ = [some (webU W), some (.int W.length), x, y] ∧ S' = S) (fun _ _ S' _ hi => Over.tup (I := fun _ => True) S' trivial _ hi)
    (n := W.length) (ρ := [some (webU W), some (.int W.length), none, none]) (S := S) (by
      intro i x ρ S' hx ⟨a, b, h1, h2⟩
      subst h1 h2
      obtain ⟨r, hr1, rfl⟩ := List.mem_map.mp (List.mem_of_getElem? hx)
      refine ⟨_, rfl, ?_⟩
      have hrl := hr r hr1
      have := e_sq_l1 (r := r) (ρ := [some (webU W), some (.int W.length), some (rowU r), b]) (S := S') (by omega) rfl (by simp)
      refine ⟨[some (webU W), some (.int W.length), some (rowU r), b], S', ?_, _, _, rfl, rfl⟩
      simp only [rowU] at this
      simp [evSs, evS, ev, evs, evB, evO, evN_lst, evN_listOf, evN_cat, evI, Res.bind, Res.toS, SR.andThen, ofO, ofS, asgT, asgTs, List.getElem?_cons_zero, List.getElem?_cons_succ, List.set_cons_zero, List.set_cons_succ, Option.map_some, Option.map_none, Option.bind_some, Option.bind_none, List.length_cons, List.length_nil, if_true, if_false, SR.res, Bool.not_true, Bool.not_false, Bool.false_eq_true, wipeR, List.map_cons, List.map_nil, cmp_eqI, cmp_neI, cmpS_eq, cmpS_ne, cmpI_lt, cmpI_le, cmpI_gt, cmpI_ge, Bool.not_eq_true, decide_true, decide_false, c_is_square_b1, isiE, tyE, isiT, biE, seqOf, lstOf, this, rowU, hrl, blsOf_map, all_true]) (by simp) ⟨none, none, rfl, rfl⟩
  subst h2 h3
  have hN : (N_is_square.length - 2) = 2 := rfl
  simp only [webU] at h1
  simp [evSs, evS, ev, evs, evB, evO, evN_lst, evN_listOf, evN_cat, evI, Res.bind, Res.toS, SR.andThen, ofO, ofS, asgT, asgTs, List.getElem?_cons_zero, List.getElem?_cons_succ, List.set_cons_zero, List.set_cons_succ, Option.map_some, Option.map_none, Option.bind_some, Option.bind_none, List.length_cons, List.length_nil, if_true, if_false, SR.res, Bool.not_true, Bool.not_false, Bool.false_eq_true, wipeR, List.map_cons, List.map_nil, cmp_eqI, cmp_neI, cmpS_eq, cmpS_ne, cmpI_lt, cmpI_le, cmpI_gt, cmpI_ge, Bool.not_eq_true, decide_true, decide_false, c_is_square, hN, List.replicate, isiE, tyE, isiT, biE, seqOf, lstOf, webU, len_tup, h1]
end K

set_option Elab.async false
set_option linter.all false
set_option maxRecDepth 100000
set_option maxHeartbeats 1600000
/-! Z15: small data: compared, written. -/
namespace Z
open PySem PySem.Spec PyProof.Rows L2 RZ
def bnd : Nat → Nat
  | 0 => 60
  | n + 1 => 16 * bnd n
theorem bnd_ge : ∀ h, 60 ≤ bnd h
  | 0 => Nat.le_refl _
  | h + 1 => by have := bnd_ge h; show 60 ≤ 16 * bnd h; omega
theorem bnd_mono : ∀ {h k : Nat}, h ≤ k → bnd h ≤ bnd k
  | h, 0, e => by have : h = 0 := by omega
                  subst this; exact Nat.le_refl _
  | h, k + 1, e => by
    by_cases q : h ≤ k
    · have := bnd_mono q; show bnd h ≤ 16 * bnd k; omega
    · have : h = k + 1 := by omega
      subst this; exact Nat.le_refl _
def Dd (h : Nat) (u : U) (d : PyData) : Prop := (∀ S m, h < m → dat S m u = some d) ∧ d.canLay0 = true ∧ d.depth ≤ h ∧ d.showable = true ∧ d.shown.length ≤ bnd h
def Dk (h : Nat) (u : U) : Prop := ∃ d, Dd h u d
theorem Dk.mono {h k : Nat} {u : U} (x : Dk h u) (e : h ≤ k) : Dk k u := by
  obtain ⟨d, h1, h2, h3, h4, h5⟩ := x
  exact ⟨d, fun S m q => h1 S m (by omega), h2, by omega, h4, Nat.le_trans h5 (bnd_mono e)⟩
theorem Dk.non {h : Nat} : Dk h .non := ⟨.none, fun S m q => by cases m with | zero => omega | succ m => simp only [dat], rfl, Nat.zero_le _, rfl, by
  have e : (PyData.shown .none).length = 4 := rfl
  have := bnd_ge h; omega⟩
theorem Dk.bl {h : Nat} {b : Bool} : Dk h (.bl b) := ⟨.bool b, fun S m q => by cases m with | zero => omega | succ m => simp only [dat], rfl, Nat.zero_le _, rfl, by
  have e : (PyData.shown (.bool b)).length ≤ 5 := by cases b <;> decide
  have := bnd_ge h; omega⟩
theorem Dk.int {h : Nat} {i : Int} (hi : i.natAbs < 10 ^ 40) : Dk h (.int i) := ⟨.int i, fun S m q => by cases m with | zero => omega | succ m => simp only [dat], rfl, Nat.zero_le _, by
    show decide (i.natAbs.log2 < 1920) = true
    refine decide_eq_true ?_
    by_cases q : i.natAbs = 0
    · rw [q]; decide
    · exact (Nat.log2_lt q).mpr (Nat.lt_of_lt_of_le hi (by decide +kernel)), by
  have e := int_text_length_le10 (k := 40) (by decide) hi
  have e2 : (PyData.shown (.int i)).length = (toString i).length := PySem.ofString_length _
  have := bnd_ge h; omega⟩
theorem Dk.str {h : Nat} {s : Str} (h1 : PyData.strOk s = true) (h2 : (reprText s).length ≤ 60) : Dk h (.str s) := ⟨.str s, fun S m q => by cases m with | zero => omega | succ m => simp only [dat], h1, Nat.zero_le _, rfl, Nat.le_trans h2 (bnd_ge h)⟩
theorem Dk.all {h : Nat} : ∀ {us : List U}, (∀ u, u ∈ us → Dk h u) → ∃ ds, (∀ S m, h < m → datA S m us = some ds) ∧ PyData.canLayAll0 ds = true ∧ PyData.depthAll ds ≤ h ∧ PyData.showableAll ds = true ∧ ((PyData.shownAll ds).map (·.length)).sum ≤ us.length * bnd h ∧ (PyData.shownAll ds).length = us.length
  | [], _ => ⟨[], fun S m q => by simp only [datA], rfl, Nat.zero_le _, rfl, by simp [PyData.shownAll], rfl⟩
  | u :: us, x => by
    obtain ⟨d, a1, a2, a3, a4, a5⟩ := x u List.mem_cons_self
    obtain ⟨ds, b1, b2, b3, b4, b5, b6⟩ := Dk.all (us := us) fun v hv => x v (List.mem_cons_of_mem _ hv)
    refine ⟨d :: ds, fun S m q => by simp only [datA, a1 S m q, b1 S m q], ?_, ?_, ?_, ?_, ?_⟩
    · simp only [PyData.canLayAll0, a2, b2, Bool.and_self]
    · simp only [PyData.depthAll]; omega
    · simp only [PyData.showableAll, a4, b4, Bool.and_self]
    · simp only [PyData.shownAll, List.map_cons, List.sum_cons, List.length_cons, Nat.succ_mul]; omega
    · simp only [PyData.shownAll, List.length_cons, b6]
theorem mul_le12 {n b : Nat} (h : n ≤ 12) : n * b ≤ 12 * b := Nat.mul_le_mul_right b h
theorem Dk.tup {h : Nat} {us : List U} (x : ∀ u, u ∈ us → Dk h u) (hl : us.length ≤ 12) : Dk (h + 1) (.tup us) := by
  obtain ⟨ds, b1, b2, b3, b4, b5, b6⟩ := Dk.all x
  refine ⟨.tuple ds, fun S m q => ?_, b2, Nat.succ_le_succ b3, b4, ?_⟩
  · cases m with
    | zero => omega
    | succ m => simp only [dat, b1 S m (by omega), Option.map_some]
  · have := tupleText_len_le (PyData.shownAll ds)
    have h2 := mul_le12 (b := bnd h) hl
    have h3 := bnd_ge h
    rw [b6] at this
    show (tupleText (PyData.shownAll ds)).length ≤ 16 * bnd h
    omega
theorem Dk.tl {h : Nat} {us : List U} (x : ∀ u, u ∈ us → Dk h u) (hl : us.length ≤ 12) : Dk (h + 1) (.tl us) := by
  obtain ⟨ds, b1, b2, b3, b4, b5, b6⟩ := Dk.all x
  refine ⟨.list ds, fun S m q => ?_, b2, Nat.succ_le_succ b3, b4, ?_⟩
  · cases m with
    | zero => omega
    | succ m => simp only [dat, b1 S m (by omega), Option.map_some]
  · have := listText_len_le (PyData.shownAll ds)
    have h2 := mul_le12 (b := bnd h) hl
    have h3 := bnd_ge h
    rw [b6] at this
    show (listText (PyData.shownAll ds)).length ≤ 16 * bnd h
    omega
/-- repr -/
theorem Dk.repr {h : Nat} {u : U} (x : Dk h u) (hh : h ≤ 4) (hr : u.isRef = true) : ∃ s : Str, ∀ S, reprE S u = some (.str s) := by
  obtain ⟨d, h1, h2, h3, h4, h5⟩ := x
  refine ⟨d.shown, fun S => ?_⟩
  have hb : bnd h ≤ sizeLine := Nat.le_trans (bnd_mono hh) (by decide +kernel)
  unfold reprE
  rw [h1 S 12 (by omega)]
  have : (u.isRef && (d.showable && decide (d.shown.length ≤ sizeLine))) = true := by
    rw [hr, h4, decide_eq_true (Nat.le_trans h5 hb)]; rfl
  show (if (u.isRef && (d.showable && decide (d.shown.length ≤ sizeLine))) = true then some (U.str d.shown) else none) = _
  rw [if_pos this]
theorem Dk.shaped {h : Nat} {u : U} {d : PyData} (x : Dd h u d) (hh : h ≤ 11) : SeqAt.shaped d = true := by
  obtain ⟨h1, h2, h3, h4, h5⟩ := x
  unfold SeqAt.shaped
  rw [h2, decide_eq_true (by omega)]; rfl
/-- not the empty tuple -/
theorem Dk.neNil {h : Nat} {S : Sto} {u : U} {us : List U} (x : Dk h (.tup (u :: us))) (hh : h ≤ 11) : cmpE S .eq (.tup (u :: us)) (.tup []) = some false := by
  obtain ⟨d, x⟩ := x
  have hs := Dk.shaped x hh
  have hd := x.1 S 12 (by omega)
  show (match dat S 12 (.tup (u :: us)), dat S 12 (.tup []) with
      | some d, some e => if (SeqAt.shaped d && SeqAt.shaped e) = true then some (PyData.eqv d e) else none
      | _, _ => none) = _
  have hn : dat S 12 (.tup []) = some (.tuple []) := by simp only [dat, datA, Option.map_some]
  rw [hd, hn]
  have hs2 : SeqAt.shaped (.tuple []) = true := by decide +kernel
  show (if (SeqAt.shaped d && SeqAt.shaped (.tuple [])) = true then some (PyData.eqv d (.tuple [])) else none) = _
  rw [hs, hs2]
  show some (PyData.eqv d (.tuple [])) = _
  have : ∃ y ys, d = .tuple (y :: ys) := by
    have e := hd
    simp only [dat, datA, Option.map_eq_some_iff] at e
    obtain ⟨ds, e, rfl⟩ := e
    split at e
    · cases e; exact ⟨_, _, rfl⟩
    · cases e
  obtain ⟨y, ys, rfl⟩ := this
  simp only [PyData.eqv, PyData.eqvAll]
theorem binI_add {S : Sto} {i j : Int} : binE S .add (.int i) (.int j) = some (.int (i + j)) := rfl
theorem binI_sub {S : Sto} {i j : Int} : binE S .sub (.int i) (.int j) = some (.int (i - j)) := rfl
theorem log2_of {n k : Nat} (h : n < 2 ^ k) (hk : 0 < k) : n.log2 < k := by
  by_cases q : n = 0
  · subst q; simpa using hk
  · exact (Nat.log2_lt q).mpr h
theorem binI_mul {S : Sto} {i j : Int} (hi : i.natAbs < 2 ^ 400) (hj : j.natAbs < 2 ^ 400) : binE S .mul (.int i) (.int j) = some (.int (i * j)) := by
  have h1 := log2_of hi (by decide)
  have h2 := log2_of hj (by decide)
  show (if i.natAbs.log2 + j.natAbs.log2 < 1000000 then some (U.int (i * j)) else none) = _
  rw [if_pos (by omega)]
theorem binI_md {S : Sto} {i j : Int} (h : j ≠ 0) : binE S .md (.int i) (.int j) = some (.int (i.fmod j)) := by
  show (if j ≠ 0 then some (U.int (i.fmod j)) else none) = _
  rw [if_pos h]
theorem binI_fd {S : Sto} {i j : Int} (h : 0 < j) (hj : j.natAbs < 2 ^ 400) : binE S .fd (.int i) (.int j) = some (.int (i / j)) := by
  have h2 := log2_of hj (by decide)
  show (if 0 < j ∧ j.natAbs.log2 < 9000 then some (U.int (i / j)) else none) = _
  rw [if_pos ⟨h, by omega⟩]
theorem binI_pw {S : Sto} {i j : Int} (h : 0 ≤ j) (h' : j ≤ 1000000) (hi : i.natAbs < 2 ^ 64) : binE S .pw (.int i) (.int j) = some (.int (i ^ j.toNat)) := by
  show (if 0 ≤ j ∧ j ≤ 1000000 ∧ i.natAbs < 2 ^ 64 then some (U.int (i ^ j.toNat)) else none) = _
  rw [if_pos ⟨h, h', hi⟩]
theorem binT_add {S : Sto} {xs ys : List U} (h : xs.length + ys.length ≤ sizeLine) : binE S .add (.tup xs) (.tup ys) = some (.tup (xs ++ ys)) := by
  show (if xs.length + ys.length ≤ sizeLine then some (U.tup (xs ++ ys)) else none) = _
  rw [if_pos h]
theorem evI_rng1 {T : Th} {a : CE} {ρ : Rho} {S S1 : Sto} {n : Nat} (h : ev T a ρ S = .ok (.int n) S1) (hn : n ≤ 1000000) : evI T (.rng1 a) ρ S = .ok (.rng 0 n) S1 := by
  have hz : -(2 ^ 62) ≤ (n : Int) ∧ (n : Int) < 2 ^ 62 := ⟨by omega, by omega⟩
  simp only [evI, h, Res.bind, if_pos hz, Int.toNat_natCast]
end Z

set_option Elab.async false
set_option linter.all false
set_option maxRecDepth 100000
set_option maxHeartbeats 1600000
namespace K
open PySem PySem.Spec PyProof.Rows L2 Z
theorem gl_most : T5.gl "MOST_PLACES_webs" = some (.int 8) := by kernel_rfl
theorem e_is_web {W : List (List Int)} {S : Sto} (h : WebOk W) : f_is_web [webU W] S = .ok (.bl true) S := by
  rw [b_is_web, r_is_web]
  have h1 := h.pos
  have h2 := h.le
  have sq := e_is_square (W := W) (n := W.length) (S := S) rfl h.le h.len
  have l1 : evN T5 c_is_web_l1 [some (webU W), none] S = .ok ((W.map rowU).map fun _ => .bl true) S := evN_map (T := T5) (tg := .name 1) (it := .seq (.var 0)) (own := [("row", 1)]) (ρ := [some (webU W), none]) (S := S) (S1 := S) (items := W.map rowU) (fun _ => .bl true)
    (by simp [evI, ev, Res.bind, seqOf, webU]) Over.tup len_tup (by simp; omega) (fun x hx => by
      obtain ⟨r, hr, rfl⟩ := List.mem_map.mp hx
      refine ⟨_, rfl, ?_⟩
      have hne : r ≠ [] := fun e => by
        have := h.len r hr
        rw [e] at this
        simp at this
        omega
      have hm := h.nn r hr _ (minL_ok hne).1
      simp [evSs, evS, ev, evs, evB, evO, evN_lst, evN_listOf, evN_cat, evI, Res.bind, Res.toS, SR.andThen, ofO, ofS, asgT, asgTs, List.getElem?_cons_zero, List.getElem?_cons_succ, List.set_cons_zero, List.set_cons_succ, Option.map_some, Option.map_none, Option.bind_some, Option.bind_none, List.length_cons, List.length_nil, if_true, if_false, SR.res, Bool.not_true, Bool.not_false, Bool.false_eq_true, wipeR, List.map_cons, List.map_nil, cmp_eqI, cmp_neI, cmpS_eq, cmpS_ne, cmpI_lt, cmpI_le, cmpI_gt, cmpI_ge, Bool.not_eq_true, decide_true, decide_false, biE, seqOf, rowU, intsOf_map, hne, hm])
  have hN : N_is_web.length - 1 = 1 := rfl
  simp only [webU] at l1 sq
  have e1 : (1 : Int) ≤ W.length := by omega
  have e2 : (W.length : Int) ≤ 8 := by omega
  simp [evSs, evS, ev, evs, evB, evO, evN_lst, evN_listOf, evN_cat, evI, Res.bind, Res.toS, SR.andThen, ofO, ofS, asgT, asgTs, List.getElem?_cons_zero, List.getElem?_cons_succ, List.set_cons_zero, List.set_cons_succ, Option.map_some, Option.map_none, Option.bind_some, Option.bind_none, List.length_cons, List.length_nil, if_true, if_false, SR.res, Bool.not_true, Bool.not_false, Bool.false_eq_true, wipeR, List.map_cons, List.map_nil, cmp_eqI, cmp_neI, cmpS_eq, cmpS_ne, cmpI_lt, cmpI_le, cmpI_gt, cmpI_ge, Bool.not_eq_true, decide_true, decide_false, c_is_web, hN, List.replicate, isiE, tyE, isiT, biE, seqOf, lstOf, webU, gl_most, d_is_web__is_square, t_is_web__is_square, sq, e1, e2, l1, List.map_map, Function.comp_def, blsOf_map, all_true]
theorem e_need_web {W : List (List Int)} {S : Sto} (h : WebOk W) : f_need_web [webU W] S = .ok .non S := by
  rw [b_need_web, r_need_web]
  simp [evSs, evS, ev, evs, evB, evO, evN_lst, evN_listOf, evN_cat, evI, Res.bind, Res.toS, SR.andThen, ofO, ofS, asgT, asgTs, List.getElem?_cons_zero, List.getElem?_cons_succ, List.set_cons_zero, List.set_cons_succ, Option.map_some, Option.map_none, Option.bind_some, Option.bind_none, List.length_cons, List.length_nil, if_true, if_false, SR.res, Bool.not_true, Bool.not_false, Bool.false_eq_true, wipeR, List.map_cons, List.map_nil, cmp_eqI, cmp_neI, cmpS_eq, cmpS_ne, cmpI_lt, cmpI_le, cmpI_gt, cmpI_ge, Bool.not_eq_true, decide_true, decide_false, c_need_web, d_need_web__is_web, t_need_web__is_web, e_is_web h]
end K

set_option Elab.async false
set_option linter.all false
set_option maxRecDepth 100000
set_option maxHeartbeats 1600000
set_option exponentiation.threshold 500
namespace K
open PySem PySem.Spec PyProof.Rows L2 Z
/-! ### the draws -/
theorem fmod_rng {i j : Int} (h : 0 < j) : 0 ≤ i.fmod j ∧ i.fmod j < j := ⟨Int.fmod_nonneg_of_pos i h, Int.fmod_lt_of_pos i h⟩
theorem atI_int {ns : List Int} {i : Int} (h0 : 0 ≤ i) (h1 : i < ns.length) : ∃ v, v ∈ ns ∧ L2.atI (ns.map U.int) i = some (.int v) := by
  obtain ⟨k, rfl⟩ := Int.eq_ofNat_of_zero_le h0
  have hk : k < ns.length := by omega
  exact ⟨ns[k], List.getElem_mem hk, atI_nat (by rw [List.getElem?_map, List.getElem?_eq_getElem hk]; rfl)⟩
def primes : List Int := [2147483629, 2147483587, 2147483579, 2147483563, 2147483549, 2147483543, 2147483497, 2147483489, 2147483477, 2147483423, 2147483399, 2147483353, 2147483323]
def primes1 : List Int := [2147483629, 2147483587, 2147483579, 2147483563, 2147483549, 2147483543, 2147483497]
def primes2 : List Int := [2147483489, 2147483477, 2147483423, 2147483399, 2147483353, 2147483323]
theorem primes_ok : ∀ p, p ∈ primes → 0 < p ∧ p < 2147483648 := by decide +kernel
theorem prime_at {S : Sto} (i : Int) : ∃ p, 0 < p ∧ p < 2147483648 ∧ idxE S (.tl (primes.map U.int)) (.int (i.fmod 13)) = some (.int p) := by
  have h := fmod_rng (i := i) (j := 13) (by decide)
  obtain ⟨p, h1, h2⟩ := atI_int (ns := primes) h.1 (by simpa [primes] using h.2)
  exact ⟨p, (primes_ok p h1).1, (primes_ok p h1).2, h2⟩
theorem nb {a b : Int} {n : Nat} (h0 : -(b : Int) < a) (h1 : a < b) (hb : b.toNat ≤ n) : a.natAbs < n := by omega
theorem p400 : 2 ^ 200 < 2 ^ 400 := by decide +kernel
theorem nb400 {a : Int} (h0 : 0 ≤ a) (h1 : a < 2 ^ 200) : a.natAbs < 2 ^ 400 := by
  have := p400
  have e : ((2 : Int) ^ 200) = ((2 ^ 200 : Nat) : Int) := by norm_cast
  omega
theorem e_spread {c a : Int} {S : Sto} (h0 : 0 ≤ a) (h1 : a ≤ 1000000) : ∃ v, 0 ≤ v ∧ f__law_spread [.int c, .int a] S = .ok (.int v) S := by
  rw [b__law_spread, r__law_spread]
  have hN : N__law_spread.length - 2 = 5 := rfl
  have b0 : ∀ S, binE S .pw (.int 10) (.int 18) = some (.int 1000000000000000000) := fun S => by rw [binI_pw (by decide) (by decide) (by decide)]; rfl
  by_cases q : (1000000000000000000 : Int) ≤ c
  · exact ⟨c, by omega, by simp [evSs, evS, ev, evs, evB, evO, evN_lst, evN_listOf, evN_cat, evI, Res.bind, Res.toS, SR.andThen, ofO, ofS, asgT, asgTs, List.getElem?_cons_zero, List.getElem?_cons_succ, List.set_cons_zero, List.set_cons_succ, Option.map_some, Option.map_none, Option.bind_some, Option.bind_none, List.length_cons, List.length_nil, if_true, if_false, SR.res, Bool.not_true, Bool.not_false, Bool.false_eq_true, wipeR, List.map_cons, List.map_nil, cmp_eqI, cmp_neI, cmpS_eq, cmpS_ne, cmpI_lt, cmpI_le, cmpI_gt, cmpI_ge, Bool.not_eq_true, decide_true, decide_false, c__law_spread, hN, List.replicate, b0, q]⟩
  · have b1 : ∀ S, binE S .md (.int c) (.int 1000000007) = some (.int (c.fmod 1000000007)) := fun S => binI_md (by decide)
    have r1 := fmod_rng (i := c) (j := 1000000007) (by decide)
    generalize c.fmod 1000000007 = c1 at b1 r1
    have b2 : ∀ S, binE S .md (.int c) (.int 65537) = some (.int (c.fmod 65537)) := fun S => binI_md (by decide)
    have r2 := fmod_rng (i := c) (j := 65537) (by decide)
    generalize c.fmod 65537 = c2 at b2 r2
    have b3 : ∀ S, binE S .mul (.int 2) (.int a) = some (.int (2 * a)) := fun S => binI_mul (by decide) (nb400 h0 (by omega))
    have b4 : ∀ S, binE S .mul (.int c1) (.int (2 * a + 69069)) = some (.int (c1 * (2 * a + 69069))) := fun S => binI_mul (nb400 r1.1 (by omega)) (nb400 (by omega) (by omega))
    have b5 : ∀ S, binE S .mul (.int a) (.int 40503) = some (.int (a * 40503)) := fun S => binI_mul (nb400 h0 (by omega)) (by decide)
    have r4 : 0 ≤ c1 * (2 * a + 69069) ∧ c1 * (2 * a + 69069) ≤ 1000000007 * 2069069 := ⟨Int.mul_nonneg r1.1 (by omega), Int.mul_le_mul (by omega) (by omega) (by omega) (by decide)⟩
    generalize c1 * (2 * a + 69069) = x4 at b4 r4
    have b6 : ∀ S, binE S .pw (.int (x4 + a * 40503 + 977)) (.int 3) = some (.int ((x4 + a * 40503 + 977) ^ 3)) := fun S => binI_pw (by decide) (by decide) (by omega)
    generalize (x4 + a * 40503 + 977) ^ 3 = x6 at b6
    have m1 : ∀ S, binE S .md (.int a) (.int 13) = some (.int (a.fmod 13)) := fun S => binI_md (by decide)
    obtain ⟨p1, pp1, pl1, pe1⟩ := prime_at (S := S) a
    have b7 : ∀ S, binE S .md (.int x6) (.int p1) = some (.int (x6.fmod p1)) := fun S => binI_md (by omega)
    have r7 := fmod_rng (i := x6) (j := p1) pp1
    generalize x6.fmod p1 = o1 at b7 r7
    have b8 : ∀ S, binE S .mul (.int o1) (.int (a + 3)) = some (.int (o1 * (a + 3))) := fun S => binI_mul (nb400 r7.1 (by omega)) (nb400 (by omega) (by omega))
    have r8 : 0 ≤ o1 * (a + 3) ∧ o1 * (a + 3) ≤ 2147483648 * 1000003 := ⟨Int.mul_nonneg r7.1 (by omega), Int.mul_le_mul (by omega) (by omega) (by omega) (by decide)⟩
    generalize o1 * (a + 3) = x8 at b8 r8
    have b9 : ∀ S, binE S .pw (.int (x8 + c2 + 5)) (.int 5) = some (.int ((x8 + c2 + 5) ^ 5)) := fun S => binI_pw (by decide) (by decide) (by omega)
    generalize (x8 + c2 + 5) ^ 5 = x9 at b9
    have m2 : ∀ S, binE S .md (.int (a + 5)) (.int 13) = some (.int ((a + 5).fmod 13)) := fun S => binI_md (by decide)
    obtain ⟨p2, pp2, pl2, pe2⟩ := prime_at (S := S) (a + 5)
    have b10 : ∀ S, binE S .md (.int x9) (.int p2) = some (.int (x9.fmod p2)) := fun S => binI_md (by omega)
    have r10 := fmod_rng (i := x9) (j := p2) pp2
    generalize x9.fmod p2 = o2 at b10 r10
    have b11 : ∀ S, binE S .md (.int o1) (.int 1009) = some (.int (o1.fmod 1009)) := fun S => binI_md (by decide)
    have r11 := fmod_rng (i := o1) (j := 1009) (by decide)
    generalize o1.fmod 1009 = x11 at b11 r11
    have b12 : ∀ S, binE S .pw (.int (o2 + x11 + a)) (.int 3) = some (.int ((o2 + x11 + a) ^ 3)) := fun S => binI_pw (by decide) (by decide) (by omega)
    generalize (o2 + x11 + a) ^ 3 = x12 at b12
    have m3 : ∀ S, binE S .md (.int (a + 7)) (.int 13) = some (.int ((a + 7).fmod 13)) := fun S => binI_md (by decide)
    obtain ⟨p3, pp3, pl3, pe3⟩ := prime_at (S := S) (a + 7)
    have b13 : ∀ S, binE S .md (.int x12) (.int p3) = some (.int (x12.fmod p3)) := fun S => binI_md (by omega)
    have r13 := fmod_rng (i := x12) (j := p3) pp3
    generalize x12.fmod p3 = o3 at b13 r13
    have b14 : ∀ S, binE S .mul (.int o1) (.int 2147483647) = some (.int (o1 * 2147483647)) := fun S => binI_mul (nb400 r7.1 (by omega)) (by decide)
    have b15 : ∀ S, binE S .mul (.int (o1 * 2147483647 + o2)) (.int 2147483647) = some (.int ((o1 * 2147483647 + o2) * 2147483647)) := fun S => binI_mul (nb400 (by omega) (by omega)) (by decide)
    have ad : ∀ S, binE S .add (.tl (primes1.map U.int)) (.tl (primes2.map U.int)) = some (.tl (primes.map U.int)) := fun S => by
      show (if (primes1.map U.int).length + (primes2.map U.int).length ≤ sizeLine then some (U.tl (primes1.map U.int ++ primes2.map U.int)) else none) = _
      rw [if_pos (by decide +kernel)]; rfl
    simp only [primes, primes1, primes2, List.map_cons, List.map_nil] at pe1 pe2 pe3 ad
    refine ⟨(o1 * 2147483647 + o2) * 2147483647 + o3, by omega, ?_⟩
    simp [evSs, evS, ev, evs, evB, evO, evN_lst, evN_listOf, evN_cat, evI, Res.bind, Res.toS, SR.andThen, ofO, ofS, asgT, asgTs, List.getElem?_cons_zero, List.getElem?_cons_succ, List.set_cons_zero, List.set_cons_succ, Option.map_some, Option.map_none, Option.bind_some, Option.bind_none, List.length_cons, List.length_nil, if_true, if_false, SR.res, Bool.not_true, Bool.not_false, Bool.false_eq_true, wipeR, List.map_cons, List.map_nil, cmp_eqI, cmp_neI, cmpS_eq, cmpS_ne, cmpI_lt, cmpI_le, cmpI_gt, cmpI_ge, Bool.not_eq_true, decide_true, decide_false, c__law_spread, hN, List.replicate, b0, q, ad, sizeLine, b1, b2, b3, b4, b5, b6, m1, pe1, b7, b8, b9, m2, pe2, b10, b11, b12, m3, pe3, b13, b14, b15, binI_add]
end K

set_option Elab.async false
set_option linter.all false
set_option maxRecDepth 100000
set_option maxHeartbeats 1600000
set_option exponentiation.threshold 500
namespace K
open PySem PySem.Spec PyProof.Rows L2 Z
/-- the pen: a thing of the store, its cells another -/
def PenAt (S : Sto) (p c : Nat) (cells : List Int) (at_ held : Int) : Prop := S[p]? = some (.lst [.obj c, .int at_, .int held]) ∧ S[c]? = some (.lst (cells.map U.int)) ∧ p ≠ c
def Pen (S : Sto) (p c : Nat) (B : Int) : Prop := ∃ cells a h, PenAt S p c cells a h ∧ 0 ≤ a ∧ a ≤ B ∧ 0 ≤ h
/-- what stood stands, but the pen -/
def Kp (p : Nat) (S S' : Sto) : Prop := S.length ≤ S'.length ∧ ∀ i, i < S.length → i ≠ p → S'[i]? = S[i]?
theorem Kp.refl {p : Nat} {S : Sto} : Kp p S S := ⟨Nat.le_refl _, fun _ _ _ => rfl⟩
theorem Kp.trans {p : Nat} {S S1 S2 : Sto} (h : Kp p S S1) (h' : Kp p S1 S2) : Kp p S S2 := ⟨Nat.le_trans h.1 h'.1, fun i hi hp => by rw [h'.2 i (Nat.lt_of_lt_of_le hi h.1) hp, h.2 i hi hp]⟩
theorem Pen.lt {S : Sto} {p c : Nat} {B : Int} (h : Pen S p c B) : p < S.length ∧ c < S.length := by
  obtain ⟨_, _, _, ⟨h1, h2, _⟩, _⟩ := h
  exact ⟨(List.getElem?_eq_some_iff.mp h1).1, (List.getElem?_eq_some_iff.mp h2).1⟩
theorem Pen.mono {S : Sto} {p c : Nat} {B B' : Int} (h : Pen S p c B) (hb : B ≤ B') : Pen S p c B' := by
  obtain ⟨cells, a, h1, h2, h3, h4, h5⟩ := h
  exact ⟨cells, a, h1, h2, h3, by omega, h5⟩
theorem PenAt.set {S : Sto} {p c : Nat} {cells : List Int} {a h a' h' : Int} (x : PenAt S p c cells a h) : PenAt (S.set p (.lst [.obj c, .int a', .int h'])) p c cells a' h' := by
  obtain ⟨h1, h2, h3⟩ := x
  have hp := (List.getElem?_eq_some_iff.mp h1).1
  exact ⟨List.getElem?_set_self hp, by rw [List.getElem?_set_ne h3]; exact h2, h3⟩
theorem Kp.set {p : Nat} {S : Sto} {o : SO} : Kp p S (S.set p o) := ⟨by simp, fun i hi hp => List.getElem?_set_ne (Ne.symm hp)⟩
theorem Pen.keep {S S' : Sto} {p c q : Nat} {B : Int} (x : Pen S p c B) (k : Kp q S S') (hp : p ≠ q) (hc : c ≠ q) : Pen S' p c B := by
  have l := x.lt
  obtain ⟨cells, a, h, ⟨h1, h2, h3⟩, h4⟩ := x
  exact ⟨cells, a, h, ⟨by rw [k.2 p l.1 hp]; exact h1, by rw [k.2 c l.2 hc]; exact h2, h3⟩, h4⟩
theorem ix0 {a b c : U} : L2.atI [a, b, c] 0 = some a := rfl
theorem ix1 {a b c : U} : L2.atI [a, b, c] 1 = some b := rfl
theorem ix2 {a b c : U} : L2.atI [a, b, c] 2 = some c := rfl
theorem nx1 : L2.ixN 3 1 = some 1 := rfl
theorem nx2 : L2.ixN 3 2 = some 2 := rfl
section
variable {S : Sto} {p c : Nat} {cells : List Int} {a h : Int}
theorem PenAt.i0 (x : PenAt S p c cells a h) : idxE S (.obj p) (.int 0) = some (.obj c) := by simp only [idxE, seqOf, lstOf, x.1, ix0]
theorem PenAt.i1 (x : PenAt S p c cells a h) : idxE S (.obj p) (.int 1) = some (.int a) := by simp only [idxE, seqOf, lstOf, x.1, ix1]
theorem PenAt.i2 (x : PenAt S p c cells a h) : idxE S (.obj p) (.int 2) = some (.int h) := by simp only [idxE, seqOf, lstOf, x.1, ix2]
theorem PenAt.len (x : PenAt S p c cells a h) : biE S .len [.obj c] = some (.int cells.length) := by simp only [biE, seqOf, lstOf, x.2.1, Option.map_some, List.length_map]
theorem PenAt.cell (x : PenAt S p c cells a h) {i : Int} (h0 : 0 ≤ i) (h1 : i < cells.length) : ∃ v, idxE S (.obj c) (.int i) = some (.int v) := by
  obtain ⟨v, _, h2⟩ := atI_int (ns := cells) h0 h1
  exact ⟨v, by simp only [idxE, seqOf, lstOf, x.2.1, h2]⟩
end
def takeTail : CSs := .cons (.asg (.name 4) (.bin .md (.idx (.var 0) (.int 2)) (.var 1))) (.cons (.setI (.var 0) (.int 2) (.bin .fd (.idx (.var 0) (.int 2)) (.var 1))) (.cons (.ret (.var 4)) .nil))
def takeCell : CS := .ite (.cmp .lt (.var 2) (.bi .len (.cons (.idx (.var 0) (.int 0)) .nil)))
        (.cons (.asg (.name 3) (.idx (.idx (.var 0) (.int 0)) (.var 2))) .nil)
        (.cons (.ite (.cmp .gt (.bi .len (.cons (.idx (.var 0) (.int 0)) .nil)) (.int 0))
          (.cons (.asg (.name 3) (.bin .md (.idx (.idx (.var 0) (.int 0)) (.bin .md (.bin .add (.bin .mul (.var 2) (.int 5)) (.int 3)) (.bi .len (.cons (.idx (.var 0) (.int 0)) .nil)))) (.bin .add (.bin .pw (.int 10) (.int 17)) (.var 2)))) .nil) .nil) .nil)
def takeRest : CSs := .cons (.setI (.var 0) (.int 1) (.bin .add (.var 2) (.int 1))) (.cons (.setI (.var 0) (.int 2) (.call "_law_spread" (.cons (.var 3) (.cons (.var 2) .nil)))) .nil)
def takeFill : CSs := .cons (.asg (.name 2) (.idx (.var 0) (.int 1))) (.cons (.asg (.name 3) (.int 0)) (.cons takeCell takeRest))
theorem take_eq : c__law_take = .cons (.ite (.cmp .lt (.idx (.var 0) (.int 2)) (.var 1)) takeFill .nil) takeTail := rfl
section
variable {S : Sto} {p c : Nat} {cells : List Int} {a h m B : Int}
theorem e_takeTail {r1 r2 : Option U} (hm : 1 ≤ m) (hm2 : m.natAbs < 2 ^ 400) (x : PenAt S p c cells a h) (ha : 0 ≤ a) (hb : a ≤ B + 1) (hh : 0 ≤ h) :
    ∃ v S', evSs T21 FU takeTail [some (.obj p), some (.int m), r1, r2, none] S = .rt (.int v) S' ∧ 0 ≤ v ∧ v < m ∧ Pen S' p c (B + 1) ∧ Kp p S S' ∧ S'.length = S.length := by
  have r := fmod_rng (i := h) (j := m) (by omega)
  refine ⟨h.fmod m, S.set p (.lst [.obj c, .int a, .int (h / m)]), ?_, r.1, r.2, ⟨cells, a, h / m, x.set, ha, hb, Int.ediv_nonneg hh (by omega)⟩, Kp.set, by simp⟩
  have hm0 : m ≠ 0 := by omega
  simp [evSs, evS, ev, evs, evB, evO, evN_lst, evN_listOf, evN_cat, evI, Res.bind, Res.toS, SR.andThen, ofO, ofS, asgT, asgTs, List.getElem?_cons_zero, List.getElem?_cons_succ, List.set_cons_zero, List.set_cons_succ, Option.map_some, Option.map_none, Option.bind_some, Option.bind_none, List.length_cons, List.length_nil, if_true, if_false, SR.res, Bool.not_true, Bool.not_false, Bool.false_eq_true, wipeR, List.map_cons, List.map_nil, cmp_eqI, cmp_neI, cmpS_eq, cmpS_ne, cmpI_lt, cmpI_le, cmpI_gt, cmpI_ge, Bool.not_eq_true, decide_true, decide_false, takeTail, x.i2, binI_md hm0, binI_fd (show 0 < m by omega) hm2, x.1, nx2]
theorem e_takeCell (x : PenAt S p c cells a h) (ha : 0 ≤ a) (hb : a ≤ 1000000) : ∃ cl : Int, evS T21 FU takeCell [some (.obj p), some (.int m), some (.int a), some (.int 0), none] S = .nx [some (.obj p), some (.int m), some (.int a), some (.int cl), none] S := by
  have pw : ∀ S, binE S .pw (.int 10) (.int 17) = some (.int 100000000000000000) := fun S => by rw [binI_pw (by decide) (by decide) (by decide)]; rfl
  by_cases q1 : a < cells.length
  · obtain ⟨v, hv⟩ := x.cell ha q1
    exact ⟨v, by simp [evSs, evS, ev, evs, evB, evO, evN_lst, evN_listOf, evN_cat, evI, Res.bind, Res.toS, SR.andThen, ofO, ofS, asgT, asgTs, List.getElem?_cons_zero, List.getElem?_cons_succ, List.set_cons_zero, List.set_cons_succ, Option.map_some, Option.map_none, Option.bind_some, Option.bind_none, List.length_cons, List.length_nil, if_true, if_false, SR.res, Bool.not_true, Bool.not_false, Bool.false_eq_true, wipeR, List.map_cons, List.map_nil, cmp_eqI, cmp_neI, cmpS_eq, cmpS_ne, cmpI_lt, cmpI_le, cmpI_gt, cmpI_ge, Bool.not_eq_true, decide_true, decide_false, takeCell, x.i0, x.len, q1, hv]⟩
  · by_cases q2 : 0 < cells.length
    · have r := fmod_rng (i := a * 5 + 3) (j := cells.length) (by omega)
      obtain ⟨v, hv⟩ := x.cell r.1 r.2
      have hc0 : (cells.length : Int) ≠ 0 := by omega
      have ha0 : (100000000000000000 + a) ≠ 0 := by omega
      refine ⟨v.fmod (100000000000000000 + a), ?_⟩
      have mu : ∀ S, binE S .mul (.int a) (.int 5) = some (.int (a * 5)) := fun S => binI_mul (nb400 ha (by omega)) (by decide)
      simp [evSs, evS, ev, evs, evB, evO, evN_lst, evN_listOf, evN_cat, evI, Res.bind, Res.toS, SR.andThen, ofO, ofS, asgT, asgTs, List.getElem?_cons_zero, List.getElem?_cons_succ, List.set_cons_zero, List.set_cons_succ, Option.map_some, Option.map_none, Option.bind_some, Option.bind_none, List.length_cons, List.length_nil, if_true, if_false, SR.res, Bool.not_true, Bool.not_false, Bool.false_eq_true, wipeR, List.map_cons, List.map_nil, cmp_eqI, cmp_neI, cmpS_eq, cmpS_ne, cmpI_lt, cmpI_le, cmpI_gt, cmpI_ge, Bool.not_eq_true, decide_true, decide_false, takeCell, x.i0, x.len, q1, q2, mu, binI_add, binI_md hc0, hv, pw, binI_md ha0]
    · exact ⟨0, by simp [evSs, evS, ev, evs, evB, evO, evN_lst, evN_listOf, evN_cat, evI, Res.bind, Res.toS, SR.andThen, ofO, ofS, asgT, asgTs, List.getElem?_cons_zero, List.getElem?_cons_succ, List.set_cons_zero, List.set_cons_succ, Option.map_some, Option.map_none, Option.bind_some, Option.bind_none, List.length_cons, List.length_nil, if_true, if_false, SR.res, Bool.not_true, Bool.not_false, Bool.false_eq_true, wipeR, List.map_cons, List.map_nil, cmp_eqI, cmp_neI, cmpS_eq, cmpS_ne, cmpI_lt, cmpI_le, cmpI_gt, cmpI_ge, Bool.not_eq_true, decide_true, decide_false, takeCell, x.i0, x.len, q1, q2]⟩
theorem e_takeFill (x : PenAt S p c cells a h) (ha : 0 ≤ a) (hb : a ≤ 1000000) : ∃ cl w : Int, 0 ≤ w ∧ evSs T21 FU takeFill [some (.obj p), some (.int m), none, none, none] S = .nx [some (.obj p), some (.int m), some (.int a), some (.int cl), none] (S.set p (.lst [.obj c, .int (a + 1), .int w])) := by
  obtain ⟨cl, hcl⟩ := e_takeCell (m := m) x ha hb
  obtain ⟨w, hw0, hw⟩ := e_spread (c := cl) (a := a) (S := S.set p (.lst [.obj c, .int (a + 1), .int h])) ha hb
  refine ⟨cl, w, hw0, ?_⟩
  have x1 : PenAt (S.set p (.lst [.obj c, .int (a + 1), .int h])) p c cells (a + 1) h := x.set
  have rest : evSs T21 FU takeRest [some (.obj p), some (.int m), some (.int a), some (.int cl), none] S = .nx [some (.obj p), some (.int m), some (.int a), some (.int cl), none] (S.set p (.lst [.obj c, .int (a + 1), .int w])) := by
    simp [evSs, evS, ev, evs, evB, evO, evN_lst, evN_listOf, evN_cat, evI, Res.bind, Res.toS, SR.andThen, ofO, ofS, asgT, asgTs, List.getElem?_cons_zero, List.getElem?_cons_succ, List.set_cons_zero, List.set_cons_succ, Option.map_some, Option.map_none, Option.bind_some, Option.bind_none, List.length_cons, List.length_nil, if_true, if_false, SR.res, Bool.not_true, Bool.not_false, Bool.false_eq_true, wipeR, List.map_cons, List.map_nil, cmp_eqI, cmp_neI, cmpS_eq, cmpS_ne, cmpI_lt, cmpI_le, cmpI_gt, cmpI_ge, Bool.not_eq_true, decide_true, decide_false, takeRest, binI_add, x.1, nx1, nx2, d__law_take___law_spread, t__law_take___law_spread, hw, x1.1]
  unfold takeFill
  simp [evSs, evS, ev, x.i1, Res.toS, Res.bind, ofO, asgT, SR.andThen, hcl, rest]
end
theorem e_take {S : Sto} {p c : Nat} {B m : Int} (hp : Pen S p c B) (hB : B < 1000000) (hm : 1 ≤ m) (hm2 : m.natAbs < 2 ^ 400) :
    ∃ v S', f__law_take [.obj p, .int m] S = .ok (.int v) S' ∧ 0 ≤ v ∧ v < m ∧ Pen S' p c (B + 1) ∧ Kp p S S' ∧ S'.length = S.length := by
  obtain ⟨cells, a, h, x, ha, hb, hh⟩ := hp
  rw [b__law_take, r__law_take, take_eq]
  have hN : N__law_take.length - 2 = 3 := rfl
  rw [hN, evSs]
  by_cases q : h < m
  · obtain ⟨cl, w, hw, e1⟩ := e_takeFill (m := m) x ha (by omega)
    have x2 : PenAt (S.set p (.lst [.obj c, .int (a + 1), .int w])) p c cells (a + 1) w := x.set
    obtain ⟨v, S', h1, h2, h3, h4, h5, h6⟩ := e_takeTail (r1 := some (.int a)) (r2 := some (.int cl)) (B := B) hm hm2 x2 (by omega) (by omega) hw
    refine ⟨v, S', ?_, h2, h3, h4, Kp.set.trans h5, by rw [h6]; simp⟩
    simp [evS, ev, List.replicate, Res.bind, Res.toS, ofO, x.i2, cmpI_lt, q, e1, SR.andThen, h1, SR.res]
  · obtain ⟨v, S', h1, h2⟩ := e_takeTail (r1 := none) (r2 := none) (B := B) hm hm2 x ha (by omega) hh
    refine ⟨v, S', ?_, h2⟩
    simp [evS, evSs, ev, List.replicate, Res.bind, Res.toS, ofO, x.i2, cmpI_lt, q, SR.andThen, h1, SR.res]
end K

set_option Elab.async false
set_option linter.all false
set_option maxRecDepth 100000
set_option maxHeartbeats 1600000
set_option exponentiation.threshold 500
namespace K
open PySem PySem.Spec PyProof.Rows L2 Z
theorem e_anew {S : Sto} {p c : Nat} {B : Int} (hp : Pen S p c B) : ∃ S', f__law_anew [.obj p] S = .ok (.obj p) S' ∧ Pen S' p c B ∧ Kp p S S' ∧ S'.length = S.length := by
  obtain ⟨cells, a, h, x, ha, hb, hh⟩ := hp
  refine ⟨S.set p (.lst [.obj c, .int a, .int 0]), ?_, ⟨cells, a, 0, x.set, ha, hb, Int.le_refl 0⟩, Kp.set, by simp⟩
  rw [b__law_anew, r__law_anew]
  have hN : N__law_anew.length - 1 = 0 := rfl
  simp [evSs, evS, ev, evs, evB, evO, evN_lst, evN_listOf, evN_cat, evI, Res.bind, Res.toS, SR.andThen, ofO, ofS, asgT, asgTs, List.getElem?_cons_zero, List.getElem?_cons_succ, List.set_cons_zero, List.set_cons_succ, Option.map_some, Option.map_none, Option.bind_some, Option.bind_none, List.length_cons, List.length_nil, if_true, if_false, SR.res, Bool.not_true, Bool.not_false, Bool.false_eq_true, wipeR, List.map_cons, List.map_nil, cmp_eqI, cmp_neI, cmpS_eq, cmpS_ne, cmpI_lt, cmpI_le, cmpI_gt, cmpI_ge, Bool.not_eq_true, decide_true, decide_false, c__law_anew, hN, List.replicate, x.1, nx2]
theorem e_one {S : Sto} {p c : Nat} {B : Int} {us : List U} (hp : Pen S p c B) (hB : B < 1000000) (hne : us ≠ []) (hl : us.length ≤ 1000000) :
    ∃ v S', f__law_one [.obj p, .tl us] S = .ok v S' ∧ v ∈ us ∧ Pen S' p c (B + 1) ∧ Kp p S S' ∧ S'.length = S.length := by
  have h0 : 0 < us.length := List.length_pos_iff.mpr hne
  obtain ⟨v, S', h1, h2, h3, h4⟩ := e_take (m := us.length) hp hB (by omega) (Nat.lt_of_le_of_lt (by omega : _ ≤ 1000000) (by decide +kernel))
  obtain ⟨k, rfl⟩ := Int.eq_ofNat_of_zero_le h2
  have hk : k < us.length := by omega
  refine ⟨us[k], S', ?_, List.getElem_mem hk, h4⟩
  rw [b__law_one, r__law_one]
  have hN : N__law_one.length - 2 = 0 := rfl
  have at_ : L2.atI us (k : Int) = some us[k] := atI_nat (List.getElem?_eq_getElem hk)
  simp [evSs, evS, ev, evs, evB, evO, evN_lst, evN_listOf, evN_cat, evI, Res.bind, Res.toS, SR.andThen, ofO, ofS, asgT, asgTs, List.getElem?_cons_zero, List.getElem?_cons_succ, List.set_cons_zero, List.set_cons_succ, Option.map_some, Option.map_none, Option.bind_some, Option.bind_none, List.length_cons, List.length_nil, if_true, if_false, SR.res, Bool.not_true, Bool.not_false, Bool.false_eq_true, wipeR, List.map_cons, List.map_nil, cmp_eqI, cmp_neI, cmpS_eq, cmpS_ne, cmpI_lt, cmpI_le, cmpI_gt, cmpI_ge, Bool.not_eq_true, decide_true, decide_false, c__law_one, hN, List.replicate, biE, seqOf, lstOf, d__law_one___law_take, t__law_one___law_take, h1, idxE, at_]
/-! ### the pen's making -/
def cutI (ns : List Int) (lo hi : Option Int) : List Int := (ns.drop (HT.sIx ns.length 0 lo)).take (HT.sIx ns.length ns.length hi - HT.sIx ns.length 0 lo)
theorem cut_map {ns : List Int} {lo hi : Option Int} : cutU (ns.map U.int) lo hi = (cutI ns lo hi).map U.int := by
  unfold cutU cutI
  rw [List.length_map, List.map_take, List.map_drop]
theorem cut12 {ns : List Int} : (cutI ns none (some 12)).length = min 12 ns.length := by
  have h : ∀ n, HT.sIx n n (some 12) = min 12 n := fun n => HT.sIx_nat n n 12
  unfold cutI
  rw [HT.sIx_none, h]
  simp
theorem cut63 {ns : List Int} (h : 0 < (cutI ns (some 12) (some 63)).length) : 12 < ns.length := by
  have h1 : ∀ n d, HT.sIx n d (some 12) = min 12 n := fun n d => HT.sIx_nat n d 12
  have h2 : ∀ n, HT.sIx n n (some 63) = min 63 n := fun n => HT.sIx_nat n n 63
  unfold cutI at h
  rw [h1, h2] at h
  simp at h
  omega
theorem cut63le {ns : List Int} : (cutI ns (some 12) (some 63)).length ≤ 63 := by
  have h1 : ∀ n d, HT.sIx n d (some 12) = min 12 n := fun n d => HT.sIx_nat n d 12
  have h2 : ∀ n, HT.sIx n n (some 63) = min 63 n := fun n => HT.sIx_nat n n 63
  unfold cutI
  rw [h1, h2]
  simp
  omega
theorem app_at {S : Sto} {o : SO} : (S ++ [o])[S.length]? = some o := by simp
theorem app_set {S : Sto} {o o' : SO} : (S ++ [o]).set S.length o' = S ++ [o'] := by simp
theorem e_open {ns : List Int} {S : Sto} : ∃ S', f__law_open [.rl (ns.map U.int)] S = .ok (.obj (S.length + 1)) S' ∧ Pen S' (S.length + 1) S.length 0 ∧ S'.length = S.length + 2 ∧ ∀ i, i < S.length → S'[i]? = S[i]? := by
  rw [b__law_open, r__law_open]
  have hN : N__law_open.length - 1 = 3 := rfl
  obtain ⟨ρ', S1, h1, x, y, C, h2, h3, h4⟩ := forGo_all (src := .enum (.tl ((cutI ns (some 12) (some 63)).map U.int))) (t := .tup (.cons (.name 2) (.cons (.name 3) .nil))) (body := evSs T19 FU c__law_open_b1)
    (items := ((cutI ns (some 12) (some 63)).map U.int).mapIdx fun i x => .tup [.int i, x]) (fun i ρ S' => ∃ x y C, ρ = [some (.rl (ns.map U.int)), some (.obj S.length), x, y] ∧ S' = S ++ [.lst (List.map U.int C)] ∧ C.length = min 12 ns.length)
    (fun i ρ S' _ hi => Over.enum (I := fun _ => True) (fun _ _ => rfl) S' trivial i hi) (by
      intro i x ρ S' hx ⟨a, b, C, e1, e2, e3⟩
      subst e1 e2
      rw [List.getElem?_mapIdx, List.getElem?_map] at hx
      cases k : (cutI ns (some 12) (some 63))[i]? with
      | none => rw [k] at hx; cases hx
      | some v =>
        rw [k] at hx
        cases hx
        have hi := (List.getElem?_eq_some_iff.mp k).1
        have h12 := cut63 (ns := ns) (by omega)
        have hC : C.length = 12 := by omega
        refine ⟨_, rfl, ?_⟩
        have r := fmod_rng (i := (i : Int)) (j := 12) (by decide)
        obtain ⟨j, hj⟩ := Int.eq_ofNat_of_zero_le r.1
        have hj2 : j < C.length := by omega
        have at_ : L2.atI (C.map U.int) ((i : Int).fmod 12) = some (.int C[j]) := by
          rw [hj]; exact atI_nat (by rw [List.getElem?_map, List.getElem?_eq_getElem hj2]; rfl)
        have ix_ : L2.ixN C.length ((i : Int).fmod 12) = some j := by rw [hj]; unfold L2.ixN; rw [if_pos (by omega), if_pos (by omega)]; simp
        have md : ∀ S, binE S .md (.int (i : Int)) (.int 12) = some (.int ((i : Int).fmod 12)) := fun S => binI_md (by decide)
        refine ⟨[some (.rl (ns.map U.int)), some (.obj S.length), some (.int i), some (.int v)], S ++ [.lst (List.map U.int (C.set j (C[j] + v)))], ?_, _, _, C.set j (C[j] + v), rfl, rfl, by simpa using e3⟩
        simp [evSs, evS, ev, evs, evB, evO, evN_lst, evN_listOf, evN_cat, evI, Res.bind, Res.toS, SR.andThen, ofO, ofS, asgT, asgTs, List.getElem?_cons_zero, List.getElem?_cons_succ, List.set_cons_zero, List.set_cons_succ, Option.map_some, Option.map_none, Option.bind_some, Option.bind_none, List.length_cons, List.length_nil, if_true, if_false, SR.res, Bool.not_true, Bool.not_false, Bool.false_eq_true, wipeR, List.map_cons, List.map_nil, cmp_eqI, cmp_neI, cmpS_eq, cmpS_ne, cmpI_lt, cmpI_le, cmpI_gt, cmpI_ge, Bool.not_eq_true, decide_true, decide_false, c__law_open_b1, md, idxE, seqOf, lstOf, at_, ix_, binI_add]) (n := (cutI ns (some 12) (some 63)).length) (ρ := [some (.rl (ns.map U.int)), some (.obj S.length), none, none])
      (S := S ++ [.lst (List.map U.int (cutI ns none (some 12)))]) (by simp) ⟨_, _, _, rfl, rfl, cut12⟩
  subst h2 h3
  refine ⟨S ++ [.lst (List.map U.int C)] ++ [.lst [.obj S.length, .int 0, .int 0]], ?_, ⟨C, 0, 0, ⟨by simp, by simp, by omega⟩, by omega, by omega, by omega⟩, by simp, fun i hi => by rw [List.append_assoc, List.getElem?_append_left hi]⟩
  have hlen : ∀ S, Src.len S (.enum (.tl ((cutI ns (some 12) (some 63)).map U.int))) = (cutI ns (some 12) (some 63)).length := fun S => by simp [Src.len, seqOf, lstOf]
  have h0 : ([] : List U).length + 1 + 1 + 1 ≤ sizeLine := by decide +kernel
  simp [evSs, evS, ev, evs, evB, evO, evN_lst, evN_listOf, evN_cat, evI, Res.bind, Res.toS, SR.andThen, ofO, ofS, asgT, asgTs, List.getElem?_cons_zero, List.getElem?_cons_succ, List.set_cons_zero, List.set_cons_succ, Option.map_some, Option.map_none, Option.bind_some, Option.bind_none, List.length_cons, List.length_nil, if_true, if_false, SR.res, Bool.not_true, Bool.not_false, Bool.false_eq_true, wipeR, List.map_cons, List.map_nil, cmp_eqI, cmp_neI, cmpS_eq, cmpS_ne, cmpI_lt, cmpI_le, cmpI_gt, cmpI_ge, Bool.not_eq_true, decide_true, decide_false, c__law_open, hN, List.replicate, slE, lstOf, seqOf, cut_map, hlen, h1, h0, sizeLine]
end K

set_option Elab.async false
set_option linter.all false
set_option maxRecDepth 100000
set_option maxHeartbeats 1600000
set_option exponentiation.threshold 500
namespace K
open PySem PySem.Spec PyProof.Rows L2 Z
/-! ### tables by a function -/
theorem then_nx {ρ : Rho} {S : Sto} {k : Rho → Sto → SR} : (SR.nx ρ S).andThen k = k ρ S := rfl
theorem then_rt {u : U} {S : Sto} {k : Rho → Sto → SR} : (SR.rt u S).andThen k = .rt u S := rfl
theorem then_ex {x : Xn} {ρ : Rho} {S : Sto} {k : Rho → Sto → SR} : (SR.ex x ρ S).andThen k = .ex x ρ S := rfl
abbrev rng (n : Nat) : List Nat := List.range n
def rw_ (n : Nat) (f : Nat → Int) : List Int := (List.range n).map f
def mat (n : Nat) (w : Nat → Nat → Int) : List (List Int) := (List.range n).map fun i => rw_ n (w i)
theorem mapIdx_rng {α β : Type} (f : Nat → α) (g : Nat → α → β) (n : Nat) : ((List.range n).map f).mapIdx g = (List.range n).map fun i => g i (f i) := by
  apply List.ext_getElem?
  intro i
  by_cases h : i < n
  · rw [List.getElem?_mapIdx, List.getElem?_map, List.getElem?_map, List.getElem?_range h]; rfl
  · rw [List.getElem?_eq_none (by simp; omega), List.getElem?_eq_none (by simp; omega)]
theorem zipW_rng {α β γ : Type} (f : Nat → α) (g : Nat → β) (k : α → β → γ) (n : Nat) : List.zipWith k ((List.range n).map f) ((List.range n).map g) = (List.range n).map fun i => k (f i) (g i) := by
  apply List.ext_getElem?
  intro i
  by_cases h : i < n
  · simp only [List.getElem?_zipWith, List.getElem?_map, List.getElem?_range h, Option.map_some]
  · rw [List.getElem?_eq_none (by simp; omega), List.getElem?_eq_none (by simp; omega)]
theorem rng_at {α : Type} {f : Nat → α} {n i : Nat} (h : i < n) : ((List.range n).map f)[i]? = some (f i) := by rw [List.getElem?_map, List.getElem?_range h]; rfl
theorem rng_congr {α : Type} {f g : Nat → α} {n : Nat} (h : ∀ i, i < n → f i = g i) : (List.range n).map f = (List.range n).map g := List.map_congr_left fun i hi => h i (List.mem_range.mp hi)
theorem rng_set {α : Type} {f : Nat → α} {n i : Nat} {x : α} (h : i < n) : ((List.range n).map f).set i x = (List.range n).map fun k => if k = i then x else f k := by
  apply List.ext_getElem?
  intro k
  by_cases hk : k < n
  · by_cases q : i = k
    · subst q; rw [List.getElem?_set_self (by simpa using h), rng_at h]; simp
    · rw [List.getElem?_set_ne q, rng_at hk, rng_at hk, if_neg (Ne.symm q)]
  · rw [List.getElem?_eq_none (by simp; omega), List.getElem?_eq_none (by simp; omega)]
theorem mat_congr {n : Nat} {w v : Nat → Nat → Int} (h : ∀ a b, a < n → b < n → w a b = v a b) : mat n w = mat n v := rng_congr fun i hi => rng_congr fun j hj => h i j hi hj
theorem rw_len {n : Nat} {f : Nat → Int} : (rw_ n f).length = n := by simp [rw_]
theorem mat_len {n : Nat} {w : Nat → Nat → Int} : (mat n w).length = n := by simp [mat]
theorem rowU_rw {n : Nat} {f : Nat → Int} : rowU (rw_ n f) = .tup ((List.range n).map fun k => .int (f k)) := by simp only [rowU, rw_, List.map_map]; rfl
theorem webU_mat {n : Nat} {w : Nat → Nat → Int} : webU (mat n w) = .tup ((List.range n).map fun i => rowU (rw_ n (w i))) := by simp only [webU, mat, List.map_map]; rfl
/-- a list of lists is one by a function -/
theorem mat_of {n : Nat} {W : List (List Int)} (hl : W.length = n) (hr : ∀ r, r ∈ W → r.length = n) : W = mat n fun i k => (W.getD i []).getD k 0 := by
  subst hl
  apply List.ext_getElem?
  intro i
  by_cases h : i < W.length
  · rw [mat, rng_at h, List.getElem?_eq_getElem h]
    congr 1
    have hl := hr _ (List.getElem_mem h)
    apply List.ext_getElem?
    intro k
    by_cases hk : k < W.length
    · rw [rw_, rng_at hk, List.getD_eq_getElem?_getD, List.getD_eq_getElem?_getD, List.getElem?_eq_getElem h, Option.getD_some, List.getElem?_eq_getElem (by omega)]; rfl
    · rw [List.getElem?_eq_none (by omega), List.getElem?_eq_none (by simp [rw_]; omega)]
  · rw [List.getElem?_eq_none (by omega), List.getElem?_eq_none (by simp [mat]; omega)]
structure MOk (n : Nat) (w : Nat → Nat → Int) : Prop where
  pos : 1 ≤ n
  le : n ≤ 8
  nn : ∀ a b, a < n → b < n → 0 ≤ w a b
theorem MOk.web {n : Nat} {w : Nat → Nat → Int} (h : MOk n w) : WebOk (mat n w) := by
  refine ⟨by rw [mat_len]; exact h.pos, by rw [mat_len]; exact h.le, fun r hr => ?_, fun r hr i hi => ?_⟩
  · obtain ⟨a, ha, rfl⟩ := List.mem_map.mp hr
    rw [rw_len, mat_len]
  · obtain ⟨a, ha, rfl⟩ := List.mem_map.mp hr
    obtain ⟨b, hb, rfl⟩ := List.mem_map.mp hi
    exact h.nn a b (List.mem_range.mp ha) (List.mem_range.mp hb)
/-! ### reading -/
theorem idx_row {S : Sto} {n i : Nat} {w : Nat → Nat → Int} (h : i < n) : idxE S (webU (mat n w)) (.int i) = some (rowU (rw_ n (w i))) := by
  rw [webU_mat]
  simp only [idxE, seqOf]
  exact atI_nat (rng_at h)
theorem idx_num {S : Sto} {n k : Nat} {f : Nat → Int} (h : k < n) : idxE S (rowU (rw_ n f)) (.int k) = some (.int (f k)) := by
  rw [rowU_rw]
  simp only [idxE, seqOf]
  exact atI_nat (rng_at h)
theorem len_mat {S : Sto} {n : Nat} {w : Nat → Nat → Int} : biE S .len [webU (mat n w)] = some (.int n) := by rw [webU_mat]; simp [biE, seqOf]
theorem len_rowU {S : Sto} {n : Nat} {f : Nat → Int} : biE S .len [rowU (rw_ n f)] = some (.int n) := by rw [rowU_rw]; simp [biE, seqOf]
theorem bi_tuple_tl {S : Sto} {us : List U} : biE S .tuple [.tl us] = some (.tup us) := id rfl
theorem bi_tuple_tup {S : Sto} {us : List U} : biE S .tuple [.tup us] = some (.tup us) := id rfl
theorem bi_int_bl {S : Sto} {b : Bool} : biE S .int [.bl b] = some (.int (if b then 1 else 0)) := id rfl
theorem bi_tuple_obj {S : Sto} {k : Nat} {us : List U} (h : S[k]? = some (.lst us)) : biE S .tuple [.obj k] = some (.tup us) := by simp only [biE, seqOf, lstOf, h, Option.map_some]
theorem bi_len_tl {S : Sto} {us : List U} : biE S .len [.tl us] = some (.int us.length) := id rfl
theorem bi_len_tup {S : Sto} {us : List U} : biE S .len [.tup us] = some (.int us.length) := id rfl
theorem bi_len_obj {S : Sto} {k : Nat} {us : List U} (h : S[k]? = some (.lst us)) : biE S .len [.obj k] = some (.int us.length) := by simp only [biE, seqOf, lstOf, h, Option.map_some]
/-! ### comprehensions over a range of places -/
section
variable {T : Th}
theorem evN_rng {tg : CT} {it : CI} {elt : CE} {own : List (Str × Nat)} {ρ : Rho} {S S1 : Sto} {src : Src} {n : Nat} (F G : Nat → U) (h1 : evI T it ρ S = .ok src S1) (ov : Over src (· = S1) ((List.range n).map F)) (hl : src.len S1 = n) (hz : n ≤ 10000)
    (step : ∀ i, i < n → ∃ ρ', asgT tg (F i) (wipeR ρ (own.map (·.2))) = some ρ' ∧ ev T elt ρ' S1 = .ok (G i) S1) : evN T (.lc tg it .nil elt own) ρ S = .ok ((List.range n).map G) S1 := by
  simp only [evN, h1, Res.bind]
  refine lcGo_map ov (fun i x hx => ?_) (by simp) (sz_of (by simpa using hz)) _ (by rw [hl]; simp)
  have hi : i < n := by
    have := (List.getElem?_eq_some_iff.mp hx).1
    simpa using this
  rw [rng_at hi] at hx
  cases hx
  refine ⟨G i, rng_at hi, ?_⟩
  obtain ⟨ρ', h2, h3⟩ := step i hi
  simp only [h2, h3]
theorem over_tupR {n : Nat} {F : Nat → U} {I : Sto → Prop} : Over (.seq (.tup ((List.range n).map F))) I ((List.range n).map F) := Over.tup
theorem over_enumR {n : Nat} {F : Nat → U} {I : Sto → Prop} : Over (.enum (.tup ((List.range n).map F))) I ((List.range n).map fun (i : Nat) => U.tup [.int (i : Int), F i]) := by
  rw [← mapIdx_rng (f := F) (g := fun (i : Nat) x => U.tup [.int (i : Int), x])]
  exact Over.enum fun S _ => rfl
theorem over_ezR {n : Nat} {F G : Nat → U} {I : Sto → Prop} : Over (.ez (.tup ((List.range n).map F)) (.tup ((List.range n).map G))) I ((List.range n).map fun (i : Nat) => U.tup [.int (i : Int), .tup [F i, G i]]) := by
  have := Over.ez (us := (List.range n).map F) (ws := (List.range n).map G) (I := I) (by simp)
  rw [zipW_rng, mapIdx_rng] at this
  exact this
theorem over_rngR {n : Nat} {I : Sto → Prop} : Over (.rng 0 n) I ((List.range n).map fun (i : Nat) => U.int (i : Int)) := by
  have := Over.rng (lo := 0) (n := n) (I := I)
  simpa using this
end
/-! ### tables in the store: a list of things, a thing for each row -/
def tabU (b n : Nat) : U := .tl ((List.range n).map fun i => .obj (b + i))
def tabO (n m : Nat) (w : Nat → Nat → Int) : Sto := (List.range n).map fun i => .lst ((List.range m).map fun k => .int (w i k))
theorem tabO_at {S : Sto} {n m i : Nat} {w : Nat → Nat → Int} (h : i < n) : (S ++ tabO n m w)[S.length + i]? = some (.lst ((List.range m).map fun k => .int (w i k))) := by
  rw [List.getElem?_append_right (by omega), show S.length + i - S.length = i by omega]
  exact rng_at h
theorem tabO_set {S : Sto} {n m i k : Nat} {w : Nat → Nat → Int} {v : Int} (h : i < n) (hk : k < m) :
    (S ++ tabO n m w).set (S.length + i) (.lst (((List.range m).map fun k => U.int (w i k)).set k (.int v))) = S ++ tabO n m fun a b => if a = i then (if b = k then v else w a b) else w a b := by
  rw [List.set_append_right _ _ (by omega), show S.length + i - S.length = i by omega]
  congr 1
  unfold tabO
  rw [rng_set h, rng_set hk]
  refine rng_congr fun a ha => ?_
  by_cases q : a = i
  · subst q
    simp only [if_true]
    congr 1
    refine rng_congr fun b hb => ?_
    by_cases q2 : b = k
    · simp [q2]
    · simp [q2]
  · simp only [if_neg q]
theorem tabO_len {n m : Nat} {w : Nat → Nat → Int} : (tabO n m w).length = n := by simp [tabO]
theorem idx_tab {S : Sto} {b n i : Nat} (h : i < n) : idxE S (tabU b n) (.int i) = some (.obj (b + i)) := by
  unfold tabU
  simp only [idxE, seqOf, lstOf]
  exact atI_nat (rng_at h)
theorem idx_cell {S : Sto} {n m i k : Nat} {w : Nat → Nat → Int} (h : i < n) (hk : k < m) : idxE (S ++ tabO n m w) (.obj (S.length + i)) (.int k) = some (.int (w i k)) := by
  simp only [idxE, seqOf, lstOf, tabO_at h]
  exact atI_nat (rng_at hk)
theorem len_tab {S : Sto} {b n : Nat} : biE S .len [tabU b n] = some (.int n) := by unfold tabU; simp [biE, seqOf, lstOf]
theorem ixN_rng {n k : Nat} (h : k < n) : L2.ixN n (k : Int) = some k := by
  unfold L2.ixN
  simp
  omega
theorem tabO_congr {n m : Nat} {w v : Nat → Nat → Int} (h : ∀ a b, a < n → b < m → w a b = v a b) : tabO n m w = tabO n m v := rng_congr fun i hi => by
  congr 1
  exact rng_congr fun k hk => by rw [h i k hi hk]
/-! ### statements, step by step -/
section
variable {T : Th} {F : Nat} {ρ : Rho} {S S1 S2 S3 : Sto}
theorem evS_for {t : CT} {it : CI} {b : CSs} {src : Src} (h : evI T it ρ S = .ok src S1) : evS T F (.for_ t it b) ρ S = forGo src t (evSs T F b) (src.len S1) 0 ρ S1 := by rw [evS, h]; rfl
theorem ev_iteT {t a b : CE} (h : ev T t ρ S = .ok (.bl true) S1) : ev T (.ite t a b) ρ S = ev T a ρ S1 := by rw [ev, h]; rfl
theorem ev_iteF {t a b : CE} (h : ev T t ρ S = .ok (.bl false) S1) : ev T (.ite t a b) ρ S = ev T b ρ S1 := by rw [ev, h]; rfl
theorem evS_iteT {t : CE} {a b : CSs} (h : ev T t ρ S = .ok (.bl true) S1) : evS T F (.ite t a b) ρ S = evSs T F a ρ S1 := by rw [evS, h]; rfl
theorem evS_iteF {t : CE} {a b : CSs} (h : ev T t ρ S = .ok (.bl false) S1) : evS T F (.ite t a b) ρ S = evSs T F b ρ S1 := by rw [evS, h]; rfl
theorem evS_ret {e : CE} {u : U} (h : ev T e ρ S = .ok u S1) : evS T F (.ret e) ρ S = .rt u S1 := by rw [evS, h]; rfl
theorem evS_expr {e : CE} {u : U} (h : ev T e ρ S = .ok u S1) : evS T F (.expr e) ρ S = .nx ρ S1 := by rw [evS, h]; rfl
theorem evS_asgN {i : Nat} {e : CE} {u : U} (h : ev T e ρ S = .ok u S1) : evS T F (.asg (.name i) e) ρ S = .nx (ρ.set i (some u)) S1 := by rw [evS, h]; rfl
theorem ev_callF {f : Str} {φ : List U → Sto → Res U} {as : CEs} {us : List U} (h : T.dom f = true) (e : T.fn f = φ) (h2 : evs T as ρ S = .ok us S1) : ev T (.call f as) ρ S = φ us S1 := by rw [ev_call h e, h2]; rfl
theorem evSs_cons {s : CS} {ss : CSs} {ρ' : Rho} (h : evS T F s ρ S = .nx ρ' S1) : evSs T F (.cons s ss) ρ S = evSs T F ss ρ' S1 := by rw [evSs, h]; rfl
theorem evSs_rt {s : CS} {ss : CSs} {u : U} (h : evS T F s ρ S = .rt u S1) : evSs T F (.cons s ss) ρ S = .rt u S1 := by rw [evSs, h]; rfl
theorem evSs_nil : evSs T F .nil ρ S = .nx ρ S := by rw [evSs]
theorem evS_ins {o i e : CE} {q n : Nat} {w : U} {us us0 : List U} (h1 : ev T o ρ S = .ok (.obj q) S1) (h0 : lstOf S1 (.obj q) = some us0) (h2 : ev T i ρ S1 = .ok (.int n) S2) (h3 : ev T e ρ S2 = .ok w S3) (h4 : S3[q]? = some (.lst us)) (hn : n ≤ 1000) (hl : us.length ≤ 1000) :
    evS T F (.ins o i e) ρ S = .nx ρ (S3.set q (.lst (us.take n ++ [w] ++ us.drop n))) := by
  have hz : (0 : Int) ≤ (n : Int) ∧ (n : Int) < 2 ^ 62 ∧ us.length < sizeLine := ⟨by omega, by omega, Nat.lt_of_lt_of_le (by omega : _ < 1001) (sz_of (by omega))⟩
  have hs : (lstOf S1 (.obj q)).isSome = true := by rw [h0]; rfl
  rw [evS, h1]
  simp only [Res.toS]
  rw [if_pos hs, h2]
  simp only [h3, h4]
  rw [if_pos hz, Int.toNat_natCast]
end
end K

set_option Elab.async false
set_option linter.all false
set_option maxRecDepth 100000
set_option maxHeartbeats 1600000
set_option exponentiation.threshold 500
namespace K
open PySem PySem.Spec PyProof.Rows L2 Z
theorem sz1 {n : Nat} (h : n ≤ 8) : n ≤ 10000 := by omega
def one_ (a b : Nat) : Int := if a = b then 1 else 0
theorem int_eqB {S : Sto} {a b : Nat} : biE S .int [.bl (decide ((a : Int) = b))] = some (.int (one_ a b)) := by
  simp only [biE, one_, Int.ofNat_inj]
  by_cases h : a = b <;> simp [h]
theorem e_lo_l1 {n i : Nat} {f : Nat → Int} {a x y : Option U} {S : Sto} (hn : n ≤ 8) : evN T3 c_less_ones_l1 [a, some (.int i), some (rowU (rw_ n f)), x, y] S = .ok ((List.range n).map fun k => .int (f k - one_ i k)) S := by
  refine evN_rng (src := .enum (rowU (rw_ n f))) (fun (k : Nat) => U.tup [.int (k : Int), .int (f k)]) _ ?_ (by rw [rowU_rw]; exact over_enumR) (by rw [rowU_rw]; simp [Src.len, seqOf]) (sz1 hn) fun k hk => ⟨[a, some (.int i), some (rowU (rw_ n f)), some (.int k), some (.int (f k))], rfl, ?_⟩
  · simp [evSs, evS, ev, evs, evB, evO, evN_lst, evN_listOf, evN_cat, evI, Res.bind, Res.toS, SR.andThen, ofO, ofS, asgT, asgTs, List.getElem?_cons_zero, List.getElem?_cons_succ, List.set_cons_zero, List.set_cons_succ, Option.map_some, Option.map_none, Option.bind_some, Option.bind_none, List.length_cons, List.length_nil, if_true, if_false, SR.res, Bool.not_true, Bool.not_false, Bool.false_eq_true, wipeR, List.map_cons, List.map_nil, cmp_eqI, cmp_neI, cmpS_eq, cmpS_ne, cmpI_lt, cmpI_le, cmpI_gt, cmpI_ge, Bool.not_eq_true, decide_true, decide_false, rowU, seqOf]
  · simp only [evSs, evS, ev, evs, evB, evO, evN_lst, evN_listOf, evN_cat, evI, Res.bind, Res.toS, SR.andThen, ofO, ofS, asgT, asgTs, List.getElem?_cons_zero, List.getElem?_cons_succ, List.set_cons_zero, List.set_cons_succ, Option.map_some, Option.map_none, Option.bind_some, Option.bind_none, List.length_cons, List.length_nil, if_true, if_false, SR.res, Bool.not_true, Bool.not_false, Bool.false_eq_true, wipeR, List.map_cons, List.map_nil, cmp_eqI, cmp_neI, cmpS_eq, cmpS_ne, cmpI_lt, cmpI_le, cmpI_gt, cmpI_ge, Bool.not_eq_true, decide_true, decide_false, int_eqB, binE]
theorem e_less_ones {n : Nat} {w : Nat → Nat → Int} {S : Sto} (hn : n ≤ 8) : f_less_ones [webU (mat n w)] S = .ok (webU (mat n fun a b => w a b - one_ a b)) S := by
  rw [b_less_ones, r_less_ones]
  have l2 : evN T3 c_less_ones_l2 [some (webU (mat n w)), none, none, none, none] S = .ok ((List.range n).map fun i => rowU (rw_ n fun k => w i k - one_ i k)) S := by
    refine evN_rng (src := .enum (webU (mat n w))) (fun (i : Nat) => U.tup [.int (i : Int), rowU (rw_ n (w i))]) _ ?_ (by rw [webU_mat]; exact over_enumR) (by rw [webU_mat]; simp [Src.len, seqOf]) (sz1 hn) fun i hi => ⟨[some (webU (mat n w)), some (.int i), some (rowU (rw_ n (w i))), none, none], rfl, ?_⟩
    · simp [evSs, evS, ev, evs, evB, evO, evN_lst, evN_listOf, evN_cat, evI, Res.bind, Res.toS, SR.andThen, ofO, ofS, asgT, asgTs, List.getElem?_cons_zero, List.getElem?_cons_succ, List.set_cons_zero, List.set_cons_succ, Option.map_some, Option.map_none, Option.bind_some, Option.bind_none, List.length_cons, List.length_nil, if_true, if_false, SR.res, Bool.not_true, Bool.not_false, Bool.false_eq_true, wipeR, List.map_cons, List.map_nil, cmp_eqI, cmp_neI, cmpS_eq, cmpS_ne, cmpI_lt, cmpI_le, cmpI_gt, cmpI_ge, Bool.not_eq_true, decide_true, decide_false, webU, seqOf]
    · simp only [evSs, evS, ev, evs, evB, evO, evN_lst, evN_listOf, evN_cat, evI, Res.bind, Res.toS, SR.andThen, ofO, ofS, asgT, asgTs, List.getElem?_cons_zero, List.getElem?_cons_succ, List.set_cons_zero, List.set_cons_succ, Option.map_some, Option.map_none, Option.bind_some, Option.bind_none, List.length_cons, List.length_nil, if_true, if_false, SR.res, Bool.not_true, Bool.not_false, Bool.false_eq_true, wipeR, List.map_cons, List.map_nil, cmp_eqI, cmp_neI, cmpS_eq, cmpS_ne, cmpI_lt, cmpI_le, cmpI_gt, cmpI_ge, Bool.not_eq_true, decide_true, decide_false, e_lo_l1 hn, bi_tuple_tl]
      rw [rowU_rw]
  have hN : N_less_ones.length - 1 = 4 := rfl
  rw [webU_mat (w := fun a b => w a b - one_ a b)]
  simp only [evSs, evS, ev, evs, evB, evO, evN_lst, evN_listOf, evN_cat, evI, Res.bind, Res.toS, SR.andThen, ofO, ofS, asgT, asgTs, List.getElem?_cons_zero, List.getElem?_cons_succ, List.set_cons_zero, List.set_cons_succ, Option.map_some, Option.map_none, Option.bind_some, Option.bind_none, List.length_cons, List.length_nil, if_true, if_false, SR.res, Bool.not_true, Bool.not_false, Bool.false_eq_true, wipeR, List.map_cons, List.map_nil, cmp_eqI, cmp_neI, cmpS_eq, cmpS_ne, cmpI_lt, cmpI_le, cmpI_gt, cmpI_ge, Bool.not_eq_true, decide_true, decide_false, c_less_ones, hN, List.replicate, List.cons_append, List.nil_append, l2, bi_tuple_tl]
/-! ### full -/
def fullB (n : Nat) (w : Nat → Nat → Int) : Bool := (List.range n).all fun a => (List.range n).all fun b => decide (1 ≤ w a b - one_ a b)
theorem fullB_iff {n : Nat} {w : Nat → Nat → Int} : fullB n w = true ↔ ∀ a b, a < n → b < n → 1 ≤ w a b - one_ a b := by
  simp only [fullB, List.all_eq_true, List.mem_range, decide_eq_true_eq]
  exact ⟨fun h a b ha hb => h a ha b hb, fun h a ha b hb => h a b ha hb⟩
theorem minL_le {l : List Int} {x : Int} (h : x ∈ l) : minL l ≤ x := (minL_ok (by intro e; rw [e] at h; cases h)).2 x h
theorem minL_rng {n : Nat} {f : Nat → Int} (hn : 1 ≤ n) : (1 ≤ minL ((List.range n).map f)) ↔ ∀ i, i < n → 1 ≤ f i := by
  constructor
  · intro h i hi
    exact Int.le_trans h (minL_le (List.mem_map.mpr ⟨i, List.mem_range.mpr hi, rfl⟩))
  · intro h
    have hne : (List.range n).map f ≠ [] := fun e => by
      have := congrArg List.length e
      simp at this
      omega
    obtain ⟨i, hi, e⟩ := List.mem_map.mp (minL_ok hne).1
    rw [← e]
    exact h i (List.mem_range.mp hi)
theorem min_rng {S : Sto} {n : Nat} {f : Nat → Int} (hn : 1 ≤ n) : biE S .min [.tl ((List.range n).map fun i => .int (f i))] = some (.int (minL ((List.range n).map f))) := by
  have e : (List.range n).map (fun i => U.int (f i)) = ((List.range n).map f).map U.int := by rw [List.map_map]; rfl
  have hne : (List.range n).map f ≠ [] := fun e => by
    have := congrArg List.length e
    simp at this
    omega
  simp only [biE, seqOf, lstOf, e, Option.bind_some, intsOf_map, if_neg hne]
theorem min_row {S : Sto} {n : Nat} {f : Nat → Int} (hn : 1 ≤ n) : biE S .min [rowU (rw_ n f)] = some (.int (minL ((List.range n).map f))) := by
  have hne : (List.range n).map f ≠ [] := fun e => by
    have := congrArg List.length e
    simp at this
    omega
  simp only [biE, rowU, seqOf, Option.bind_some, intsOf_map, rw_, if_neg hne]
theorem min_mat {n : Nat} {w : Nat → Nat → Int} (hn : 1 ≤ n) : decide (1 ≤ minL ((List.range n).map fun i => minL ((List.range n).map fun k => w i k - one_ i k))) = fullB n w := by
  rw [Bool.eq_iff_iff, fullB_iff, decide_eq_true_eq, minL_rng hn]
  constructor
  · intro h a b ha hb
    exact (minL_rng hn).mp (h a ha) b hb
  · intro h a ha
    exact (minL_rng hn).mpr fun b hb => h a b ha hb
theorem e_is_full_by {n : Nat} {w : Nat → Nat → Int} {S : Sto} (h0 : 1 ≤ n) (hn : n ≤ 8) : f_is_full_by [webU (mat n w)] S = .ok (.bl (fullB n w)) S := by
  rw [b_is_full_by, r_is_full_by]
  have l1 : evN T14 c_is_full_by_l1 [some (webU (mat n w)), none] S = .ok ((List.range n).map fun i => .int (minL ((List.range n).map fun k => w i k - one_ i k))) S := by
    refine evN_rng (src := .seq (webU (mat n fun a b => w a b - one_ a b))) (fun (i : Nat) => rowU (rw_ n fun k => w i k - one_ i k)) _ ?_ (by rw [webU_mat]; exact over_tupR) (by rw [webU_mat]; simp [Src.len, seqOf]) (sz1 hn) fun i hi => ⟨[some (webU (mat n w)), some (rowU (rw_ n fun k => w i k - one_ i k))], rfl, ?_⟩
    · simp only [evSs, evS, ev, evs, evB, evO, evN_lst, evN_listOf, evN_cat, evI, Res.bind, Res.toS, SR.andThen, ofO, ofS, asgT, asgTs, List.getElem?_cons_zero, List.getElem?_cons_succ, List.set_cons_zero, List.set_cons_succ, Option.map_some, Option.map_none, Option.bind_some, Option.bind_none, List.length_cons, List.length_nil, if_true, if_false, SR.res, Bool.not_true, Bool.not_false, Bool.false_eq_true, wipeR, List.map_cons, List.map_nil, cmp_eqI, cmp_neI, cmpS_eq, cmpS_ne, cmpI_lt, cmpI_le, cmpI_gt, cmpI_ge, Bool.not_eq_true, decide_true, decide_false, d_is_full_by__less_ones, t_is_full_by__less_ones, e_less_ones hn, Option.isSome]
      simp [webU, seqOf]
    · simp only [evSs, evS, ev, evs, evB, evO, evN_lst, evN_listOf, evN_cat, evI, Res.bind, Res.toS, SR.andThen, ofO, ofS, asgT, asgTs, List.getElem?_cons_zero, List.getElem?_cons_succ, List.set_cons_zero, List.set_cons_succ, Option.map_some, Option.map_none, Option.bind_some, Option.bind_none, List.length_cons, List.length_nil, if_true, if_false, SR.res, Bool.not_true, Bool.not_false, Bool.false_eq_true, wipeR, List.map_cons, List.map_nil, cmp_eqI, cmp_neI, cmpS_eq, cmpS_ne, cmpI_lt, cmpI_le, cmpI_gt, cmpI_ge, Bool.not_eq_true, decide_true, decide_false, min_row h0]
  have hN : N_is_full_by.length - 1 = 1 := rfl
  simp only [evSs, evS, ev, evs, evB, evO, evN_lst, evN_listOf, evN_cat, evI, Res.bind, Res.toS, SR.andThen, ofO, ofS, asgT, asgTs, List.getElem?_cons_zero, List.getElem?_cons_succ, List.set_cons_zero, List.set_cons_succ, Option.map_some, Option.map_none, Option.bind_some, Option.bind_none, List.length_cons, List.length_nil, if_true, if_false, SR.res, Bool.not_true, Bool.not_false, Bool.false_eq_true, wipeR, List.map_cons, List.map_nil, cmp_eqI, cmp_neI, cmpS_eq, cmpS_ne, cmpI_lt, cmpI_le, cmpI_gt, cmpI_ge, Bool.not_eq_true, decide_true, decide_false, c_is_full_by, hN, List.replicate, List.cons_append, List.nil_append, l1, min_rng h0, min_mat h0]
end K

set_option Elab.async false
set_option linter.all false
set_option maxRecDepth 100000
set_option maxHeartbeats 1600000
set_option exponentiation.threshold 500
namespace K
open PySem PySem.Spec PyProof.Rows L2 Z
theorem cut_to {us : List U} {i : Nat} (h : i ≤ us.length) : cutU us none (some (i : Int)) = us.take i := by
  unfold cutU
  rw [HT.sIx_none, HT.sIx_nat, Nat.min_eq_left h]
  simp
theorem cut_from {us : List U} {i : Nat} (h : i ≤ us.length) : cutU us (some (i : Int)) none = us.drop i := by
  unfold cutU
  rw [HT.sIx_none, HT.sIx_nat, Nat.min_eq_left h, List.take_of_length_le (by simp)]
theorem take_set_drop {α : Type} {l : List α} {i : Nat} {x : α} (h : i < l.length) : l.take i ++ [x] ++ l.drop (i + 1) = l.set i x := by
  apply List.ext_getElem?
  intro k
  rcases Nat.lt_trichotomy k i with q | q | q
  · rw [List.append_assoc, List.getElem?_append_left (by simp; omega), List.getElem?_take_of_lt q, List.getElem?_set_ne (by omega)]
  · subst q
    rw [List.append_assoc, List.getElem?_append_right (by simp; omega), List.length_take, Nat.min_eq_left (by omega), Nat.sub_self, List.getElem?_set_self h]; rfl
  · rw [List.getElem?_append_right (by simp; omega), List.getElem?_drop, List.getElem?_set_ne (by omega)]
    congr 1
    simp only [List.length_append, List.length_take, List.length_singleton]
    omega
def setRow (w : Nat → Nat → Int) (i : Nat) (f : Nat → Int) : Nat → Nat → Int := fun a b => if a = i then f b else w a b
theorem add_tups {S : Sto} {xs ys : List U} (h : xs.length + ys.length ≤ 10000) : binE S .add (.tup xs) (.tup ys) = some (.tup (xs ++ ys)) := by
  show (if _ then _ else _) = _
  rw [if_pos (sz_of h)]
theorem e_set_row {n i : Nat} {w : Nat → Nat → Int} {f : Nat → Int} {S : Sto} (hn : n ≤ 8) (hi : i < n) : f_set_row [webU (mat n w), .int i, .tl ((List.range n).map fun k => .int (f k))] S = .ok (webU (mat n (setRow w i f))) S := by
  rw [b_set_row, r_set_row]
  have hN : N_set_row.length - 3 = 0 := rfl
  have e1 : ∀ (S : Sto) (us : List U), slE S (.tup us) none (some (i : Int)) = some (.tup (cutU us none (some (i : Int)))) := fun _ _ => rfl
  have e2 : ∀ (S : Sto) (us : List U), slE S (.tup us) (some ((i : Int) + 1)) none = some (.tup (cutU us (some ((i : Int) + 1)) none)) := fun _ _ => rfl
  have e3 : ((i : Int) + 1) = ((i + 1 : Nat) : Int) := by omega
  have z1 : (1 : Nat) ≤ sizeLine := sz_of (by omega)
  rw [webU_mat, webU_mat]
  have L : ((List.range n).map fun i => rowU (rw_ n (w i))).length = n := by simp
  simp only [evSs, evS, ev, evs, evB, evO, evN_lst, evN_listOf, evN_cat, evI, Res.bind, Res.toS, SR.andThen, ofO, ofS, asgT, asgTs, List.getElem?_cons_zero, List.getElem?_cons_succ, List.set_cons_zero, List.set_cons_succ, Option.map_some, Option.map_none, Option.bind_some, Option.bind_none, List.length_cons, List.length_nil, if_true, if_false, SR.res, Bool.not_true, Bool.not_false, Bool.false_eq_true, wipeR, List.map_cons, List.map_nil, cmp_eqI, cmp_neI, cmpS_eq, cmpS_ne, cmpI_lt, cmpI_le, cmpI_gt, cmpI_ge, Bool.not_eq_true, decide_true, decide_false, c_set_row, hN, List.replicate, List.append_nil, e1, e2, binI_add, bi_tuple_tl, Nat.zero_add, z1]
  rw [e3, cut_to (by rw [L]; omega), cut_from (by rw [L]; omega)]
  rw [add_tups (by simp; omega)]
  simp only
  rw [add_tups (by simp; omega)]
  simp only
  rw [take_set_drop (by rw [L]; exact hi), rng_set hi]
  congr 2
  refine rng_congr fun a ha => ?_
  unfold setRow
  by_cases q : a = i
  · simp only [if_pos q, rowU_rw]
  · simp only [if_neg q]
/-! ### led -/
def ledF (w : Nat → Nat → Int) (i j : Nat) (t : Int) : Nat → Nat → Int := setRow w i fun k => w i k + t * (w j k - one_ k j)
def ledC (w : Nat → Nat → Int) (i j : Nat) (t : Int) : Bool := !(decide (w i j = 0) || decide ((if w j j = 0 then w i j else t) < t))
def ledU (n : Nat) (w : Nat → Nat → Int) (i j : Nat) (t : Int) : U := if ledC w i j t = true then webU (mat n (ledF w i j t)) else .non
theorem binI_mulL {S : Sto} {i j : Int} (h : i.natAbs.log2 + j.natAbs.log2 < 1000000) : binE S .mul (.int i) (.int j) = some (.int (i * j)) := by
  show (if i.natAbs.log2 + j.natAbs.log2 < 1000000 then some (U.int (i * j)) else none) = _
  rw [if_pos h]
def MulOk (n : Nat) (w : Nat → Nat → Int) (t : Int) : Prop := ∀ a b, a < n → b < n → t.natAbs.log2 + (w a b - one_ b a).natAbs.log2 < 1000000
theorem e_led {n i j : Nat} {w : Nat → Nat → Int} {t : Int} {S : Sto} (hn : n ≤ 8) (hi : i < n) (hj : j < n) (hm : MulOk n w t) :
    f_led [webU (mat n w), .int i, .int j, .int t] S = .ok (ledU n w i j t) S := by
  rw [b_led, r_led]
  have hN : N_led.length - 4 = 5 := rfl
  have st1 : evS T7 FU (.asg (.name 4) (.ite (.cmp .eq (.idx (.idx (.var 0) (.var 2)) (.var 2)) (.int 0)) (.idx (.idx (.var 0) (.var 1)) (.var 2)) (.var 3))) [some (webU (mat n w)), some (.int i), some (.int j), some (.int t), none, none, none, none, none] S = .nx [some (webU (mat n w)), some (.int i), some (.int j), some (.int t), some (.int (if w j j = 0 then w i j else t)), none, none, none, none] S := by
    simp only [evSs, evS, ev, evs, evB, evO, evN_lst, evN_listOf, evN_cat, evI, Res.bind, Res.toS, SR.andThen, ofO, ofS, asgT, asgTs, List.getElem?_cons_zero, List.getElem?_cons_succ, List.set_cons_zero, List.set_cons_succ, Option.map_some, Option.map_none, Option.bind_some, Option.bind_none, List.length_cons, List.length_nil, if_true, if_false, SR.res, Bool.not_true, Bool.not_false, Bool.false_eq_true, wipeR, List.map_cons, List.map_nil, cmp_eqI, cmp_neI, cmpS_eq, cmpS_ne, cmpI_lt, cmpI_le, cmpI_gt, cmpI_ge, Bool.not_eq_true, decide_true, decide_false, idx_row hi, idx_row hj, idx_num hj]
    by_cases q : w j j = 0 <;> simp [q, evSs, evS, ev, evs, evB, evO, evN_lst, evN_listOf, evN_cat, evI, Res.bind, Res.toS, SR.andThen, ofO, ofS, asgT, asgTs, List.getElem?_cons_zero, List.getElem?_cons_succ, List.set_cons_zero, List.set_cons_succ, Option.map_some, Option.map_none, Option.bind_some, Option.bind_none, List.length_cons, List.length_nil, if_true, if_false, SR.res, Bool.not_true, Bool.not_false, Bool.false_eq_true, wipeR, List.map_cons, List.map_nil, cmp_eqI, cmp_neI, cmpS_eq, cmpS_ne, cmpI_lt, cmpI_le, cmpI_gt, cmpI_ge, Bool.not_eq_true, decide_true, decide_false, idx_row hi, idx_num hj]
  have l1 : evN T7 c_led_l1 [some (webU (mat n w)), some (.int i), some (.int j), some (.int t), some (.int (if w j j = 0 then w i j else t)), none, none, none, none] S = .ok ((List.range n).map fun k => .int (w i k + t * (w j k - one_ k j))) S := by
    refine evN_rng (src := .ez (rowU (rw_ n (w i))) (rowU (rw_ n (w j)))) (fun (k : Nat) => U.tup [.int (k : Int), .tup [.int (w i k), .int (w j k)]]) _ ?_ (by rw [rowU_rw, rowU_rw]; exact over_ezR) (by rw [rowU_rw, rowU_rw]; simp [Src.len, tupOf]) (sz1 hn) fun k hk => ⟨[some (webU (mat n w)), some (.int i), some (.int j), some (.int t), some (.int (if w j j = 0 then w i j else t)), none, some (.int k), some (.int (w i k)), some (.int (w j k))], rfl, ?_⟩
    · simp only [evSs, evS, ev, evs, evB, evO, evN_lst, evN_listOf, evN_cat, evI, Res.bind, Res.toS, SR.andThen, ofO, ofS, asgT, asgTs, List.getElem?_cons_zero, List.getElem?_cons_succ, List.set_cons_zero, List.set_cons_succ, Option.map_some, Option.map_none, Option.bind_some, Option.bind_none, List.length_cons, List.length_nil, if_true, if_false, SR.res, Bool.not_true, Bool.not_false, Bool.false_eq_true, wipeR, List.map_cons, List.map_nil, cmp_eqI, cmp_neI, cmpS_eq, cmpS_ne, cmpI_lt, cmpI_le, cmpI_gt, cmpI_ge, Bool.not_eq_true, decide_true, decide_false, idx_row hi, idx_row hj, rowU, tupOf, Option.isSome, Bool.and_self]
    · have h2 := fun S => binI_mulL (S := S) (hm j k hj hk)
      simp only [evSs, evS, ev, evs, evB, evO, evN_lst, evN_listOf, evN_cat, evI, Res.bind, Res.toS, SR.andThen, ofO, ofS, asgT, asgTs, List.getElem?_cons_zero, List.getElem?_cons_succ, List.set_cons_zero, List.set_cons_succ, Option.map_some, Option.map_none, Option.bind_some, Option.bind_none, List.length_cons, List.length_nil, if_true, if_false, SR.res, Bool.not_true, Bool.not_false, Bool.false_eq_true, wipeR, List.map_cons, List.map_nil, cmp_eqI, cmp_neI, cmpS_eq, cmpS_ne, cmpI_lt, cmpI_le, cmpI_gt, cmpI_ge, Bool.not_eq_true, decide_true, decide_false, int_eqB, binI_sub, h2, binI_add]
  have tl : evSs T7 FU (.cons (.asg (.name 5) (.tmp c_led_l1)) (.cons (.ret (.call "set_row" (.cons (.var 0) (.cons (.var 1) (.cons (.var 5) .nil))))) .nil)) [some (webU (mat n w)), some (.int i), some (.int j), some (.int t), some (.int (if w j j = 0 then w i j else t)), none, none, none, none] S = .rt (webU (mat n (ledF w i j t))) S := by
    simp only [evSs, evS, ev, evs, evB, evO, evN_lst, evN_listOf, evN_cat, evI, Res.bind, Res.toS, SR.andThen, ofO, ofS, asgT, asgTs, List.getElem?_cons_zero, List.getElem?_cons_succ, List.set_cons_zero, List.set_cons_succ, Option.map_some, Option.map_none, Option.bind_some, Option.bind_none, List.length_cons, List.length_nil, if_true, if_false, SR.res, Bool.not_true, Bool.not_false, Bool.false_eq_true, wipeR, List.map_cons, List.map_nil, cmp_eqI, cmp_neI, cmpS_eq, cmpS_ne, cmpI_lt, cmpI_le, cmpI_gt, cmpI_ge, Bool.not_eq_true, decide_true, decide_false, l1, d_led__set_row, t_led__set_row, e_set_row hn hi, ledF]
  have st2 : evS T7 FU (.ite (.bop false (.cons (.cmp .eq (.idx (.idx (.var 0) (.var 1)) (.var 2)) (.int 0)) (.cons (.cmp .lt (.var 4) (.var 3)) .nil))) (.cons (.ret .non) .nil) .nil) [some (webU (mat n w)), some (.int i), some (.int j), some (.int t), some (.int (if w j j = 0 then w i j else t)), none, none, none, none] S = if ledC w i j t = true then .nx [some (webU (mat n w)), some (.int i), some (.int j), some (.int t), some (.int (if w j j = 0 then w i j else t)), none, none, none, none] S else .rt .non S := by
    unfold ledC
    by_cases q1 : w i j = 0
    · simp [evSs, evS, ev, evs, evB, evO, evN_lst, evN_listOf, evN_cat, evI, Res.bind, Res.toS, SR.andThen, ofO, ofS, asgT, asgTs, List.getElem?_cons_zero, List.getElem?_cons_succ, List.set_cons_zero, List.set_cons_succ, Option.map_some, Option.map_none, Option.bind_some, Option.bind_none, List.length_cons, List.length_nil, if_true, if_false, SR.res, Bool.not_true, Bool.not_false, Bool.false_eq_true, wipeR, List.map_cons, List.map_nil, cmp_eqI, cmp_neI, cmpS_eq, cmpS_ne, cmpI_lt, cmpI_le, cmpI_gt, cmpI_ge, Bool.not_eq_true, decide_true, decide_false, idx_row hi, idx_num hj, q1]
    · by_cases q2 : (if w j j = 0 then w i j else t) < t
      · simp [evSs, evS, ev, evs, evB, evO, evN_lst, evN_listOf, evN_cat, evI, Res.bind, Res.toS, SR.andThen, ofO, ofS, asgT, asgTs, List.getElem?_cons_zero, List.getElem?_cons_succ, List.set_cons_zero, List.set_cons_succ, Option.map_some, Option.map_none, Option.bind_some, Option.bind_none, List.length_cons, List.length_nil, if_true, if_false, SR.res, Bool.not_true, Bool.not_false, Bool.false_eq_true, wipeR, List.map_cons, List.map_nil, cmp_eqI, cmp_neI, cmpS_eq, cmpS_ne, cmpI_lt, cmpI_le, cmpI_gt, cmpI_ge, Bool.not_eq_true, decide_true, decide_false, idx_row hi, idx_num hj, q1, q2]
      · simp [evSs, evS, ev, evs, evB, evO, evN_lst, evN_listOf, evN_cat, evI, Res.bind, Res.toS, SR.andThen, ofO, ofS, asgT, asgTs, List.getElem?_cons_zero, List.getElem?_cons_succ, List.set_cons_zero, List.set_cons_succ, Option.map_some, Option.map_none, Option.bind_some, Option.bind_none, List.length_cons, List.length_nil, if_true, if_false, SR.res, Bool.not_true, Bool.not_false, Bool.false_eq_true, wipeR, List.map_cons, List.map_nil, cmp_eqI, cmp_neI, cmpS_eq, cmpS_ne, cmpI_lt, cmpI_le, cmpI_gt, cmpI_ge, Bool.not_eq_true, decide_true, decide_false, idx_row hi, idx_num hj, q1, q2]
  unfold c_led ledU
  simp only [hN, List.replicate, List.cons_append, List.nil_append]
  rw [evSs, st1, then_nx, evSs, st2]
  by_cases q : ledC w i j t = true
  · rw [if_pos q, if_pos q, then_nx, tl, SR.res]
  · rw [if_neg q, if_neg q, then_rt, SR.res]
/-! ### pairs -/
theorem e_is_pair {n i j : Nat} {w : Nat → Nat → Int} {S : Sto} : f_is_pair [webU (mat n w), .int i, .int j] S = .ok (.bl (decide (i < n) && decide (j < n))) S := by
  rw [b_is_pair, r_is_pair]
  have hN : N_is_pair.length - 3 = 1 := rfl
  have h1 : (0 : Int) ≤ (i : Int) := by omega
  have h2 : (0 : Int) ≤ (j : Int) := by omega
  by_cases q1 : i < n
  · by_cases q2 : j < n <;> simp [evSs, evS, ev, evs, evB, evO, evN_lst, evN_listOf, evN_cat, evI, Res.bind, Res.toS, SR.andThen, ofO, ofS, asgT, asgTs, List.getElem?_cons_zero, List.getElem?_cons_succ, List.set_cons_zero, List.set_cons_succ, Option.map_some, Option.map_none, Option.bind_some, Option.bind_none, List.length_cons, List.length_nil, if_true, if_false, SR.res, Bool.not_true, Bool.not_false, Bool.false_eq_true, wipeR, List.map_cons, List.map_nil, cmp_eqI, cmp_neI, cmpS_eq, cmpS_ne, cmpI_lt, cmpI_le, cmpI_gt, cmpI_ge, Bool.not_eq_true, decide_true, decide_false, c_is_pair, hN, List.replicate, len_mat, d_is_pair__is_from, t_is_pair__is_from, e_is_from, no_int, fromB, h1, h2, q1, q2]
  · simp [evSs, evS, ev, evs, evB, evO, evN_lst, evN_listOf, evN_cat, evI, Res.bind, Res.toS, SR.andThen, ofO, ofS, asgT, asgTs, List.getElem?_cons_zero, List.getElem?_cons_succ, List.set_cons_zero, List.set_cons_succ, Option.map_some, Option.map_none, Option.bind_some, Option.bind_none, List.length_cons, List.length_nil, if_true, if_false, SR.res, Bool.not_true, Bool.not_false, Bool.false_eq_true, wipeR, List.map_cons, List.map_nil, cmp_eqI, cmp_neI, cmpS_eq, cmpS_ne, cmpI_lt, cmpI_le, cmpI_gt, cmpI_ge, Bool.not_eq_true, decide_true, decide_false, c_is_pair, hN, List.replicate, len_mat, d_is_pair__is_from, t_is_pair__is_from, e_is_from, no_int, fromB, h1, h2, q1]
theorem e_turned_lead {n i j : Nat} {w : Nat → Nat → Int} {t : Int} {S : Sto} (hn : n ≤ 8) (hi : i < n) (hj : j < n) (hm : MulOk n w t) :
    f_turned_over [.str "lead", webU (mat n w), .int i, .int j, .int t] S = .ok (ledU n w i j t) S := by
  rw [b_turned_over, r_turned_over]
  have hN : N_turned_over.length - 5 = 2 := rfl
  simp [evSs, evS, ev, evs, evB, evO, evN_lst, evN_listOf, evN_cat, evI, Res.bind, Res.toS, SR.andThen, ofO, ofS, asgT, asgTs, List.getElem?_cons_zero, List.getElem?_cons_succ, List.set_cons_zero, List.set_cons_succ, Option.map_some, Option.map_none, Option.bind_some, Option.bind_none, List.length_cons, List.length_nil, if_true, if_false, SR.res, Bool.not_true, Bool.not_false, Bool.false_eq_true, wipeR, List.map_cons, List.map_nil, cmp_eqI, cmp_neI, cmpS_eq, cmpS_ne, cmpI_lt, cmpI_le, cmpI_gt, cmpI_ge, Bool.not_eq_true, decide_true, decide_false, c_turned_over, hN, List.replicate, d_turned_over__led, t_turned_over__led, e_led hn hi hj hm]
end K

set_option Elab.async false
set_option linter.all false
set_option maxRecDepth 100000
set_option maxHeartbeats 1600000
set_option exponentiation.threshold 500
namespace K
open PySem PySem.Spec PyProof.Rows L2 Z
/-! ### what stood stands -/
def Ke (S S' : Sto) : Prop := S.length ≤ S'.length ∧ ∀ i, i < S.length → S'[i]? = S[i]?
theorem Ke.refl {S : Sto} : Ke S S := ⟨Nat.le_refl _, fun _ _ => rfl⟩
theorem Ke.trans {S S1 S2 : Sto} (h : Ke S S1) (h' : Ke S1 S2) : Ke S S2 := ⟨Nat.le_trans h.1 h'.1, fun i hi => by rw [h'.2 i (Nat.lt_of_lt_of_le hi h.1), h.2 i hi]⟩
theorem Ke.app {S S' : Sto} : Ke S (S ++ S') := ⟨by simp, fun i hi => List.getElem?_append_left hi⟩
theorem Ke.set {S S' : Sto} {k : Nat} {o : SO} (h : Ke S S') (hk : S.length ≤ k) : Ke S (S'.set k o) := ⟨by rw [List.length_set]; exact h.1, fun i hi => by rw [List.getElem?_set_ne (by omega)]; exact h.2 i hi⟩
theorem Ke.to {S S' : Sto} (h : Ke S S') {X : Sto} : Ke S (S' ++ X) := h.trans Ke.app
theorem Ke.at_ {S S' : Sto} {k : Nat} {o : SO} (h : Ke S S') (e : S[k]? = some o) : S'[k]? = some o := by rw [h.2 k (List.getElem?_eq_some_iff.mp e).1, e]
theorem Ke.kp {S S' : Sto} {p : Nat} (h : Ke S S') : Kp p S S' := ⟨h.1, fun i hi _ => h.2 i hi⟩
theorem Pen.ke {S S' : Sto} {p c : Nat} {B : Int} (x : Pen S p c B) (k : Ke S S') : Pen S' p c B := by
  obtain ⟨cells, a, h, ⟨h1, h2, h3⟩, q⟩ := x
  exact ⟨cells, a, h, ⟨k.at_ h1, k.at_ h2, h3⟩, q⟩
/-! ### a place put in -/
def pre (k b : Nat) : Nat := if b < k then b else b - 1
theorem ins_rng {α : Type} {f : Nat → α} {n k : Nat} {x : α} (h : k ≤ n) : ((List.range n).map f).take k ++ [x] ++ ((List.range n).map f).drop k = (List.range (n + 1)).map fun b => if b = k then x else f (pre k b) := by
  apply List.ext_getElem?
  intro b
  have L : (((List.range n).map f).take k).length = k := by simp; omega
  by_cases hb : b < n + 1
  · rw [rng_at hb, List.append_assoc]
    rcases Nat.lt_trichotomy b k with q | q | q
    · rw [List.getElem?_append_left (by rw [L]; exact q), List.getElem?_take_of_lt q, rng_at (by omega), if_neg (by omega)]
      unfold pre; rw [if_pos q]
    · subst q
      rw [List.getElem?_append_right (by rw [L]; exact Nat.le_refl _), L, Nat.sub_self, if_pos rfl]; rfl
    · rw [List.getElem?_append_right (by rw [L]; omega), L, if_neg (by omega)]
      obtain ⟨d, rfl⟩ := Nat.exists_eq_add_of_lt q
      rw [show k + d + 1 - k = d + 1 by omega, List.singleton_append, List.getElem?_cons_succ, List.getElem?_drop, rng_at (by omega)]
      unfold pre; rw [if_neg (by omega), show k + d + 1 - 1 = k + d by omega]
  · rw [List.getElem?_eq_none (by simp; omega), List.getElem?_eq_none (by simp; omega)]
def putF (w : Nat → Nat → Int) (i j k : Nat) : Nat → Nat → Int := fun a b =>
  if a = k then (if b = k then 0 else one_ (pre k b) j) else (if b = k then one_ (pre k a) i else w (pre k a) (pre k b) - (if pre k b = j then one_ (pre k a) i else 0))
theorem idx_obj {S : Sto} {k n j : Nat} {f : Nat → U} (h : S[k]? = some (.lst ((List.range n).map f))) (hj : j < n) : idxE S (.obj k) (.int j) = some (f j) := by
  simp only [idxE, seqOf, lstOf, h]
  exact atI_nat (rng_at hj)
theorem lst_obj {S : Sto} {k : Nat} {us : List U} (h : S[k]? = some (.lst us)) : lstOf S (.obj k) = some us := by simp only [lstOf, h]
theorem seq_obj {S : Sto} {k : Nat} {us : List U} (h : S[k]? = some (.lst us)) : seqOf S (.obj k) = some us := by simp only [seqOf, lstOf, h]
section
variable {n i j k : Nat} {w : Nat → Nat → Int}
abbrev prow (w : Nat → Nat → Int) (i j k p : Nat) : Nat → Int := fun b => if b = k then one_ p i else w p (pre k b) - (if pre k b = j then one_ p i else 0)
theorem put_b1 {S : Sto} {L p : Nat} {fs : List U} {x y : Option U} (hn : n ≤ 8) (hj : j < n) (hk : k ≤ n) (hp : p < n) (hL : S[L]? = some (.lst fs)) (hf : fs.length ≤ 100) :
    evSs T10 FU c_put_in_b1 [some (webU (mat n w)), some (.int i), some (.int j), some (.int k), some (.int n), some (.obj L), some (.int p), x, y] S =
      .nx [some (webU (mat n w)), some (.int i), some (.int j), some (.int k), some (.int n), some (.obj L), some (.int p), some (.obj S.length), y] ((S ++ [SO.lst ((List.range (n + 1)).map fun b => .int (prow w i j k p b))]).set L (SO.lst (fs ++ [rowU (rw_ (n + 1) (prow w i j k p))]))) := by
  have hLl : L < S.length := (List.getElem?_eq_some_iff.mp hL).1
  have st1 : evS T10 FU (.asg (.name 7) (.mk (.listOf (.idx (.var 0) (.var 6))))) [some (webU (mat n w)), some (.int i), some (.int j), some (.int k), some (.int n), some (.obj L), some (.int p), x, y] S =
      .nx [some (webU (mat n w)), some (.int i), some (.int j), some (.int k), some (.int n), some (.obj L), some (.int p), some (.obj S.length), y] (S ++ [SO.lst ((List.range n).map fun b => .int (w p b))]) := by
    simp only [evSs, evS, ev, evs, evB, evO, evN_lst, evN_listOf, evN_cat, evI, Res.bind, Res.toS, SR.andThen, ofO, ofS, asgT, asgTs, List.getElem?_cons_zero, List.getElem?_cons_succ, List.set_cons_zero, List.set_cons_succ, Option.map_some, Option.map_none, Option.bind_some, Option.bind_none, List.length_cons, List.length_nil, if_true, if_false, SR.res, Bool.not_true, Bool.not_false, Bool.false_eq_true, wipeR, List.map_cons, List.map_nil, cmp_eqI, cmp_neI, cmpS_eq, cmpS_ne, cmpI_lt, cmpI_le, cmpI_gt, cmpI_ge, Bool.not_eq_true, decide_true, decide_false, idx_row hp]
    simp only [rowU_rw, seqOf]
  have st2 : evS T10 FU (.setI (.var 7) (.var 2) (.bin .sub (.idx (.var 7) (.var 2)) (.bi .int (.cons (.cmp .eq (.var 6) (.var 1)) .nil)))) [some (webU (mat n w)), some (.int i), some (.int j), some (.int k), some (.int n), some (.obj L), some (.int p), some (.obj S.length), y] (S ++ [SO.lst ((List.range n).map fun b => .int (w p b))]) =
      .nx [some (webU (mat n w)), some (.int i), some (.int j), some (.int k), some (.int n), some (.obj L), some (.int p), some (.obj S.length), y] (S ++ [SO.lst ((List.range n).map fun b => .int (w p b - (if b = j then one_ p i else 0)))]) := by
    have e : ((List.range n).map fun b => U.int (w p b)).set j (.int (w p j - one_ p i)) = (List.range n).map fun b => .int (w p b - (if b = j then one_ p i else 0)) := by
      rw [rng_set hj]
      refine rng_congr fun b hb => ?_
      by_cases q : b = j
      · subst q; simp
      · simp [q]
    simp only [evSs, evS, ev, evs, evB, evO, evN_lst, evN_listOf, evN_cat, evI, Res.bind, Res.toS, SR.andThen, ofO, ofS, asgT, asgTs, List.getElem?_cons_zero, List.getElem?_cons_succ, List.set_cons_zero, List.set_cons_succ, Option.map_some, Option.map_none, Option.bind_some, Option.bind_none, List.length_cons, List.length_nil, if_true, if_false, SR.res, Bool.not_true, Bool.not_false, Bool.false_eq_true, wipeR, List.map_cons, List.map_nil, cmp_eqI, cmp_neI, cmpS_eq, cmpS_ne, cmpI_lt, cmpI_le, cmpI_gt, cmpI_ge, Bool.not_eq_true, decide_true, decide_false, idx_obj app_at hj, int_eqB, binI_sub, app_at, List.length_map, List.length_range, ixN_rng hj, app_set, e]
  have st3 : evS T10 FU (.ins (.var 7) (.var 3) (.bi .int (.cons (.cmp .eq (.var 6) (.var 1)) .nil))) [some (webU (mat n w)), some (.int i), some (.int j), some (.int k), some (.int n), some (.obj L), some (.int p), some (.obj S.length), y] (S ++ [SO.lst ((List.range n).map fun b => .int (w p b - (if b = j then one_ p i else 0)))]) =
      .nx [some (webU (mat n w)), some (.int i), some (.int j), some (.int k), some (.int n), some (.obj L), some (.int p), some (.obj S.length), y] (S ++ [SO.lst ((List.range (n + 1)).map fun b => .int (prow w i j k p b))]) := by
    have hz : (0 : Int) ≤ (k : Int) ∧ (k : Int) < 2 ^ 62 ∧ ((List.range n).map fun b => U.int (w p b - (if b = j then one_ p i else 0))).length < sizeLine := ⟨by omega, by omega, Nat.lt_of_lt_of_le (by simp; omega : _ < 9) (sz_of (by omega))⟩
    simp only [evSs, evS, ev, evs, evB, evO, evN_lst, evN_listOf, evN_cat, evI, Res.bind, Res.toS, SR.andThen, ofO, ofS, asgT, asgTs, List.getElem?_cons_zero, List.getElem?_cons_succ, List.set_cons_zero, List.set_cons_succ, Option.map_some, Option.map_none, Option.bind_some, Option.bind_none, List.length_cons, List.length_nil, if_true, if_false, SR.res, Bool.not_true, Bool.not_false, Bool.false_eq_true, wipeR, List.map_cons, List.map_nil, cmp_eqI, cmp_neI, cmpS_eq, cmpS_ne, cmpI_lt, cmpI_le, cmpI_gt, cmpI_ge, Bool.not_eq_true, decide_true, decide_false, lst_obj app_at, Option.isSome, int_eqB, app_at]
    rw [if_pos hz, Int.toNat_natCast, app_set, ins_rng hk]
    congr 3
    simp only [List.cons.injEq, SO.lst.injEq, and_true]
    refine rng_congr fun b hb => ?_
    unfold prow
    by_cases q : b = k <;> simp [q]
  have st4 : evS T10 FU (.app (.var 5) (.bi .tuple (.cons (.var 7) .nil))) [some (webU (mat n w)), some (.int i), some (.int j), some (.int k), some (.int n), some (.obj L), some (.int p), some (.obj S.length), y] (S ++ [SO.lst ((List.range (n + 1)).map fun b => .int (prow w i j k p b))]) =
      .nx [some (webU (mat n w)), some (.int i), some (.int j), some (.int k), some (.int n), some (.obj L), some (.int p), some (.obj S.length), y] ((S ++ [SO.lst ((List.range (n + 1)).map fun b => .int (prow w i j k p b))]).set L (SO.lst (fs ++ [rowU (rw_ (n + 1) (prow w i j k p))]))) := by
    have hL' := Ke.at_ (Ke.app (S' := [SO.lst ((List.range (n + 1)).map fun b => .int (prow w i j k p b))])) hL
    have hz : fs.length < sizeLine := Nat.lt_of_lt_of_le (by omega : _ < 101) (sz_of (by omega))
    simp only [evSs, evS, ev, evs, evB, evO, evN_lst, evN_listOf, evN_cat, evI, Res.bind, Res.toS, SR.andThen, ofO, ofS, asgT, asgTs, List.getElem?_cons_zero, List.getElem?_cons_succ, List.set_cons_zero, List.set_cons_succ, Option.map_some, Option.map_none, Option.bind_some, Option.bind_none, List.length_cons, List.length_nil, if_true, if_false, SR.res, Bool.not_true, Bool.not_false, Bool.false_eq_true, wipeR, List.map_cons, List.map_nil, cmp_eqI, cmp_neI, cmpS_eq, cmpS_ne, cmpI_lt, cmpI_le, cmpI_gt, cmpI_ge, Bool.not_eq_true, decide_true, decide_false, lst_obj hL', Option.isSome, bi_tuple_obj app_at, hL', hz]
    rw [rowU_rw]
  unfold c_put_in_b1
  rw [evSs, st1, then_nx, evSs, st2, then_nx, evSs, st3, then_nx, evSs, st4, then_nx, evSs]
end
end K

set_option Elab.async false
set_option linter.all false
set_option maxRecDepth 100000
set_option maxHeartbeats 1600000
set_option exponentiation.threshold 500
namespace K
open PySem PySem.Spec PyProof.Rows L2 Z
section
variable {n i j k : Nat} {w : Nat → Nat → Int}
theorem rng_snoc {α : Type} {f : Nat → α} {n : Nat} : (List.range n).map f ++ [f n] = (List.range (n + 1)).map f := by
  rw [List.range_succ, List.map_append]; rfl
theorem put_for {S : Sto} {L : Nat} {x y z : Option U} (hn : n ≤ 8) (hj : j < n) (hk : k ≤ n) (hL : S[L]? = some (.lst [])) :
    ∃ S' x' y', evS T10 FU (.for_ (.name 6) (.rng1 (.var 4)) c_put_in_b1) [some (webU (mat n w)), some (.int i), some (.int j), some (.int k), some (.int n), some (.obj L), x, y, z] S =
      .nx [some (webU (mat n w)), some (.int i), some (.int j), some (.int k), some (.int n), some (.obj L), x', y', z] S' ∧ S'[L]? = some (.lst ((List.range n).map fun p => rowU (rw_ (n + 1) (prow w i j k p)))) ∧ ∀ S0, Ke S0 S → S0.length ≤ L → Ke S0 S' := by
  have hI : evI T10 (.rng1 (.var 4)) [some (webU (mat n w)), some (.int i), some (.int j), some (.int k), some (.int n), some (.obj L), x, y, z] S = .ok (.rng 0 n) S := evI_rng1 (by simp [ev]) (by omega)
  obtain ⟨ρ', S', h1, x', y', rfl, h3, h4⟩ := forGo_all (src := .rng 0 n) (t := .name 6) (body := evSs T10 FU c_put_in_b1) (items := (List.range n).map fun (p : Nat) => U.int (p : Int))
    (fun p ρ S' => ∃ x y, ρ = [some (webU (mat n w)), some (.int i), some (.int j), some (.int k), some (.int n), some (.obj L), x, y, z] ∧ S'[L]? = some (.lst ((List.range p).map fun p => rowU (rw_ (n + 1) (prow w i j k p)))) ∧ ∀ S0, Ke S0 S → S0.length ≤ L → Ke S0 S')
    (fun _ _ S' _ => over_rngR (I := fun _ => True) S' trivial _)
    (n := n) (ρ := [some (webU (mat n w)), some (.int i), some (.int j), some (.int k), some (.int n), some (.obj L), x, y, z]) (S := S) (by
      intro p u ρ S' hx ⟨x, y, h1, h2, h3⟩
      subst h1
      have hp : p < n := by
        have := (List.getElem?_eq_some_iff.mp hx).1
        simpa using this
      rw [rng_at hp] at hx
      cases hx
      refine ⟨_, rfl, ?_⟩
      have hLl : L < S'.length := (List.getElem?_eq_some_iff.mp h2).1
      refine ⟨_, _, put_b1 (x := y) (y := z) hn hj hk hp h2 (by simp; omega), _, _, rfl, ?_, fun S0 k0 k1 => ?_⟩
      · rw [List.getElem?_set_self (by simp; omega), ← rng_snoc]
      · exact Ke.set (h3 S0 k0 k1).to k1) (by simp) ⟨x, y, rfl, hL, fun S0 k0 _ => k0⟩
  exact ⟨S', x', y', (evS_for hI).trans h1, by simpa using h3, h4⟩
theorem e_put_in {S : Sto} (hn : n ≤ 8) (hj : j < n) (hk : k ≤ n) : ∃ S', f_put_in [webU (mat n w), .int i, .int j, .int k] S = .ok (webU (mat (n + 1) (putF w i j k))) S' ∧ Ke S S' := by
  rw [b_put_in, r_put_in]
  have hN : N_put_in.length - 4 = 5 := rfl
  have st1 : evS T10 FU (.asg (.name 4) (.bi .len (.cons (.var 0) .nil))) [some (webU (mat n w)), some (.int i), some (.int j), some (.int k), none, none, none, none, none] S =
      .nx [some (webU (mat n w)), some (.int i), some (.int j), some (.int k), some (.int n), none, none, none, none] S := by simp only [evSs, evS, ev, evs, evB, evO, evN_lst, evN_listOf, evN_cat, evI, Res.bind, Res.toS, SR.andThen, ofO, ofS, asgT, asgTs, List.getElem?_cons_zero, List.getElem?_cons_succ, List.set_cons_zero, List.set_cons_succ, Option.map_some, Option.map_none, Option.bind_some, Option.bind_none, List.length_cons, List.length_nil, if_true, if_false, SR.res, Bool.not_true, Bool.not_false, Bool.false_eq_true, wipeR, List.map_cons, List.map_nil, cmp_eqI, cmp_neI, cmpS_eq, cmpS_ne, cmpI_lt, cmpI_le, cmpI_gt, cmpI_ge, Bool.not_eq_true, decide_true, decide_false, len_mat]
  have z0 : (0 : Nat) ≤ sizeLine := Nat.zero_le _
  have st2 : evS T10 FU (.asg (.name 5) (.mk (.lst .nil))) [some (webU (mat n w)), some (.int i), some (.int j), some (.int k), some (.int n), none, none, none, none] S =
      .nx [some (webU (mat n w)), some (.int i), some (.int j), some (.int k), some (.int n), some (.obj S.length), none, none, none] (S ++ [SO.lst []]) := by simp only [evSs, evS, ev, evs, evB, evO, evN_lst, evN_listOf, evN_cat, evI, Res.bind, Res.toS, SR.andThen, ofO, ofS, asgT, asgTs, List.getElem?_cons_zero, List.getElem?_cons_succ, List.set_cons_zero, List.set_cons_succ, Option.map_some, Option.map_none, Option.bind_some, Option.bind_none, List.length_cons, List.length_nil, if_true, if_false, SR.res, Bool.not_true, Bool.not_false, Bool.false_eq_true, wipeR, List.map_cons, List.map_nil, cmp_eqI, cmp_neI, cmpS_eq, cmpS_ne, cmpI_lt, cmpI_le, cmpI_gt, cmpI_ge, Bool.not_eq_true, decide_true, decide_false, z0]
  obtain ⟨S1, x', y', st3, f3, k3⟩ := put_for (n := n) (i := i) (j := j) (k := k) (w := w) (S := S ++ [SO.lst []]) (L := S.length) (x := none) (y := none) (z := none) hn hj hk app_at
  have k1 : Ke S S1 := k3 S Ke.app (Nat.le_refl _)
  have hl1 : S.length < S1.length := (List.getElem?_eq_some_iff.mp f3).1
  have l1 : evN T10 c_put_in_l1 [some (webU (mat n w)), some (.int i), some (.int j), some (.int k), some (.int n), some (.obj S.length), x', y', none] S1 = .ok ((List.range n).map fun p => .int (one_ p j)) S1 := by
    refine evN_rng (src := .rng 0 n) (fun (p : Nat) => U.int (p : Int)) _ (evI_rng1 (by simp [ev]) (by omega)) over_rngR (by simp [Src.len]) (sz1 hn) fun p hp => ⟨[some (webU (mat n w)), some (.int i), some (.int j), some (.int k), some (.int n), some (.obj S.length), some (.int p), y', none], rfl, ?_⟩
    simp only [evSs, evS, ev, evs, evB, evO, evN_lst, evN_listOf, evN_cat, evI, Res.bind, Res.toS, SR.andThen, ofO, ofS, asgT, asgTs, List.getElem?_cons_zero, List.getElem?_cons_succ, List.set_cons_zero, List.set_cons_succ, Option.map_some, Option.map_none, Option.bind_some, Option.bind_none, List.length_cons, List.length_nil, if_true, if_false, SR.res, Bool.not_true, Bool.not_false, Bool.false_eq_true, wipeR, List.map_cons, List.map_nil, cmp_eqI, cmp_neI, cmpS_eq, cmpS_ne, cmpI_lt, cmpI_le, cmpI_gt, cmpI_ge, Bool.not_eq_true, decide_true, decide_false, int_eqB]
  have st4 : evS T10 FU (.asg (.name 8) (.mk c_put_in_l1)) [some (webU (mat n w)), some (.int i), some (.int j), some (.int k), some (.int n), some (.obj S.length), x', y', none] S1 =
      .nx [some (webU (mat n w)), some (.int i), some (.int j), some (.int k), some (.int n), some (.obj S.length), x', y', some (.obj S1.length)] (S1 ++ [SO.lst ((List.range n).map fun p => .int (one_ p j))]) := by
    rw [evS, ev, l1]; rfl
  have st5 : evS T10 FU (.ins (.var 8) (.var 3) (.int 0)) [some (webU (mat n w)), some (.int i), some (.int j), some (.int k), some (.int n), some (.obj S.length), x', y', some (.obj S1.length)] (S1 ++ [SO.lst ((List.range n).map fun p => .int (one_ p j))]) =
      .nx [some (webU (mat n w)), some (.int i), some (.int j), some (.int k), some (.int n), some (.obj S.length), x', y', some (.obj S1.length)] (S1 ++ [SO.lst ((List.range (n + 1)).map fun b => .int (if b = k then 0 else one_ (pre k b) j))]) := by
    have e5 : (List.range (n + 1)).map (fun b => if b = k then U.int 0 else .int (one_ (pre k b) j)) = (List.range (n + 1)).map fun b => .int (if b = k then 0 else one_ (pre k b) j) := rng_congr fun b hb => by by_cases q : b = k <;> simp [q]
    have l0 : lstOf (S1 ++ [SO.lst ((List.range n).map fun p => U.int (one_ p j))]) (.obj S1.length) = some ((List.range n).map fun p => U.int (one_ p j)) := lst_obj app_at
    rw [evS_ins (S1 := S1 ++ [SO.lst ((List.range n).map fun p => U.int (one_ p j))]) (S2 := S1 ++ [SO.lst ((List.range n).map fun p => U.int (one_ p j))]) (S3 := S1 ++ [SO.lst ((List.range n).map fun p => U.int (one_ p j))]) (q := S1.length) (n := k) (w := .int 0) (us := (List.range n).map fun p => .int (one_ p j)) (by simp [ev]) l0 (by simp [ev]) (by simp [ev]) app_at (by omega) (by simp; omega), app_set, ins_rng hk, e5]
  have f5 : (S1 ++ [SO.lst ((List.range (n + 1)).map fun b => .int (if b = k then 0 else one_ (pre k b) j))])[S.length]? = some (.lst ((List.range n).map fun p => rowU (rw_ (n + 1) (prow w i j k p)))) := Ke.at_ Ke.app f3
  have e6 : (List.range (n + 1)).map (fun a => if a = k then rowU (rw_ (n + 1) fun b => if b = k then 0 else one_ (pre k b) j) else rowU (rw_ (n + 1) (prow w i j k (pre k a)))) = (List.range (n + 1)).map fun a => rowU (rw_ (n + 1) (putF w i j k a)) := by
    refine rng_congr fun a ha => ?_
    by_cases q : a = k
    · rw [if_pos q]
      refine congrArg rowU (rng_congr fun b hb => ?_)
      show _ = putF w i j k a b
      unfold putF
      rw [if_pos q]
    · rw [if_neg q]
      refine congrArg rowU (rng_congr fun b hb => ?_)
      show prow w i j k (pre k a) b = putF w i j k a b
      unfold putF prow
      rw [if_neg q]
  have st6 : evS T10 FU (.ins (.var 5) (.var 3) (.bi .tuple (.cons (.var 8) .nil))) [some (webU (mat n w)), some (.int i), some (.int j), some (.int k), some (.int n), some (.obj S.length), x', y', some (.obj S1.length)] (S1 ++ [SO.lst ((List.range (n + 1)).map fun b => .int (if b = k then 0 else one_ (pre k b) j))]) =
      .nx [some (webU (mat n w)), some (.int i), some (.int j), some (.int k), some (.int n), some (.obj S.length), x', y', some (.obj S1.length)] ((S1 ++ [SO.lst ((List.range (n + 1)).map fun b => .int (if b = k then 0 else one_ (pre k b) j))]).set S.length (SO.lst ((List.range (n + 1)).map fun a => rowU (rw_ (n + 1) (putF w i j k a))))) := by
    have l0 : lstOf (S1 ++ [SO.lst ((List.range (n + 1)).map fun b => U.int (if b = k then 0 else one_ (pre k b) j))]) (.obj S.length) = some ((List.range n).map fun p => rowU (rw_ (n + 1) (prow w i j k p))) := lst_obj f5
    have l3 : ev T10 (.bi .tuple (.cons (.var 8) .nil)) [some (webU (mat n w)), some (.int i), some (.int j), some (.int k), some (.int n), some (.obj S.length), x', y', some (.obj S1.length)] (S1 ++ [SO.lst ((List.range (n + 1)).map fun b => U.int (if b = k then 0 else one_ (pre k b) j))]) = .ok (rowU (rw_ (n + 1) fun b => if b = k then 0 else one_ (pre k b) j)) (S1 ++ [SO.lst ((List.range (n + 1)).map fun b => U.int (if b = k then 0 else one_ (pre k b) j))]) := by
      simp only [evSs, evS, ev, evs, evB, evO, evN_lst, evN_listOf, evN_cat, evI, Res.bind, Res.toS, SR.andThen, ofO, ofS, asgT, asgTs, List.getElem?_cons_zero, List.getElem?_cons_succ, List.set_cons_zero, List.set_cons_succ, Option.map_some, Option.map_none, Option.bind_some, Option.bind_none, List.length_cons, List.length_nil, if_true, if_false, SR.res, Bool.not_true, Bool.not_false, Bool.false_eq_true, wipeR, List.map_cons, List.map_nil, cmp_eqI, cmp_neI, cmpS_eq, cmpS_ne, cmpI_lt, cmpI_le, cmpI_gt, cmpI_ge, Bool.not_eq_true, decide_true, decide_false, bi_tuple_obj app_at]
      rw [rowU_rw]
    rw [evS_ins (S1 := (S1 ++ [SO.lst ((List.range (n + 1)).map fun b => U.int (if b = k then 0 else one_ (pre k b) j))])) (S2 := (S1 ++ [SO.lst ((List.range (n + 1)).map fun b => U.int (if b = k then 0 else one_ (pre k b) j))])) (S3 := (S1 ++ [SO.lst ((List.range (n + 1)).map fun b => U.int (if b = k then 0 else one_ (pre k b) j))])) (q := S.length) (n := k) (us := (List.range n).map fun p => rowU (rw_ (n + 1) (prow w i j k p))) (by simp [ev]) l0 (by simp [ev]) l3 f5 (by omega) (by simp; omega), ins_rng hk, e6]
  have f6 : ((S1 ++ [SO.lst ((List.range (n + 1)).map fun b => .int (if b = k then 0 else one_ (pre k b) j))]).set S.length (SO.lst ((List.range (n + 1)).map fun a => rowU (rw_ (n + 1) (putF w i j k a)))))[S.length]? = some (.lst ((List.range (n + 1)).map fun a => rowU (rw_ (n + 1) (putF w i j k a)))) := List.getElem?_set_self (by simp; omega)
  refine ⟨(S1 ++ [SO.lst ((List.range (n + 1)).map fun b => U.int (if b = k then 0 else one_ (pre k b) j))]).set S.length (SO.lst ((List.range (n + 1)).map fun a => rowU (rw_ (n + 1) (putF w i j k a)))), ?_, Ke.set k1.to (Nat.le_refl _)⟩
  unfold c_put_in
  simp only [hN, List.replicate, List.cons_append, List.nil_append]
  rw [evSs, st1, then_nx, evSs, st2, then_nx, evSs, st3, then_nx, evSs, st4, then_nx, evSs, st5, then_nx, evSs, st6, then_nx, evSs]
  simp only [evSs, evS, ev, evs, evB, evO, evN_lst, evN_listOf, evN_cat, evI, Res.bind, Res.toS, SR.andThen, ofO, ofS, asgT, asgTs, List.getElem?_cons_zero, List.getElem?_cons_succ, List.set_cons_zero, List.set_cons_succ, Option.map_some, Option.map_none, Option.bind_some, Option.bind_none, List.length_cons, List.length_nil, if_true, if_false, SR.res, Bool.not_true, Bool.not_false, Bool.false_eq_true, wipeR, List.map_cons, List.map_nil, cmp_eqI, cmp_neI, cmpS_eq, cmpS_ne, cmpI_lt, cmpI_le, cmpI_gt, cmpI_ge, Bool.not_eq_true, decide_true, decide_false, bi_tuple_obj f6]
  rw [webU_mat]
end
end K

set_option Elab.async false
set_option linter.all false
set_option maxRecDepth 100000
set_option maxHeartbeats 1600000
set_option exponentiation.threshold 500
namespace K
open PySem PySem.Spec PyProof.Rows L2 Z
theorem so_lead : PyData.strOk "lead" = true := by decide +kernel
theorem so_put : PyData.strOk "put" = true := by decide +kernel
def deedU (x : Str) (a b c : Int) : U := .tup [.str x, .int a, .int b, .int c]
theorem deed_nil {S : Sto} {x : Str} {a b c : Int} (hx : PyData.strOk x = true) : cmpE S .eq (.tup [.str x, .int a, .int b, .int c]) (.tup []) = some false := by
  simp [cmpE, dat, datA, SeqAt.shaped, PyData.canLay0, PyData.canLayAll0, PyData.depth, PyData.depthAll, PyData.eqv, PyData.eqvAll, hx]
theorem gl_words : T11.gl "WORDS" = some (.tup [.str "lead", .str "bring", .str "unlead", .str "unbring"]) := by kernel_rfl
theorem gl_most_d : T11.gl "MOST_PLACES_deeds" = some (.int 8) := by kernel_rfl
theorem in_lead {S : Sto} : cmpE S .inn (.str "lead") (.tup [.str "lead", .str "bring", .str "unlead", .str "unbring"]) = some true := by kernel_rfl
theorem in_put {S : Sto} : cmpE S .inn (.str "put") (.tup [.str "lead", .str "bring", .str "unlead", .str "unbring"]) = some false := by kernel_rfl
theorem cut1 {a b c d : U} : cutU [a, b, c, d] (some 1) none = [b, c, d] := by rfl
theorem sl1 {S : Sto} {a b c d : U} : slE S (.tup [a, b, c, d]) (some 1) none = some (.tup [b, c, d]) := by kernel_rfl
theorem ix0' {S : Sto} {a b c d : U} : idxE S (.tup [a, b, c, d]) (.int 0) = some a := id rfl
theorem e_behind_lead {n i j : Nat} {w : Nat → Nat → Int} {t : Int} {S : Sto} (hn : n ≤ 8) (hi : i < n) (hj : j < n) (hij : i ≠ j) (ht : 1 ≤ t) (hm : MulOk n w t) :
    f_behind [webU (mat n w), .tup [.str "lead", .int i, .int j, .int t]] S = .ok (ledU n w i j t) S := by
  rw [b_behind, r_behind]
  have hN : N_behind.length - 2 = 5 := rfl
  have e1 : ¬ ((i : Int) = (j : Int)) := by omega
  simp [evSs, evS, ev, evs, evB, evO, evN_lst, evN_listOf, evN_cat, evI, Res.bind, Res.toS, SR.andThen, ofO, ofS, asgT, asgTs, List.getElem?_cons_zero, List.getElem?_cons_succ, List.set_cons_zero, List.set_cons_succ, Option.map_some, Option.map_none, Option.bind_some, Option.bind_none, List.length_cons, List.length_nil, if_true, if_false, SR.res, Bool.not_true, Bool.not_false, Bool.false_eq_true, wipeR, List.map_cons, List.map_nil, cmp_eqI, cmp_neI, cmpS_eq, cmpS_ne, cmpI_lt, cmpI_le, cmpI_gt, cmpI_ge, Bool.not_eq_true, decide_true, decide_false, c_behind, hN, List.replicate, isiE, tyE, isiT, deed_nil so_lead, ix0', gl_words, in_lead, bi_len_tup, sl1, d_behind__is_pair, t_behind__is_pair, e_is_pair, hi, hj, e1, d_behind__is_from, t_behind__is_from, e_is_from, no_int, fromB, ht, d_behind__turned_over, t_behind__turned_over, e_turned_lead hn hi hj hm]
theorem e_behind_put {n i j k : Nat} {w : Nat → Nat → Int} {S : Sto} (hn : n < 8) (hi : i < n) (hj : j < n) (hk : k ≤ n) (hw : 0 < w i j) :
    ∃ S', f_behind [webU (mat n w), .tup [.str "put", .int i, .int j, .int k]] S = .ok (webU (mat (n + 1) (putF w i j k))) S' ∧ Ke S S' := by
  rw [b_behind, r_behind]
  have hN : N_behind.length - 2 = 5 := rfl
  have h0 : decide ((0 : Int) ≤ (k : Int)) = true := by simp
  have h1 : decide ((n : Int) < (k : Int)) = false := by simp; omega
  have h2 : decide ((n : Int) = 8) = false := by simp; omega
  have h3 : decide (i < n) = true := by simp [hi]
  have h4 : decide (j < n) = true := by simp [hj]
  have h5 : decide (0 < w i j) = true := by simp [hw]
  have h6 : cmpE S .eq (.str "put") (.str "put") = some true := by kernel_rfl
  have z0 : (0 : Nat) ≤ sizeLine := Nat.zero_le _
  obtain ⟨S', e, ke⟩ := e_put_in (n := n) (i := i) (j := j) (k := k) (w := w) (S := S) (by omega) hj hk
  refine ⟨S', ?_, ke⟩
  simp only [hN, List.replicate, List.cons_append, List.nil_append]
  have st0 : evS T11 FU c_behind_s0 [some (webU (mat n w)), some (.tup [.str "put", .int i, .int j, .int k]), none, none, none, none, none] S = .nx [some (webU (mat n w)), some (.tup [.str "put", .int i, .int j, .int k]), none, none, none, none, none] S := by
    simp [evSs, evS, ev, evs, evB, evO, evN_lst, evN_listOf, evN_cat, evI, Res.bind, Res.toS, SR.andThen, ofO, ofS, asgT, asgTs, List.getElem?_cons_zero, List.getElem?_cons_succ, List.set_cons_zero, List.set_cons_succ, Option.map_some, Option.map_none, Option.bind_some, Option.bind_none, List.length_cons, List.length_nil, if_true, if_false, SR.res, Bool.not_true, Bool.not_false, Bool.false_eq_true, wipeR, List.map_cons, List.map_nil, cmp_eqI, cmp_neI, cmpS_eq, cmpS_ne, cmpI_lt, cmpI_le, cmpI_gt, cmpI_ge, Bool.not_eq_true, decide_true, decide_false, c_behind_s0, isiE, tyE, isiT, deed_nil so_put, ix0']
  have st1 : evS T11 FU c_behind_s1 [some (webU (mat n w)), some (.tup [.str "put", .int i, .int j, .int k]), none, none, none, none, none] S = .nx [some (webU (mat n w)), some (.tup [.str "put", .int i, .int j, .int k]), some (.str "put"), none, none, none, none] S := by
    simp only [evSs, evS, ev, evs, evB, evO, evN_lst, evN_listOf, evN_cat, evI, Res.bind, Res.toS, SR.andThen, ofO, ofS, asgT, asgTs, List.getElem?_cons_zero, List.getElem?_cons_succ, List.set_cons_zero, List.set_cons_succ, Option.map_some, Option.map_none, Option.bind_some, Option.bind_none, List.length_cons, List.length_nil, if_true, if_false, SR.res, Bool.not_true, Bool.not_false, Bool.false_eq_true, wipeR, List.map_cons, List.map_nil, cmp_eqI, cmp_neI, cmpS_eq, cmpS_ne, cmpI_lt, cmpI_le, cmpI_gt, cmpI_ge, Bool.not_eq_true, decide_true, decide_false, c_behind_s1, ix0']
  have st2 : evS T11 FU c_behind_s2 [some (webU (mat n w)), some (.tup [.str "put", .int i, .int j, .int k]), some (.str "put"), none, none, none, none] S = .nx [some (webU (mat n w)), some (.tup [.str "put", .int i, .int j, .int k]), some (.str "put"), none, none, none, none] S := by
    simp only [evSs, evS, ev, evs, evB, evO, evN_lst, evN_listOf, evN_cat, evI, Res.bind, Res.toS, SR.andThen, ofO, ofS, asgT, asgTs, List.getElem?_cons_zero, List.getElem?_cons_succ, List.set_cons_zero, List.set_cons_succ, Option.map_some, Option.map_none, Option.bind_some, Option.bind_none, List.length_cons, List.length_nil, if_true, if_false, SR.res, Bool.not_true, Bool.not_false, Bool.false_eq_true, wipeR, List.map_cons, List.map_nil, cmp_eqI, cmp_neI, cmpS_eq, cmpS_ne, cmpI_lt, cmpI_le, cmpI_gt, cmpI_ge, Bool.not_eq_true, decide_true, decide_false, c_behind_s2, gl_words, in_put]
  have st3 : evS T11 FU c_behind_s3 [some (webU (mat n w)), some (.tup [.str "put", .int i, .int j, .int k]), some (.str "put"), none, none, none, none] S = .rt (webU (mat (n + 1) (putF w i j k))) S' := by
    have t1 : ev T11 (.bop true (.cons (.cmp .eq (.var 2) (.str "put")) (.cons (.cmp .eq (.bi .len (.cons (.var 1) .nil)) (.int 4)) .nil))) [some (webU (mat n w)), some (.tup [.str "put", .int i, .int j, .int k]), some (.str "put"), none, none, none, none] S = .ok (.bl true) S := by
      simp [evSs, evS, ev, evs, evB, evO, evN_lst, evN_listOf, evN_cat, evI, Res.bind, Res.toS, SR.andThen, ofO, ofS, asgT, asgTs, List.getElem?_cons_zero, List.getElem?_cons_succ, List.set_cons_zero, List.set_cons_succ, Option.map_some, Option.map_none, Option.bind_some, Option.bind_none, List.length_cons, List.length_nil, if_true, if_false, SR.res, Bool.not_true, Bool.not_false, Bool.false_eq_true, wipeR, List.map_cons, List.map_nil, cmp_eqI, cmp_neI, cmpS_eq, cmpS_ne, cmpI_lt, cmpI_le, cmpI_gt, cmpI_ge, Bool.not_eq_true, decide_true, decide_false, bi_len_tup]
    have t2 : evS T11 FU (.asg (.tup (.cons (.name 3) (.cons (.name 4) (.cons (.name 6) .nil)))) (.sl (.var 1) (.cons (.int 1) .nil) .nil)) [some (webU (mat n w)), some (.tup [.str "put", .int i, .int j, .int k]), some (.str "put"), none, none, none, none] S = .nx [some (webU (mat n w)), some (.tup [.str "put", .int i, .int j, .int k]), some (.str "put"), some (.int i), some (.int j), none, some (.int k)] S := by
      simp only [evSs, evS, ev, evs, evB, evO, evN_lst, evN_listOf, evN_cat, evI, Res.bind, Res.toS, SR.andThen, ofO, ofS, asgT, asgTs, List.getElem?_cons_zero, List.getElem?_cons_succ, List.set_cons_zero, List.set_cons_succ, Option.map_some, Option.map_none, Option.bind_some, Option.bind_none, List.length_cons, List.length_nil, if_true, if_false, SR.res, Bool.not_true, Bool.not_false, Bool.false_eq_true, wipeR, List.map_cons, List.map_nil, cmp_eqI, cmp_neI, cmpS_eq, cmpS_ne, cmpI_lt, cmpI_le, cmpI_gt, cmpI_ge, Bool.not_eq_true, decide_true, decide_false, sl1]
    have t3 : ev T11 (.bop false (.cons (.not (.call "is_pair" (.cons (.var 0) (.cons (.var 3) (.cons (.var 4) .nil))))) (.cons (.not (.call "is_from" (.cons (.var 6) (.cons (.int 0) .nil)))) (.cons (.cmp .gt (.var 6) (.bi .len (.cons (.var 0) .nil))) (.cons (.cmp .eq (.bi .len (.cons (.var 0) .nil)) (.glob "MOST_PLACES_deeds")) .nil))))) [some (webU (mat n w)), some (.tup [.str "put", .int i, .int j, .int k]), some (.str "put"), some (.int i), some (.int j), none, some (.int k)] S = .ok (.bl false) S := by
      simp only [evSs, evS, ev, evs, evB, evO, evN_lst, evN_listOf, evN_cat, evI, Res.bind, Res.toS, SR.andThen, ofO, ofS, asgT, asgTs, List.getElem?_cons_zero, List.getElem?_cons_succ, List.set_cons_zero, List.set_cons_succ, Option.map_some, Option.map_none, Option.bind_some, Option.bind_none, List.length_cons, List.length_nil, if_true, if_false, SR.res, Bool.not_true, Bool.not_false, Bool.false_eq_true, wipeR, List.map_cons, List.map_nil, cmp_eqI, cmp_neI, cmpS_eq, cmpS_ne, cmpI_lt, cmpI_le, cmpI_gt, cmpI_ge, Bool.not_eq_true, decide_true, decide_false, d_behind__is_pair, t_behind__is_pair, e_is_pair, h3, h4, Bool.and_self, d_behind__is_from, t_behind__is_from, e_is_from no_int, fromB, h0, h1, h2, len_mat, gl_most_d]
    have t4 : evS T11 FU (.ret (.ite (.cmp .gt (.idx (.idx (.var 0) (.var 3)) (.var 4)) (.int 0)) (.call "put_in" (.cons (.var 0) (.cons (.var 3) (.cons (.var 4) (.cons (.var 6) .nil))))) .non)) [some (webU (mat n w)), some (.tup [.str "put", .int i, .int j, .int k]), some (.str "put"), some (.int i), some (.int j), none, some (.int k)] S = .rt (webU (mat (n + 1) (putF w i j k))) S' := by
      have q1 : ev T11 (.cmp .gt (.idx (.idx (.var 0) (.var 3)) (.var 4)) (.int 0)) [some (webU (mat n w)), some (.tup [.str "put", .int i, .int j, .int k]), some (.str "put"), some (.int i), some (.int j), none, some (.int k)] S = .ok (.bl true) S := by
        simp only [evSs, evS, ev, evs, evB, evO, evN_lst, evN_listOf, evN_cat, evI, Res.bind, Res.toS, SR.andThen, ofO, ofS, asgT, asgTs, List.getElem?_cons_zero, List.getElem?_cons_succ, List.set_cons_zero, List.set_cons_succ, Option.map_some, Option.map_none, Option.bind_some, Option.bind_none, List.length_cons, List.length_nil, if_true, if_false, SR.res, Bool.not_true, Bool.not_false, Bool.false_eq_true, wipeR, List.map_cons, List.map_nil, cmp_eqI, cmp_neI, cmpS_eq, cmpS_ne, cmpI_lt, cmpI_le, cmpI_gt, cmpI_ge, Bool.not_eq_true, decide_true, decide_false, idx_row hi, idx_num hj, h5]
      have q2 : evs T11 (.cons (.var 0) (.cons (.var 3) (.cons (.var 4) (.cons (.var 6) .nil)))) [some (webU (mat n w)), some (.tup [.str "put", .int i, .int j, .int k]), some (.str "put"), some (.int i), some (.int j), none, some (.int k)] S = .ok [webU (mat n w), .int i, .int j, .int k] S := by
        simp only [evSs, evS, ev, evs, evB, evO, evN_lst, evN_listOf, evN_cat, evI, Res.bind, Res.toS, SR.andThen, ofO, ofS, asgT, asgTs, List.getElem?_cons_zero, List.getElem?_cons_succ, List.set_cons_zero, List.set_cons_succ, Option.map_some, Option.map_none, Option.bind_some, Option.bind_none, List.length_cons, List.length_nil, if_true, if_false, SR.res, Bool.not_true, Bool.not_false, Bool.false_eq_true, wipeR, List.map_cons, List.map_nil, cmp_eqI, cmp_neI, cmpS_eq, cmpS_ne, cmpI_lt, cmpI_le, cmpI_gt, cmpI_ge, Bool.not_eq_true, decide_true, decide_false]
      exact evS_ret ((ev_iteT q1).trans ((ev_callF d_behind__put_in t_behind__put_in q2).trans e))
    unfold c_behind_s3
    rw [evS, t1]
    simp only [Res.toS]
    rw [evSs, t2, then_nx, evSs, evS, t3]
    simp only [Res.toS]
    rw [evSs, then_nx, evSs, t4, then_rt]
  rw [x_behind, evSs, st0, then_nx, evSs, st1, then_nx, evSs, st2, then_nx, evSs, st3, then_rt, SR.res]
end K

set_option Elab.async false
set_option linter.all false
set_option maxRecDepth 100000
set_option maxHeartbeats 1600000
set_option exponentiation.threshold 500
namespace K
open PySem PySem.Spec PyProof.Rows L2 Z
/-! ### the bench -/
def BenchAt (S : Sto) (b l : Nat) (now : U) (logs : List U) : Prop := S[b]? = some (.ins "Bench" [("now", now), ("log", .obj l)]) ∧ S[l]? = some (.lst logs) ∧ b ≠ l
theorem fb_now : T13.fldB "Bench" "now" = true := by decide +kernel
theorem fb_log : T13.fldB "Bench" "log" = true := by decide +kernel
theorem BenchAt.ke {S S' : Sto} {b l : Nat} {now : U} {logs : List U} (x : BenchAt S b l now logs) (k : Ke S S') : BenchAt S' b l now logs := ⟨k.at_ x.1, k.at_ x.2.1, x.2.2⟩
theorem lk_now {now l : U} : List.lookup (Str.ofString "now") [("now", now), ("log", l)] = some now := by rfl
theorem lk_log {now l : U} : List.lookup (Str.ofString "log") [("now", now), ("log", l)] = some l := by rfl
theorem pu_now {now w l : U} : putU (Str.ofString "now") w [(Str.ofString "now", now), (Str.ofString "log", l)] = [(Str.ofString "now", w), (Str.ofString "log", l)] := by rfl
theorem ev_fld {T : Th} {C f : Str} {o : CE} {ρ : Rho} {S S1 : Sto} {k : Nat} {fs : List (Str × U)} {u : U} (h : ev T o ρ S = .ok (.obj k) S1) (h1 : S1[k]? = some (.ins C fs)) (h2 : T.fldB C f = true) (h3 : fs.lookup f = some u) : ev T (.fld C f o) ρ S = .ok u S1 := by
  rw [ev, h]
  simp only [Res.bind, h1]
  rw [if_pos ⟨trivial, h2⟩, h3]; rfl
theorem evS_setF {T : Th} {F : Nat} {C f : Str} {o e : CE} {ρ : Rho} {S S1 S2 : Sto} {k : Nat} {fs : List (Str × U)} {u : U} (h0 : ev T e ρ S = .ok u S1) (h : ev T o ρ S1 = .ok (.obj k) S2) (h1 : S2[k]? = some (.ins C fs)) (h2 : T.fldB C f = true) (h3 : fs.length ≤ 100) : evS T F (.setF C f o e) ρ S = .nx ρ (S2.set k (.ins C (putU f u fs))) := by
  rw [evS, h0]
  simp only [Res.toS, h, h1]
  rw [if_pos ⟨trivial, h2, by omega⟩]
theorem evS_app {T : Th} {F : Nat} {o e : CE} {ρ : Rho} {S S1 S2 : Sto} {k : Nat} {us us0 : List U} {u : U} (h : ev T o ρ S = .ok (.obj k) S1) (h0 : lstOf S1 (.obj k) = some us0) (h2 : ev T e ρ S1 = .ok u S2) (h1 : S2[k]? = some (.lst us)) (h3 : us.length ≤ 1000) : evS T F (.app o e) ρ S = .nx ρ (S2.set k (.lst (us ++ [u]))) := by
  have hs : (lstOf S1 (.obj k)).isSome = true := by rw [h0]; rfl
  rw [evS, h]
  simp only [Res.toS]
  rw [if_pos hs, h2]
  simp only [h1]
  rw [if_pos (Nat.lt_of_lt_of_le (by omega : us.length < 1001) (sz_of (by omega)))]
theorem e_do {S S1 : Sto} {b l : Nat} {now now' : U} {logs ps : List U} {x : Str} (B : BenchAt S b l now logs) (hb : f_behind [now, .tup (.str x :: ps)] S = .ok now' S1) (ke : Ke S S1) (hl : logs.length ≤ 1000) (hp : ps.length ≤ 100) :
    ∃ S', f_Bench__do [.obj b, .str x, .tup ps] S = .ok .non S' ∧ BenchAt S' b l now' (logs ++ [.tup (.str x :: ps)]) ∧ ∀ S0, Ke S0 S → S0.length ≤ b → S0.length ≤ l → Ke S0 S' := by
  rw [b_Bench__do, r_Bench__do]
  have hN : N_Bench__do.length - 3 = 1 := rfl
  simp only [hN, List.replicate, List.cons_append, List.nil_append]
  have bl : b < S.length := (List.getElem?_eq_some_iff.mp B.1).1
  have ll : l < S.length := (List.getElem?_eq_some_iff.mp B.2.1).1
  have B1 := B.ke ke
  have e0 : binE S .add (.tup [.str x]) (.tup ps) = some (.tup (.str x :: ps)) := add_tups (by simp; omega)
  have z1 : (1 : Nat) ≤ sizeLine := sz_of (by omega)
  have st0 : evS T13 FU c_Bench__do_s0 [some (.obj b), some (.str x), some (.tup ps), none] S = .nx [some (.obj b), some (.str x), some (.tup ps), some (.tup (.str x :: ps))] S := by
    simp only [evSs, evS, ev, evs, evB, evO, evN_lst, evN_listOf, evN_cat, evI, Res.bind, Res.toS, SR.andThen, ofO, ofS, asgT, asgTs, List.getElem?_cons_zero, List.getElem?_cons_succ, List.set_cons_zero, List.set_cons_succ, Option.map_some, Option.map_none, Option.bind_some, Option.bind_none, List.length_cons, List.length_nil, if_true, if_false, SR.res, Bool.not_true, Bool.not_false, Bool.false_eq_true, wipeR, List.map_cons, List.map_nil, cmp_eqI, cmp_neI, cmpS_eq, cmpS_ne, cmpI_lt, cmpI_le, cmpI_gt, cmpI_ge, Bool.not_eq_true, decide_true, decide_false, c_Bench__do_s0, Nat.zero_add, z1, e0]
  have f1 : ev T13 (.fld "Bench" "now" (.var 0)) [some (.obj b), some (.str x), some (.tup ps), some (.tup (.str x :: ps))] S = .ok now S := ev_fld (by simp [ev]) B.1 fb_now lk_now
  have c1 : ev T13 (.call "behind" (.cons (.fld "Bench" "now" (.var 0)) (.cons (.var 3) .nil))) [some (.obj b), some (.str x), some (.tup ps), some (.tup (.str x :: ps))] S = .ok now' S1 :=
    (ev_callF d_Bench__do__behind t_Bench__do__behind (us := [now, .tup (.str x :: ps)]) (S1 := S) (by rw [evs, f1]; simp [evs, ev, Res.bind])).trans hb
  have st1 : evS T13 FU c_Bench__do_s1 [some (.obj b), some (.str x), some (.tup ps), some (.tup (.str x :: ps))] S = .nx [some (.obj b), some (.str x), some (.tup ps), some (.tup (.str x :: ps))] (S1.set b (.ins "Bench" [("now", now'), ("log", .obj l)])) :=
    (evS_setF c1 (by simp [ev]) B1.1 fb_now (by simp)).trans (by rw [pu_now])
  have g0 : (S1.set b (.ins "Bench" [("now", now'), ("log", .obj l)]))[b]? = some (.ins "Bench" [("now", now'), ("log", .obj l)]) := List.getElem?_set_self (Nat.lt_of_lt_of_le bl ke.1)
  have g1 : (S1.set b (.ins "Bench" [("now", now'), ("log", .obj l)]))[l]? = some (.lst logs) := by rw [List.getElem?_set_ne B.2.2]; exact B1.2.1
  have f2 : ev T13 (.fld "Bench" "log" (.var 0)) [some (.obj b), some (.str x), some (.tup ps), some (.tup (.str x :: ps))] (S1.set b (.ins "Bench" [("now", now'), ("log", .obj l)])) = .ok (.obj l) (S1.set b (.ins "Bench" [("now", now'), ("log", .obj l)])) := ev_fld (by simp [ev]) g0 fb_log lk_log
  have st2 : evS T13 FU c_Bench__do_s2 [some (.obj b), some (.str x), some (.tup ps), some (.tup (.str x :: ps))] (S1.set b (.ins "Bench" [("now", now'), ("log", .obj l)])) = .nx [some (.obj b), some (.str x), some (.tup ps), some (.tup (.str x :: ps))] ((S1.set b (.ins "Bench" [("now", now'), ("log", .obj l)])).set l (.lst (logs ++ [.tup (.str x :: ps)]))) :=
    evS_app f2 (lst_obj g1) (by simp [ev]) g1 hl
  refine ⟨(S1.set b (.ins "Bench" [("now", now'), ("log", .obj l)])).set l (.lst (logs ++ [.tup (.str x :: ps)])), ?_, ⟨?_, ?_, B.2.2⟩, fun S0 k0 k1 k2 => Ke.set (Ke.set (k0.trans ke) k1) k2⟩
  · rw [x_Bench__do, evSs_cons st0, evSs_cons st1, evSs_cons st2, evSs_nil, SR.res]
  · rw [List.getElem?_set_ne (Ne.symm B.2.2)]; exact g0
  · exact List.getElem?_set_self (by rw [List.length_set]; exact Nat.lt_of_lt_of_le ll ke.1)
end K

set_option Elab.async false
set_option linter.all false
set_option maxRecDepth 100000
set_option maxHeartbeats 1600000
set_option exponentiation.threshold 500
namespace K
open PySem PySem.Spec PyProof.Rows L2 Z
theorem fi_now : T12.fldB "Bench" "now" = true := by decide +kernel
theorem fi_log : T12.fldB "Bench" "log" = true := by decide +kernel
theorem e_init {S : Sto} {b : Nat} {now : U} (h : S[b]? = some (.ins "Bench" [])) : ∃ S', f_Bench____init__ [.obj b, now] S = .ok .non S' ∧ BenchAt S' b S.length now [] ∧ ∀ S0, Ke S0 S → S0.length ≤ b → Ke S0 S' := by
  rw [b_Bench____init__, r_Bench____init__]
  have hN : N_Bench____init__.length - 2 = 0 := rfl
  simp only [hN, List.replicate, List.append_nil]
  have bl : b < S.length := (List.getElem?_eq_some_iff.mp h).1
  have st0 : evS T12 FU c_Bench____init___s0 [some (.obj b), some now] S = .nx [some (.obj b), some now] (S.set b (.ins "Bench" [("now", now)])) :=
    (evS_setF (u := now) (S1 := S) (S2 := S) (by simp [ev]) (by simp [ev]) h fi_now (by simp)).trans rfl
  have g0 : (S.set b (.ins "Bench" [("now", now)]) ++ [SO.lst []])[b]? = some (.ins "Bench" [("now", now)]) := Ke.at_ Ke.app (List.getElem?_set_self bl)
  have z0 : (0 : Nat) ≤ sizeLine := Nat.zero_le _
  have m0 : ev T12 (.mk (.lst .nil)) [some (.obj b), some now] (S.set b (.ins "Bench" [("now", now)])) = .ok (.obj (S.set b (.ins "Bench" [("now", now)])).length) (S.set b (.ins "Bench" [("now", now)]) ++ [SO.lst []]) := by simp only [evSs, evS, ev, evs, evB, evO, evN_lst, evN_listOf, evN_cat, evI, Res.bind, Res.toS, SR.andThen, ofO, ofS, asgT, asgTs, List.getElem?_cons_zero, List.getElem?_cons_succ, List.set_cons_zero, List.set_cons_succ, Option.map_some, Option.map_none, Option.bind_some, Option.bind_none, List.length_cons, List.length_nil, if_true, if_false, SR.res, Bool.not_true, Bool.not_false, Bool.false_eq_true, wipeR, List.map_cons, List.map_nil, cmp_eqI, cmp_neI, cmpS_eq, cmpS_ne, cmpI_lt, cmpI_le, cmpI_gt, cmpI_ge, Bool.not_eq_true, decide_true, decide_false, z0]
  have L : (S.set b (.ins "Bench" [("now", now)])).length = S.length := List.length_set
  have st1 : evS T12 FU c_Bench____init___s1 [some (.obj b), some now] (S.set b (.ins "Bench" [("now", now)])) = .nx [some (.obj b), some now] ((S.set b (.ins "Bench" [("now", now)]) ++ [SO.lst []]).set b (.ins "Bench" [("now", now), ("log", .obj S.length)])) := by
    rw [L] at m0
    exact (evS_setF m0 (by simp [ev]) g0 fi_log (by simp)).trans rfl
  refine ⟨_, by rw [x_Bench____init__, evSs_cons st0, evSs_cons st1, evSs_nil, SR.res], ⟨List.getElem?_set_self (by simp; omega), ?_, by omega⟩, fun S0 k0 k1 => Ke.set (Ke.to (Ke.set k0 k1)) k1⟩
  rw [List.getElem?_set_ne (by omega), List.getElem?_append_right (by simp), L, Nat.sub_self]; rfl
/-! ### need_full -/
theorem e_need_full {n : Nat} {w : Nat → Nat → Int} {S : Sto} (h : MOk n w) (f : fullB n w = true) : f_need_full [webU (mat n w)] S = .ok .non S := by
  rw [b_need_full, r_need_full]
  have e1 := fun S => e_need_web (S := S) h.web
  have e2 := fun S => e_is_full_by (n := n) (w := w) (S := S) h.pos h.le
  have hN : N_need_full.length - 1 = 0 := rfl
  simp only [evSs, evS, ev, evs, evB, evO, evN_lst, evN_listOf, evN_cat, evI, Res.bind, Res.toS, SR.andThen, ofO, ofS, asgT, asgTs, List.getElem?_cons_zero, List.getElem?_cons_succ, List.set_cons_zero, List.set_cons_succ, Option.map_some, Option.map_none, Option.bind_some, Option.bind_none, List.length_cons, List.length_nil, if_true, if_false, SR.res, Bool.not_true, Bool.not_false, Bool.false_eq_true, wipeR, List.map_cons, List.map_nil, cmp_eqI, cmp_neI, cmpS_eq, cmpS_ne, cmpI_lt, cmpI_le, cmpI_gt, cmpI_ge, Bool.not_eq_true, decide_true, decide_false, c_need_full, hN, List.replicate, List.append_nil, d_need_full__need_web, t_need_full__need_web, d_need_full__is_full_by, t_need_full__is_full_by, e1, e2, f]
theorem x_full : T15.excB "NotFull" = true := by decide +kernel
theorem e_need_full_no {n : Nat} {w : Nat → Nat → Int} {S : Sto} (h : MOk n w) (f : fullB n w = false) : f_need_full [webU (mat n w)] S = .ex ("NotFull", none) S := by
  rw [b_need_full, r_need_full]
  have e1 := fun S => e_need_web (S := S) h.web
  have e2 := fun S => e_is_full_by (n := n) (w := w) (S := S) h.pos h.le
  have hN : N_need_full.length - 1 = 0 := rfl
  simp only [evSs, evS, ev, evs, evB, evO, evN_lst, evN_listOf, evN_cat, evI, Res.bind, Res.toS, SR.andThen, ofO, ofS, asgT, asgTs, List.getElem?_cons_zero, List.getElem?_cons_succ, List.set_cons_zero, List.set_cons_succ, Option.map_some, Option.map_none, Option.bind_some, Option.bind_none, List.length_cons, List.length_nil, if_true, if_false, SR.res, Bool.not_true, Bool.not_false, Bool.false_eq_true, wipeR, List.map_cons, List.map_nil, cmp_eqI, cmp_neI, cmpS_eq, cmpS_ne, cmpI_lt, cmpI_le, cmpI_gt, cmpI_ge, Bool.not_eq_true, decide_true, decide_false, c_need_full, hN, List.replicate, List.append_nil, d_need_full__need_web, t_need_full__need_web, d_need_full__is_full_by, t_need_full__is_full_by, e1, e2, f, x_full]
end K

set_option Elab.async false
set_option linter.all false
set_option maxRecDepth 100000
set_option maxHeartbeats 1600000
set_option exponentiation.threshold 500
namespace K
open PySem PySem.Spec PyProof.Rows L2 Z
/-! ### one place more, plainly -/
section
variable (n : Nat) (w : Nat → Nat → Int)
def w1 : Nat → Nat → Int := putF w 0 0 n
def w2 : Nat → Nat → Int := ledF (w1 n w) n 0 2
def wL (p : Nat) : Nat → Nat → Int := fun a b => if 1 ≤ a ∧ a ≤ p then w1 n w a b + 1 * (w1 n w 0 b - one_ b 0) else w2 n w a b
def w4 : Nat → Nat → Int := ledF (wL n w (n - 1)) 0 n 1
end
section
variable {n : Nat} {w : Nat → Nat → Int}
theorem one_01 (a b : Nat) : 0 ≤ one_ a b ∧ one_ a b ≤ 1 := by unfold one_; split <;> omega
theorem one_eq {a : Nat} : one_ a a = 1 := if_pos rfl
theorem one_ne {a b : Nat} (h : a ≠ b) : one_ a b = 0 := if_neg h
theorem pre_lt {k b : Nat} (h : b < k) : pre k b = b := if_pos h
theorem w1_in {a b : Nat} (ha : a < n) (hb : b < n) : w1 n w a b = w a b - (if b = 0 then one_ a 0 else 0) := by
  unfold w1 putF
  rw [if_neg (by omega), if_neg (by omega), pre_lt ha, pre_lt hb]
theorem w1_col {a : Nat} (ha : a < n) : w1 n w a n = one_ a 0 := by
  unfold w1 putF
  rw [if_neg (by omega), if_pos rfl, pre_lt ha]
theorem w1_row {b : Nat} (hb : b < n) : w1 n w n b = one_ b 0 := by
  unfold w1 putF
  rw [if_pos rfl, if_neg (by omega), pre_lt hb]
theorem w1_nn : w1 n w n n = 0 := by
  unfold w1 putF
  rw [if_pos rfl, if_pos rfl]
structure FOk (n : Nat) (w : Nat → Nat → Int) (B : Int) : Prop where
  pos : 1 ≤ n
  full : ∀ a b, a < n → b < n → 1 ≤ w a b - one_ a b
  le : ∀ a b, a < n → b < n → w a b ≤ B
theorem FOk.diag {B : Int} (h : FOk n w B) {a : Nat} (ha : a < n) : 2 ≤ w a a := by
  have := h.full a a ha ha
  rw [one_eq] at this; omega
theorem FOk.ge {B : Int} (h : FOk n w B) {a b : Nat} (ha : a < n) (hb : b < n) : 1 ≤ w a b := by
  have := h.full a b ha hb
  have := one_01 a b
  omega
theorem w1_00 {B : Int} (h : FOk n w B) : w1 n w 0 0 = w 0 0 - 1 := by
  rw [w1_in (by have := h.pos; omega) (by have := h.pos; omega), if_pos rfl, one_eq]
theorem w2_row0 (h0 : 1 ≤ n) {b : Nat} : w2 n w 0 b = w1 n w 0 b := by
  unfold w2 ledF setRow
  rw [if_neg (by omega)]
theorem wL_0 {p : Nat} (h0 : 1 ≤ n) {b : Nat} : wL n w p 0 b = w1 n w 0 b := by
  unfold wL
  rw [if_neg (by omega), w2_row0 h0]
theorem wL_zero : wL n w 0 = w2 n w := by
  funext a b
  unfold wL
  rw [if_neg (by omega)]
theorem wL_hi {p a b : Nat} (h : p < a) (hn : a < n) : wL n w p a b = w1 n w a b := by
  unfold wL w2 ledF setRow
  rw [if_neg (by omega), if_neg (by omega)]
theorem wL_n {p b : Nat} (h : p < n) : wL n w p n b = w1 n w n b + 2 * (w1 n w 0 b - one_ b 0) := by
  unfold wL w2 ledF setRow
  rw [if_neg (by omega), if_pos rfl]
theorem c_w2 {B : Int} (h : FOk n w B) : ledC (w1 n w) n 0 2 = true := by
  have hp := h.pos
  have e1 : w1 n w n 0 = 1 := by rw [w1_row (by omega), one_eq]
  have e2 := w1_00 h
  have := h.diag (a := 0) (by omega)
  unfold ledC
  rw [e1, e2, if_neg (by omega)]
  simp
theorem c_wL {B : Int} (h : FOk n w B) {p : Nat} (hp : p + 1 < n) : ledC (wL n w p) (p + 1) 0 1 = true := by
  have e1 : wL n w p (p + 1) 0 = w (p + 1) 0 := by
    rw [wL_hi (by omega) hp, w1_in hp (by omega), if_pos rfl, one_ne (by omega)]; omega
  have e2 : wL n w p 0 0 = w 0 0 - 1 := by rw [wL_0 (by omega), w1_00 h]
  have := h.diag (a := 0) (by omega)
  have := h.ge (a := p + 1) (b := 0) hp (by omega)
  unfold ledC
  rw [e1, e2, if_neg (by omega)]
  simp
  omega
theorem wL_succ (h0 : 1 ≤ n) {p : Nat} (hp : p + 1 < n) : ledF (wL n w p) (p + 1) 0 1 = wL n w (p + 1) := by
  funext a b
  unfold ledF setRow
  by_cases q : a = p + 1
  · rw [if_pos q]
    dsimp only
    rw [wL_hi (by omega) hp, wL_0 h0]
    subst q
    conv => rhs; unfold wL
    rw [if_pos (by omega)]
  · rw [if_neg q]
    unfold wL
    by_cases q2 : 1 ≤ a ∧ a ≤ p
    · rw [if_pos q2, if_pos (by omega)]
    · rw [if_neg q2, if_neg (by omega)]
theorem c_w4 {B : Int} (h : FOk n w B) : ledC (wL n w (n - 1)) 0 n 1 = true := by
  have hp := h.pos
  have e1 : wL n w (n - 1) 0 n = 1 := by rw [wL_0 hp, w1_col (by omega), one_eq]
  have e2 : wL n w (n - 1) n n = 2 := by rw [wL_n (by omega), w1_nn, w1_col (by omega), one_eq, one_ne (by omega)]; rfl
  unfold ledC
  rw [e1, e2, if_neg (by omega)]
  simp
/-- what stands behind them all is full -/
theorem w4_full {B : Int} (h : FOk n w B) (a b : Nat) (ha : a < n + 1) (hb : b < n + 1) : 1 ≤ w4 n w a b - one_ a b := by
  have hp := h.pos
  have d0 := h.diag (a := 0) (by omega)
  have row0 : ∀ b, b < n + 1 → w1 n w 0 b - one_ b 0 ≥ (if b = 0 then 0 else 1) := by
    intro b hb
    by_cases q : b = 0
    · subst q
      rw [w1_00 h, one_eq, if_pos rfl]; omega
    · rw [one_ne q, if_neg q]
      by_cases q2 : b < n
      · rw [w1_in (by omega) q2, if_neg q]
        have := h.ge (a := 0) (b := b) (by omega) q2
        omega
      · have : b = n := by omega
        subst this
        rw [w1_col (by omega), one_eq]; omega
  have rown : ∀ b, b < n + 1 → wL n w (n - 1) n b ≥ (if b = n then 2 else 1) := by
    intro b hb
    rw [wL_n (by omega)]
    have r0 := row0 b hb
    by_cases q : b = n
    · subst q
      rw [w1_nn, if_pos rfl]
      rw [if_neg (by omega)] at r0
      omega
    · rw [w1_row (by omega), if_neg q]
      by_cases q2 : b = 0
      · subst q2
        rw [if_pos rfl] at r0
        rw [one_eq]; rw [one_eq] at r0; omega
      · rw [if_neg q2] at r0
        rw [one_ne q2]; rw [one_ne q2] at r0; omega
  unfold w4 ledF setRow
  have rn := rown b hb
  have r0 := row0 b hb
  by_cases qa : a = 0
  · subst qa
    rw [if_pos rfl]
    dsimp only
    rw [wL_0 hp]
    by_cases qn : b = n
    · subst qn
      rw [if_pos rfl] at rn
      rw [if_neg (by omega)] at r0
      rw [one_ne (by omega)] at r0
      rw [one_ne (show (0 : Nat) ≠ b by omega), one_eq]
      omega
    · rw [if_neg qn] at rn
      rw [one_ne qn]
      by_cases q0 : b = 0
      · subst q0
        rw [if_pos rfl, one_eq] at r0
        rw [one_eq]; omega
      · rw [if_neg q0, one_ne q0] at r0
        rw [one_ne (Ne.symm q0)]; omega
  · rw [if_neg qa]
    by_cases qn : a = n
    · subst qn
      by_cases q : b = a
      · subst q; rw [if_pos rfl] at rn; rw [one_eq]; omega
      · rw [if_neg q] at rn; rw [one_ne (Ne.symm q)]; omega
    · have e : wL n w (n - 1) a b = w1 n w a b + 1 * (w1 n w 0 b - one_ b 0) := by
        unfold wL; rw [if_pos (by omega)]
      rw [e]
      by_cases qb : b = n
      · subst qb
        rw [if_neg (by omega)] at r0
        rw [w1_col (by omega), one_ne qa, one_ne (show a ≠ b by omega)]; omega
      · rw [w1_in (by omega) (by omega)]
        have hf := h.full a b (by omega) (by omega)
        rw [one_ne qa]
        have : (if b = 0 then (0 : Int) else 0) = 0 := by split <;> rfl
        rw [this]
        by_cases q0 : b = 0
        · subst q0; rw [if_pos rfl] at r0; omega
        · rw [if_neg q0] at r0; omega
end
end K

set_option Elab.async false
set_option linter.all false
set_option maxRecDepth 100000
set_option maxHeartbeats 1600000
set_option exponentiation.threshold 500
namespace K
open PySem PySem.Spec PyProof.Rows L2 Z
theorem p200 : (2 : Nat) ^ 200 < 2 ^ 400 := by decide +kernel
theorem lg_of {i : Int} {B : Nat} (h0 : -(B : Int) ≤ i) (h1 : i ≤ B) (hB : B < 2 ^ 300) : i.natAbs.log2 < 300 := log2_of (by omega) (by decide)
def InB (n : Nat) (w : Nat → Nat → Int) (B : Nat) : Prop := ∀ a b, a < n → b < n → 0 ≤ w a b ∧ w a b ≤ B
theorem InB.mul {n : Nat} {w : Nat → Nat → Int} {B : Nat} {t : Int} (h : InB n w B) (hB : B < 2 ^ 300) (h0 : 1 ≤ B) (ht : 0 ≤ t) (ht2 : t ≤ 1000) : MulOk n w t := by
  intro a b ha hb
  obtain ⟨h1, h2⟩ := h a b ha hb
  obtain ⟨o1, o2⟩ := one_01 b a
  have := lg_of (i := w a b - one_ b a) (B := B) (by omega) (by omega) hB
  have := lg_of (i := t) (B := 1000) (by omega) (by omega) (Nat.lt_of_lt_of_le (show 1000 < 2 ^ 10 by decide) (Nat.pow_le_pow_right (by decide) (by decide)))
  omega
theorem ev_meth0 {T : Th} {C m : Str} {o : CE} {ks : List Str} {kws : CEs} {φ : List U → Sto → Res U} {ρ : Rho} {S S1 S2 : Sto} {k : Nat} {fs : List (Str × U)} {ws : List U} (hd : T.mdom C m = true) (hk : T.mks C m = ks) (ht : T.me C m = φ) (hne : m ≠ "__init__") (h : ev T o ρ S = .ok (.obj k) S1)
    (h1 : S1[k]? = some (.ins C fs)) (hl : fs.lookup m = none) (h2 : evs T kws ρ S1 = .ok ws S2) (hw : ws.length = ks.length) : ev T (.meth C m o .nil ks kws) ρ S = φ (.obj k :: ws) S2 := by
  rw [ev, if_pos ⟨hd, hk.symm, hne⟩, h]
  simp only [Res.bind, h1]
  rw [if_pos ⟨trivial, hl⟩, evs]
  simp only [h2]
  rw [if_pos hw, ht]; rfl
theorem lk_do {now l : U} : List.lookup (Str.ofString "do") [(Str.ofString "now", now), (Str.ofString "log", l)] = none := by rfl
def D3 (x : Str) (a b c : Int) : U := .tup [.str x, .int a, .int b, .int c]
/-- bench.do(word=.., parts=..), as a statement -/
theorem s_do {x : Str} {pe : CE} {ρ : Rho} {S S1 : Sto} {b l : Nat} {now now' : U} {logs ps : List U} (B : BenchAt S b l now logs) (h0 : ρ[0]? = some (some (.obj b))) (hp : ev T16 pe ρ S = .ok (.tup ps) S) (hb : f_behind [now, .tup (.str x :: ps)] S = .ok now' S1) (ke : Ke S S1) (hl : logs.length ≤ 1000) (hps : ps.length ≤ 100) :
    ∃ S', evS T16 FU (.expr (.meth "Bench" "do" (.var 0) .nil ["word", "parts"] (.cons (.str x) (.cons pe .nil)))) ρ S = .nx ρ S' ∧ BenchAt S' b l now' (logs ++ [.tup (.str x :: ps)]) ∧ ∀ S0, Ke S0 S → S0.length ≤ b → S0.length ≤ l → Ke S0 S' := by
  obtain ⟨S', e1, e2, e3⟩ := e_do B hb ke hl hps
  refine ⟨S', evS_expr ((ev_meth0 (fs := [("now", now), ("log", .obj l)]) (ws := [.str x, .tup ps]) (S1 := S) (S2 := S) d_grow_bench__Bench__do k_grow_bench__Bench__do t_grow_bench__Bench__do (by decide +kernel) (by simp [ev, h0]) B.1 lk_do ?_ rfl).trans e1), e2, e3⟩
  rw [evs, ev]
  simp only [Res.bind]
  rw [evs, hp]
  simp [evs, Res.bind]
end K

set_option Elab.async false
set_option linter.all false
set_option maxRecDepth 100000
set_option maxHeartbeats 1600000
set_option exponentiation.threshold 500
namespace K
open PySem PySem.Spec PyProof.Rows L2 Z
theorem evI_rng2 {T : Th} {a b : CE} {ρ : Rho} {S S1 S2 : Sto} {m n : Nat} (h : ev T a ρ S = .ok (.int m) S1) (h' : ev T b ρ S1 = .ok (.int n) S2) (hm : m ≤ 1000000) (hn : n ≤ 1000000) : evI T (.rng2 a b) ρ S = .ok (.rng m (n - m)) S2 := by
  have hz : -(2 ^ 62) ≤ (m : Int) ∧ (m : Int) < 2 ^ 62 ∧ -(2 ^ 62) ≤ (n : Int) ∧ (n : Int) < 2 ^ 62 := ⟨by omega, by omega, by omega, by omega⟩
  have e : ((n : Int) - (m : Int)).toNat = n - m := by omega
  simp only [evI, h, h', Res.bind, if_pos hz, e]
section
variable {n : Nat} {w : Nat → Nat → Int}
theorem row0_ge {B : Int} (h : FOk n w B) {b : Nat} (hb : b < n + 1) : 0 ≤ w1 n w 0 b - one_ b 0 := by
  have hp := h.pos
  by_cases q : b = 0
  · subst q
    have := h.diag (a := 0) (by omega)
    rw [w1_00 h, one_eq]; omega
  · rw [one_ne q]
    by_cases q2 : b < n
    · rw [w1_in (by omega) q2, if_neg q]
      have := h.ge (a := 0) (b := b) (by omega) q2
      omega
    · have : b = n := by omega
      subst this
      rw [w1_col (by omega), one_eq]; omega
theorem w1_bd {B : Nat} (h : FOk n w B) (h1 : 1 ≤ B) : InB (n + 1) (w1 n w) B := by
  intro a b ha hb
  have hp := h.pos
  have o1 := one_01 a 0
  have o2 := one_01 b 0
  by_cases qa : a = n
  · subst qa
    by_cases qb : b = a
    · subst qb; rw [w1_nn]; omega
    · rw [w1_row (by omega)]; omega
  · by_cases qb : b = n
    · subst qb; rw [w1_col (by omega)]; omega
    · rw [w1_in (by omega) (by omega)]
      have := h.le a b (by omega) (by omega)
      have := h.ge (a := a) (b := b) (by omega) (by omega)
      by_cases q : b = 0
      · rw [if_pos q]; omega
      · rw [if_neg q]; omega
theorem wL_bd {B : Nat} (h : FOk n w B) (h1 : 1 ≤ B) {p : Nat} (hp : p < n) : InB (n + 1) (wL n w p) (4 * B) := by
  intro a b ha hb
  have hpos := h.pos
  have r0 := row0_ge h hb
  have b0 := w1_bd h h1 0 b (by omega) hb
  have ba := w1_bd h h1 a b ha hb
  have o := one_01 b 0
  by_cases q : 1 ≤ a ∧ a ≤ p
  · unfold wL
    rw [if_pos q]; omega
  · by_cases qn : a = n
    · subst qn
      rw [wL_n hp]; omega
    · have e : wL n w p a b = w1 n w a b := by
        unfold wL w2 ledF setRow
        rw [if_neg q, if_neg qn]
      rw [e]; omega
def growL (n : Nat) : List U := [D3 "put" 0 0 n, D3 "lead" n 0 2] ++ (List.range (n - 1)).map (fun (p : Nat) => D3 "lead" ((p + 1 : Nat) : Int) 0 1) ++ [D3 "lead" 0 n 1]
theorem e_grow {S : Sto} {b l : Nat} {B : Nat} (h : FOk n w B) (h1 : 1 ≤ B) (hB : 4 * B < 2 ^ 300) (hn : n < 8) (bn : BenchAt S b l (webU (mat n w)) []) :
    ∃ S', f_grow_bench [.obj b] S = .ok .non S' ∧ BenchAt S' b l (webU (mat (n + 1) (w4 n w))) (growL n) ∧ ∀ S0, Ke S0 S → S0.length ≤ b → S0.length ≤ l → Ke S0 S' := by
  rw [b_grow_bench, r_grow_bench]
  have hp := h.pos
  have hN : N_grow_bench.length - 1 = 2 := rfl
  simp only [hN, List.replicate, List.cons_append, List.nil_append]
  have gf : T16.fldB "Bench" "now" = true := by decide +kernel
  have st0 : evS T16 FU c_grow_bench_s0 [some (.obj b), none, none] S = .nx [some (.obj b), some (.int n), none] S := by
    have f0 : ev T16 (.fld "Bench" "now" (.var 0)) [some (.obj b), none, none] S = .ok (webU (mat n w)) S := ev_fld (by simp [ev]) bn.1 gf lk_now
    refine evS_asgN (u := .int n) (S1 := S) ?_
    rw [ev, evs, f0]
    simp only [Res.bind, evs, ofO, len_mat]
  have z3 : (3 : Nat) ≤ sizeLine := sz_of (by omega)
  have pt : ∀ (S : Sto) (x : Option U) (e1 e2 e3 : CE) (u1 u2 u3 : U), ev T16 e1 [some (.obj b), some (.int n), x] S = .ok u1 S → ev T16 e2 [some (.obj b), some (.int n), x] S = .ok u2 S → ev T16 e3 [some (.obj b), some (.int n), x] S = .ok u3 S →
      ev T16 (.tup (.cons e1 (.cons e2 (.cons e3 .nil)))) [some (.obj b), some (.int n), x] S = .ok (.tup [u1, u2, u3]) S := fun S x e1 e2 e3 u1 u2 u3 q1 q2 q3 => by
    rw [ev, evs, q1]; simp only [Res.bind]; rw [evs, q2]; simp only [Res.bind]; rw [evs, q3]; simp only [Res.bind, evs]; rw [if_pos (by simpa using z3)]
  -- put
  obtain ⟨Sp, pe, pk⟩ := e_behind_put (n := n) (i := 0) (j := 0) (k := n) (w := w) (S := S) hn (by omega) (by omega) (Nat.le_refl _) (by have := h.diag (a := 0) (by omega); omega)
  obtain ⟨S1, e1, b1, k1⟩ := s_do (x := "put") (pe := .tup (.cons (.int 0) (.cons (.int 0) (.cons (.var 1) .nil)))) (ρ := [some (.obj b), some (.int n), none]) (ps := [.int 0, .int 0, .int n]) (now' := webU (mat (n + 1) (w1 n w))) bn rfl (pt S none _ _ _ _ _ _ (by simp [ev]) (by simp [ev]) (by simp [ev])) pe pk (by simp) (by simp)
  -- lead
  have m1 := (w1_bd h h1).mul (t := 2) (by omega) h1 (by omega) (by omega)
  have le := e_behind_lead (n := n + 1) (i := n) (j := 0) (w := w1 n w) (t := 2) (S := S1) (by omega) (by omega) (by omega) (by omega) (by omega) m1
  unfold ledU at le
  rw [if_pos (c_w2 h)] at le
  obtain ⟨S2, e2, b2, k2⟩ := s_do (x := "lead") (pe := .tup (.cons (.var 1) (.cons (.int 0) (.cons (.int 2) .nil)))) (ρ := [some (.obj b), some (.int n), none]) (ps := [.int n, .int 0, .int 2]) (now' := webU (mat (n + 1) (w2 n w))) b1 rfl (pt S1 none _ _ _ _ _ _ (by simp [ev]) (by simp [ev]) (by simp [ev])) le Ke.refl (by simp) (by simp)
  -- the leads of the places between
  rw [← wL_zero] at b2
  have hI : evI T16 (.rng2 (.int 1) (.var 1)) [some (.obj b), some (.int n), none] S2 = .ok (.rng 1 (n - 1)) S2 := evI_rng2 (m := 1) (S1 := S2) (by simp [ev]) (by simp [ev]) (by omega) (by omega)
  obtain ⟨ρ3, S3, e3, x, rfl, b3, k3⟩ := forGo_all (src := .rng 1 (n - 1)) (t := .name 2) (body := evSs T16 FU c_grow_bench_b1) (items := (List.range (n - 1)).map fun (i : Nat) => U.int (1 + i))
    (fun p ρ S' => ∃ x, ρ = [some (.obj b), some (.int n), x] ∧ BenchAt S' b l (webU (mat (n + 1) (wL n w p))) ([D3 "put" 0 0 n, D3 "lead" n 0 2] ++ (List.range p).map fun (p : Nat) => D3 "lead" ((p + 1 : Nat) : Int) 0 1) ∧ ∀ S0, Ke S0 S2 → S0.length ≤ b → S0.length ≤ l → Ke S0 S')
    (fun i ρ S' _ hi => Over.rng (I := fun _ => True) S' trivial i hi)
    (n := n - 1) (ρ := [some (.obj b), some (.int n), none]) (S := S2) (by
      intro p u ρ S' hx ⟨x, hρ, hb, hk⟩
      subst hρ
      have hpn : p < n - 1 := by
        have := (List.getElem?_eq_some_iff.mp hx).1
        simpa using this
      rw [rng_at hpn] at hx
      cases hx
      refine ⟨_, rfl, ?_⟩
      have ep : (1 + (p : Int)) = ((p + 1 : Nat) : Int) := by omega
      have mm := (wL_bd h h1 (p := p) (by omega)).mul (t := 1) hB (by omega) (by omega) (by omega)
      have le := e_behind_lead (n := n + 1) (i := p + 1) (j := 0) (w := wL n w p) (t := 1) (S := S') (by omega) (by omega) (by omega) (by omega) (by omega) mm
      unfold ledU at le
      rw [if_pos (c_wL h (by omega)), wL_succ hp (by omega)] at le
      obtain ⟨S'', e4, b4, k4⟩ := s_do (x := "lead") (pe := .tup (.cons (.var 2) (.cons (.int 0) (.cons (.int 1) .nil)))) (ρ := [some (.obj b), some (.int n), some (.int ((p + 1 : Nat) : Int))]) (ps := [.int ((p + 1 : Nat) : Int), .int 0, .int 1]) hb rfl (pt S' (some (.int ((p + 1 : Nat) : Int))) _ _ _ _ _ _ (by simp [ev]) (by simp [ev]) (by simp [ev])) le Ke.refl (by simp; omega) (by simp)
      refine ⟨[some (.obj b), some (.int n), some (.int ((p + 1 : Nat) : Int))], S'', ?_, some (.int ((p + 1 : Nat) : Int)), rfl, ?_, fun S0 q0 q1 q2 => k4 S0 (hk S0 q0 q1 q2) q1 q2⟩
      · rw [ep]
        exact (evSs_cons e4).trans evSs_nil
      · rw [List.append_assoc] at b4
        rw [← rng_snoc]
        exact b4) (by simp) ⟨none, rfl, b2, fun S0 q0 _ _ => q0⟩
  have st3 : evS T16 FU c_grow_bench_s3 [some (.obj b), some (.int n), none] S2 = .nx [some (.obj b), some (.int n), x] S3 := (evS_for hI).trans e3
  have m4 := (wL_bd h h1 (p := n - 1) (by omega)).mul (t := 1) hB (by omega) (by omega) (by omega)
  have l4 := e_behind_lead (n := n + 1) (i := 0) (j := n) (w := wL n w (n - 1)) (t := 1) (S := S3) (by omega) (by omega) (by omega) (by omega) (by omega) m4
  unfold ledU at l4
  rw [if_pos (c_w4 h)] at l4
  have hL : ((List.range (n - 1)).map fun (i : Nat) => U.int (1 + i)).length = n - 1 := by simp
  rw [hL] at b3
  obtain ⟨S4, e5, b5, k5⟩ := s_do (x := "lead") (pe := .tup (.cons (.int 0) (.cons (.var 1) (.cons (.int 1) .nil)))) (ρ := [some (.obj b), some (.int n), x]) (ps := [.int 0, .int n, .int 1]) (now' := webU (mat (n + 1) (w4 n w))) b3 rfl (pt S3 x _ _ _ _ _ _ (by simp [ev]) (by simp [ev]) (by simp [ev])) l4 Ke.refl (by simp; omega) (by simp)
  refine ⟨S4, ?_, b5, fun S0 q0 q1 q2 => k5 S0 (k3 S0 (k2 S0 (k1 S0 q0 q1 q2) q1 q2) q1 q2) q1 q2⟩
  replace e1 : evS T16 FU c_grow_bench_s1 [some (.obj b), some (.int n), none] S = .nx [some (.obj b), some (.int n), none] S1 := e1
  replace e2 : evS T16 FU c_grow_bench_s2 [some (.obj b), some (.int n), none] S1 = .nx [some (.obj b), some (.int n), none] S2 := e2
  replace e5 : evS T16 FU c_grow_bench_s4 [some (.obj b), some (.int n), x] S3 = .nx [some (.obj b), some (.int n), x] S4 := e5
  rw [x_grow_bench, evSs_cons st0, evSs_cons e1, evSs_cons e2, evSs_cons st3, evSs_cons e5, evSs_nil, SR.res]
end
end K

set_option Elab.async false
set_option linter.all false
set_option maxRecDepth 100000
set_option maxHeartbeats 1600000
set_option exponentiation.threshold 500
namespace K
open PySem PySem.Spec PyProof.Rows L2 Z
section
variable {n : Nat} {w : Nat → Nat → Int}
theorem gl_most_m : T17.gl "MOST_PLACES_deeds" = some (.int 8) := by kernel_rfl
theorem x_great : T17.excB "TooGreat" = true := by decide +kernel
theorem FOk.of {B : Nat} (h : MOk n w) (hb : InB n w B) (f : fullB n w = true) : FOk n w B := ⟨h.pos, fun a b ha hb => fullB_iff.mp f a b ha hb, fun a b ha hb' => (hb a b ha hb').2⟩
theorem ev_new {T : Th} {C : Str} {as : CEs} {φ : List U → Sto → Res U} {ρ : Rho} {S S1 S2 : Sto} {us : List U} (hd : T.mdom C "__init__" = true) (hk : T.mks C "__init__" = []) (ht : T.me C "__init__" = φ) (h : evs T as ρ S = .ok us S1) (h2 : φ (.obj S1.length :: us) (S1 ++ [.ins C []]) = .ok .non S2) : ev T (.new C as) ρ S = .ok (.obj S1.length) S2 := by
  rw [ev, if_pos ⟨hd, hk⟩, h]
  simp only [Res.bind, ht, h2]
theorem e_more {S : Sto} {B : Nat} (h : MOk n w) (hb : InB n w B) (h1 : 1 ≤ B) (hB : 4 * B < 2 ^ 300) (f : fullB n w = true) (hn : n < 8) :
    ∃ S' l, f_more [webU (mat n w)] S = .ok (.obj l) S' ∧ S'[l]? = some (.lst (growL n)) ∧ Ke S S' ∧ S.length ≤ l := by
  rw [b_more, r_more]
  have hN : N_more.length - 1 = 1 := rfl
  simp only [hN, List.replicate, List.cons_append, List.nil_append]
  have F := FOk.of h hb f
  have st0 : evS T17 FU c_more_s0 [some (webU (mat n w)), none] S = .nx [some (webU (mat n w)), none] S :=
    evS_expr ((ev_callF d_more__need_full t_more__need_full (us := [webU (mat n w)]) (S1 := S) (by simp [evs, ev, Res.bind])).trans (e_need_full h f))
  have h8 : decide ((n : Int) = 8) = false := by simp; omega
  have t1 : ev T17 (.cmp .eq (.bi .len (.cons (.var 0) .nil)) (.glob "MOST_PLACES_deeds")) [some (webU (mat n w)), none] S = .ok (.bl false) S := by
    simp only [evSs, evS, ev, evs, evB, evO, evN_lst, evN_listOf, evN_cat, evI, Res.bind, Res.toS, SR.andThen, ofO, ofS, asgT, asgTs, List.getElem?_cons_zero, List.getElem?_cons_succ, List.set_cons_zero, List.set_cons_succ, Option.map_some, Option.map_none, Option.bind_some, Option.bind_none, List.length_cons, List.length_nil, if_true, if_false, SR.res, Bool.not_true, Bool.not_false, Bool.false_eq_true, wipeR, List.map_cons, List.map_nil, cmp_eqI, cmp_neI, cmpS_eq, cmpS_ne, cmpI_lt, cmpI_le, cmpI_gt, cmpI_ge, Bool.not_eq_true, decide_true, decide_false, len_mat, gl_most_m, h8]
  have st1 : evS T17 FU c_more_s1 [some (webU (mat n w)), none] S = .nx [some (webU (mat n w)), none] S := (evS_iteF t1).trans evSs_nil
  obtain ⟨S1, i1, i2, i3⟩ := e_init (S := S ++ [SO.ins "Bench" []]) (b := S.length) (now := webU (mat n w)) app_at
  have k1 : Ke S S1 := i3 S Ke.app (Nat.le_refl _)
  have st2 : evS T17 FU c_more_s2 [some (webU (mat n w)), none] S = .nx [some (webU (mat n w)), some (.obj S.length)] S1 :=
    evS_asgN (ev_new d_more__Bench____init__ k_more__Bench____init__ t_more__Bench____init__ (us := [webU (mat n w)]) (S1 := S) (by simp [evs, ev, Res.bind]) i1)
  have L : (S ++ [SO.ins "Bench" []]).length = S.length + 1 := by simp
  rw [L] at i2
  obtain ⟨S2, g1, g2, g3⟩ := e_grow F h1 hB hn i2
  have k2 : Ke S S2 := g3 S k1 (Nat.le_refl _) (by omega)
  have st3 : evS T17 FU c_more_s3 [some (webU (mat n w)), some (.obj S.length)] S1 = .nx [some (webU (mat n w)), some (.obj S.length)] S2 :=
    evS_expr ((ev_callF d_more__grow_bench t_more__grow_bench (us := [.obj S.length]) (S1 := S1) (by simp [evs, ev, Res.bind])).trans g1)
  have fl : T17.fldB "Bench" "log" = true := by decide +kernel
  have st4 : evS T17 FU c_more_s4 [some (webU (mat n w)), some (.obj S.length)] S2 = .rt (.obj (S.length + 1)) S2 := evS_ret (ev_fld (by simp [ev]) g2.1 fl lk_log)
  refine ⟨S2, S.length + 1, ?_, g2.2.1, k2, by omega⟩
  rw [x_more, evSs_cons st0, evSs_cons st1, evSs_cons st2, evSs_cons st3, evSs_rt st4, SR.res]
theorem evSs_ex {T : Th} {F : Nat} {s : CS} {ss : CSs} {ρ ρ' : Rho} {S S1 : Sto} {x : Xn} (h : evS T F s ρ S = .ex x ρ' S1) : evSs T F (.cons s ss) ρ S = .ex x ρ' S1 := by rw [evSs, h]; rfl
theorem evS_exprX {T : Th} {F : Nat} {e : CE} {ρ : Rho} {S S1 : Sto} {x : Xn} (h : ev T e ρ S = .ex x S1) : evS T F (.expr e) ρ S = .ex x ρ S1 := by rw [evS, h]; rfl
theorem e_more_great {S : Sto} (h : MOk n w) (f : fullB n w = true) (hn : n = 8) : f_more [webU (mat n w)] S = .ex ("TooGreat", none) S := by
  rw [b_more, r_more]
  have hN : N_more.length - 1 = 1 := rfl
  simp only [hN, List.replicate, List.cons_append, List.nil_append]
  have st0 : evS T17 FU c_more_s0 [some (webU (mat n w)), none] S = .nx [some (webU (mat n w)), none] S :=
    evS_expr ((ev_callF d_more__need_full t_more__need_full (us := [webU (mat n w)]) (S1 := S) (by simp [evs, ev, Res.bind])).trans (e_need_full h f))
  have h8 : decide ((n : Int) = 8) = true := by simp; omega
  have t1 : ev T17 (.cmp .eq (.bi .len (.cons (.var 0) .nil)) (.glob "MOST_PLACES_deeds")) [some (webU (mat n w)), none] S = .ok (.bl true) S := by
    simp only [evSs, evS, ev, evs, evB, evO, evN_lst, evN_listOf, evN_cat, evI, Res.bind, Res.toS, SR.andThen, ofO, ofS, asgT, asgTs, List.getElem?_cons_zero, List.getElem?_cons_succ, List.set_cons_zero, List.set_cons_succ, Option.map_some, Option.map_none, Option.bind_some, Option.bind_none, List.length_cons, List.length_nil, if_true, if_false, SR.res, Bool.not_true, Bool.not_false, Bool.false_eq_true, wipeR, List.map_cons, List.map_nil, cmp_eqI, cmp_neI, cmpS_eq, cmpS_ne, cmpI_lt, cmpI_le, cmpI_gt, cmpI_ge, Bool.not_eq_true, decide_true, decide_false, len_mat, gl_most_m, h8]
  have st1 : evS T17 FU c_more_s1 [some (webU (mat n w)), none] S = .ex ("TooGreat", none) [some (webU (mat n w)), none] S := by
    refine (evS_iteT t1).trans (evSs_ex ?_)
    rw [evS, if_pos x_great]
  rw [x_more, evSs_cons st0, evSs_ex st1, SR.res]
theorem e_more_no {S : Sto} (h : MOk n w) (f : fullB n w = false) : f_more [webU (mat n w)] S = .ex ("NotFull", none) S := by
  rw [b_more, r_more]
  have hN : N_more.length - 1 = 1 := rfl
  simp only [hN, List.replicate, List.cons_append, List.nil_append]
  have st0 : evS T17 FU c_more_s0 [some (webU (mat n w)), none] S = .ex ("NotFull", none) [some (webU (mat n w)), none] S :=
    evS_exprX ((ev_callF d_more__need_full t_more__need_full (us := [webU (mat n w)]) (S1 := S) (by simp [evs, ev, Res.bind])).trans (e_need_full_no h f))
  rw [x_more, evSs_ex st0, SR.res]
end
end K

set_option Elab.async false
set_option linter.all false
set_option maxRecDepth 100000
set_option maxHeartbeats 1600000
set_option exponentiation.threshold 500
namespace K
open PySem PySem.Spec PyProof.Rows L2 Z
/-! ### a table of things is made -/
theorem lcGo_tab {src : Src} {st : U → Sto → Res (Option U)} {S : Sto} {n m : Nat} (F : Nat → U) (R : Nat → List U) (ov : Over src (Ke S) ((List.range n).map F)) (hm : m = n) (hz : n ≤ 10000)
    (step : ∀ i S', i < n → Ke S S' → st (F i) S' = .ok (some (.obj S'.length)) (S' ++ [.lst (R i)])) : lcGo src st m 0 [] S = .ok ((List.range n).map fun i => .obj (S.length + i)) (S ++ (List.range n).map fun i => SO.lst (R i)) := by
  have hlen : ((List.range n).map F).length = n := by simp
  obtain ⟨acc, S', e1, e2, e3⟩ := lcGo_inv (src := src) (items := (List.range n).map F) (st := st) (fun i acc S' => acc = (List.range i).map (fun k => U.obj (S.length + k)) ∧ S' = S ++ (List.range i).map fun k => SO.lst (R k))
    (fun i acc S' hi hle => ov S' (by rw [hi.2]; exact Ke.app) i hle)
    (fun i x acc S' hx ⟨q1, q2⟩ => by
      have hi : i < n := by
        have := (List.getElem?_eq_some_iff.mp hx).1
        simpa using this
      rw [rng_at hi] at hx
      cases hx
      refine ⟨some (.obj S'.length), S' ++ [.lst (R i)], step i S' hi (by rw [q2]; exact Ke.app), ?_, ?_⟩
      · rw [q1, q2, Option.toList, List.length_append, List.length_map, List.length_range, ← rng_snoc (f := fun k => U.obj (S.length + k))]
      · rw [q2, List.append_assoc, ← rng_snoc (f := fun k => SO.lst (R k))])
    (by rw [hlen]; exact sz_of hz) m 0 [] S (by rw [hlen, hm]; omega) (Nat.le_refl 0) ⟨rfl, by simp⟩
  rw [hlen] at e2 e3
  subst e2 e3
  exact e1
theorem evN_tab {T : Th} {tg : CT} {it : CI} {elt : CE} {own : List (Str × Nat)} {ρ : Rho} {S : Sto} {src : Src} {n : Nat} (F : Nat → U) (R : Nat → List U) (h1 : evI T it ρ S = .ok src S) (ov : Over src (Ke S) ((List.range n).map F)) (hl : src.len S = n) (hz : n ≤ 10000)
    (step : ∀ i S', i < n → Ke S S' → ∃ ρ', asgT tg (F i) (wipeR ρ (own.map (·.2))) = some ρ' ∧ ev T elt ρ' S' = .ok (.obj S'.length) (S' ++ [.lst (R i)])) :
    evN T (.lc tg it .nil elt own) ρ S = .ok ((List.range n).map fun i => .obj (S.length + i)) (S ++ (List.range n).map fun i => SO.lst (R i)) := by
  simp only [evN, h1, Res.bind]
  refine lcGo_tab F R ov hl hz fun i S' hi k => ?_
  obtain ⟨ρ', a1, a2⟩ := step i S' hi k
  simp only [a1, a2]
section
variable {n i j : Nat} {w : Nat → Nat → Int}
theorem ll_l1 {S : Sto} {a b c d e f g h k : Option U} (hn : n ≤ 8) : evN T27 c__law_lead_l1 [some (webU (mat n w)), a, b, c, d, e, f, g, h, k] S = .ok ((List.range n).map fun i => .obj (S.length + i)) (S ++ tabO n n w) := by
  refine evN_tab (src := .seq (webU (mat n w))) (fun i => rowU (rw_ n (w i))) (fun i => (List.range n).map fun k => .int (w i k)) ?_ (by rw [webU_mat]; exact over_tupR) (by rw [webU_mat]; simp [Src.len, seqOf]) (sz1 hn) fun p S' hp _ => ⟨[some (webU (mat n w)), a, b, c, d, e, f, g, h, some (rowU (rw_ n (w p)))], rfl, ?_⟩
  · simp [evSs, evS, ev, evs, evB, evO, evN_lst, evN_listOf, evN_cat, evI, Res.bind, Res.toS, SR.andThen, ofO, ofS, asgT, asgTs, List.getElem?_cons_zero, List.getElem?_cons_succ, List.set_cons_zero, List.set_cons_succ, Option.map_some, Option.map_none, Option.bind_some, Option.bind_none, List.length_cons, List.length_nil, if_true, if_false, SR.res, Bool.not_true, Bool.not_false, Bool.false_eq_true, wipeR, List.map_cons, List.map_nil, cmp_eqI, cmp_neI, cmpS_eq, cmpS_ne, cmpI_lt, cmpI_le, cmpI_gt, cmpI_ge, Bool.not_eq_true, decide_true, decide_false, webU, seqOf]
  · simp only [evSs, evS, ev, evs, evB, evO, evN_lst, evN_listOf, evN_cat, evI, Res.bind, Res.toS, SR.andThen, ofO, ofS, asgT, asgTs, List.getElem?_cons_zero, List.getElem?_cons_succ, List.set_cons_zero, List.set_cons_succ, Option.map_some, Option.map_none, Option.bind_some, Option.bind_none, List.length_cons, List.length_nil, if_true, if_false, SR.res, Bool.not_true, Bool.not_false, Bool.false_eq_true, wipeR, List.map_cons, List.map_nil, cmp_eqI, cmp_neI, cmpS_eq, cmpS_ne, cmpI_lt, cmpI_le, cmpI_gt, cmpI_ge, Bool.not_eq_true, decide_true, decide_false, rowU_rw, seqOf]
/-- the rows as tuples again -/
theorem ll_l2 {S : Sto} {v : Nat → Nat → Int} {a b c d f g h k z : Option U} (hn : n ≤ 8) : evN T27 c__law_lead_l2 [a, b, c, d, some (tabU S.length n), f, g, h, k, z] (S ++ tabO n n v) = .ok ((List.range n).map fun i => rowU (rw_ n (v i))) (S ++ tabO n n v) := by
  refine evN_rng (src := .seq (tabU S.length n)) (fun i => .obj (S.length + i)) _ ?_ (by unfold tabU; exact Over.tl) (by simp [Src.len, tabU, seqOf, lstOf]) (sz1 hn) fun p hp => ⟨[a, b, c, d, some (tabU S.length n), f, g, h, k, some (.obj (S.length + p))], rfl, ?_⟩
  · simp [evSs, evS, ev, evs, evB, evO, evN_lst, evN_listOf, evN_cat, evI, Res.bind, Res.toS, SR.andThen, ofO, ofS, asgT, asgTs, List.getElem?_cons_zero, List.getElem?_cons_succ, List.set_cons_zero, List.set_cons_succ, Option.map_some, Option.map_none, Option.bind_some, Option.bind_none, List.length_cons, List.length_nil, if_true, if_false, SR.res, Bool.not_true, Bool.not_false, Bool.false_eq_true, wipeR, List.map_cons, List.map_nil, cmp_eqI, cmp_neI, cmpS_eq, cmpS_ne, cmpI_lt, cmpI_le, cmpI_gt, cmpI_ge, Bool.not_eq_true, decide_true, decide_false, tabU, seqOf, lstOf]
  · simp only [evSs, evS, ev, evs, evB, evO, evN_lst, evN_listOf, evN_cat, evI, Res.bind, Res.toS, SR.andThen, ofO, ofS, asgT, asgTs, List.getElem?_cons_zero, List.getElem?_cons_succ, List.set_cons_zero, List.set_cons_succ, Option.map_some, Option.map_none, Option.bind_some, Option.bind_none, List.length_cons, List.length_nil, if_true, if_false, SR.res, Bool.not_true, Bool.not_false, Bool.false_eq_true, wipeR, List.map_cons, List.map_nil, cmp_eqI, cmp_neI, cmpS_eq, cmpS_ne, cmpI_lt, cmpI_le, cmpI_gt, cmpI_ge, Bool.not_eq_true, decide_true, decide_false, bi_tuple_obj (tabO_at hp), rowU_rw]
end
end K

set_option Elab.async false
set_option linter.all false
set_option maxRecDepth 100000
set_option maxHeartbeats 1600000
set_option exponentiation.threshold 500
namespace K
open PySem PySem.Spec PyProof.Rows L2 Z
theorem evS_setI {T : Th} {F : Nat} {o i e : CE} {ρ : Rho} {S S1 S2 S3 : Sto} {k m : Nat} {us : List U} {w : U} (h0 : ev T e ρ S = .ok w S1) (h : ev T o ρ S1 = .ok (.obj k) S2) (h1 : ev T i ρ S2 = .ok (.int m) S3) (h2 : S3[k]? = some (.lst us)) (h3 : m < us.length) : evS T F (.setI o i e) ρ S = .nx ρ (S3.set k (.lst (us.set m w))) := by
  rw [evS, h0]
  simp only [Res.toS, h, h1, h2, ixN_rng h3]
section
variable {n i j : Nat} {w : Nat → Nat → Int}
/-- a cell of the table is written -/
theorem tab_set {S : Sto} {v : Nat → Nat → Int} {a b : Nat} {x : Int} (ha : a < n) (hb : b < n) : (S ++ tabO n n v).set (S.length + a) (.lst (((List.range n).map fun k => U.int (v a k)).set b (.int x))) = S ++ tabO n n fun c d => if c = a then (if d = b then x else v a d) else v c d := (tabO_set ha hb).trans (congrArg (S ++ ·) (tabO_congr fun c d hc hd => by
  by_cases q : c = a
  · subst q; rw [if_pos rfl]
  · rw [if_neg q, if_neg q]))
abbrev llR (W : U) (i j : Nat) (t : Int) (b n : Nat) (x5 x6 x7 x8 x9 : Option U) : Rho := [some W, some (.int i), some (.int j), some (.int t), some (tabU b n), x5, x6, x7, x8, x9]
theorem ll_b2 {S : Sto} {W : U} {t : Int} {x5 x7 x8 x9 : Option U} {p : Nat} {v : Nat → Nat → Int} (hi : i < n) (hj : j < n) (hp : p < n) :
    evSs T27 FU c__law_lead_b2 (llR W i j t S.length n x5 (some (.int p)) x7 x8 x9) (S ++ tabO n n v) = .nx (llR W i j t S.length n x5 (some (.int p)) x7 x8 x9) (S ++ tabO n n fun c d => if c = i then (if d = p then v i p + v j p else v i d) else v c d) := by
  have q0 : ev T27 (.idx (.var 4) (.var 1)) (llR W i j t S.length n x5 (some (.int p)) x7 x8 x9) (S ++ tabO n n v) = .ok (.obj (S.length + i)) (S ++ tabO n n v) := by simp only [evSs, evS, ev, evs, evB, evO, evN_lst, evN_listOf, evN_cat, evI, Res.bind, Res.toS, SR.andThen, ofO, ofS, asgT, asgTs, List.getElem?_cons_zero, List.getElem?_cons_succ, List.set_cons_zero, List.set_cons_succ, Option.map_some, Option.map_none, Option.bind_some, Option.bind_none, List.length_cons, List.length_nil, if_true, if_false, SR.res, Bool.not_true, Bool.not_false, Bool.false_eq_true, wipeR, List.map_cons, List.map_nil, cmp_eqI, cmp_neI, cmpS_eq, cmpS_ne, cmpI_lt, cmpI_le, cmpI_gt, cmpI_ge, Bool.not_eq_true, decide_true, decide_false, idx_tab hi]
  have q1 : ev T27 (.bin .add (.idx (.idx (.var 4) (.var 1)) (.var 6)) (.idx (.idx (.var 4) (.var 2)) (.var 6))) (llR W i j t S.length n x5 (some (.int p)) x7 x8 x9) (S ++ tabO n n v) = .ok (.int (v i p + v j p)) (S ++ tabO n n v) := by
    simp only [evSs, evS, ev, evs, evB, evO, evN_lst, evN_listOf, evN_cat, evI, Res.bind, Res.toS, SR.andThen, ofO, ofS, asgT, asgTs, List.getElem?_cons_zero, List.getElem?_cons_succ, List.set_cons_zero, List.set_cons_succ, Option.map_some, Option.map_none, Option.bind_some, Option.bind_none, List.length_cons, List.length_nil, if_true, if_false, SR.res, Bool.not_true, Bool.not_false, Bool.false_eq_true, wipeR, List.map_cons, List.map_nil, cmp_eqI, cmp_neI, cmpS_eq, cmpS_ne, cmpI_lt, cmpI_le, cmpI_gt, cmpI_ge, Bool.not_eq_true, decide_true, decide_false, idx_tab hi, idx_tab hj, idx_cell hi hp, idx_cell hj hp, binI_add]
  refine (evSs_cons (evS_setI q1 q0 (m := p) (S3 := S ++ tabO n n v) (by simp only [evSs, evS, ev, evs, evB, evO, evN_lst, evN_listOf, evN_cat, evI, Res.bind, Res.toS, SR.andThen, ofO, ofS, asgT, asgTs, List.getElem?_cons_zero, List.getElem?_cons_succ, List.set_cons_zero, List.set_cons_succ, Option.map_some, Option.map_none, Option.bind_some, Option.bind_none, List.length_cons, List.length_nil, if_true, if_false, SR.res, Bool.not_true, Bool.not_false, Bool.false_eq_true, wipeR, List.map_cons, List.map_nil, cmp_eqI, cmp_neI, cmpS_eq, cmpS_ne, cmpI_lt, cmpI_le, cmpI_gt, cmpI_ge, Bool.not_eq_true, decide_true, decide_false]) (tabO_at hi) (by simpa using hp))).trans ?_
  rw [evSs_nil, tab_set hi hp]
theorem ll_for2 {S : Sto} {W : U} {t : Int} {x5 x6 x7 x8 x9 : Option U} {v : Nat → Nat → Int} (hn : n ≤ 8) (hi : i < n) (hj : j < n) (hij : i ≠ j) :
    ∃ x, evS T27 FU c__law_lead_b3_s2 (llR W i j t S.length n x5 x6 x7 x8 x9) (S ++ tabO n n v) = .nx (llR W i j t S.length n x5 x x7 x8 x9) (S ++ tabO n n fun c d => if c = i then v i d + v j d else v c d) := by
  have hI : evI T27 (.rng1 (.bi .len (.cons (.var 4) .nil))) (llR W i j t S.length n x5 x6 x7 x8 x9) (S ++ tabO n n v) = .ok (.rng 0 n) (S ++ tabO n n v) := evI_rng1 (by simp only [evSs, evS, ev, evs, evB, evO, evN_lst, evN_listOf, evN_cat, evI, Res.bind, Res.toS, SR.andThen, ofO, ofS, asgT, asgTs, List.getElem?_cons_zero, List.getElem?_cons_succ, List.set_cons_zero, List.set_cons_succ, Option.map_some, Option.map_none, Option.bind_some, Option.bind_none, List.length_cons, List.length_nil, if_true, if_false, SR.res, Bool.not_true, Bool.not_false, Bool.false_eq_true, wipeR, List.map_cons, List.map_nil, cmp_eqI, cmp_neI, cmpS_eq, cmpS_ne, cmpI_lt, cmpI_le, cmpI_gt, cmpI_ge, Bool.not_eq_true, decide_true, decide_false, len_tab]) (by omega)
  obtain ⟨ρ', S', e1, x, rfl, e2⟩ := forGo_all (src := .rng 0 n) (t := .name 6) (body := evSs T27 FU c__law_lead_b2) (items := (List.range n).map fun (p : Nat) => U.int (p : Int))
    (fun p ρ S' => ∃ x, ρ = llR W i j t S.length n x5 x x7 x8 x9 ∧ S' = S ++ tabO n n fun c d => if c = i then v i d + (if d < p then v j d else 0) else v c d)
    (fun _ _ S' _ => over_rngR (I := fun _ => True) S' trivial _) (n := n) (ρ := llR W i j t S.length n x5 x6 x7 x8 x9) (S := S ++ tabO n n v) (by
      intro p u ρ S' hx ⟨x, hρ, hS⟩
      subst hρ hS
      have hp : p < n := by
        have := (List.getElem?_eq_some_iff.mp hx).1
        simpa using this
      rw [rng_at hp] at hx
      cases hx
      refine ⟨_, rfl, _, _, ll_b2 (x5 := x5) (x7 := x7) (x8 := x8) (x9 := x9) hi hj hp, some (.int p), rfl, ?_⟩
      refine congrArg (S ++ ·) (tabO_congr fun c d hc hd => ?_)
      by_cases q : c = i
      · rw [if_pos q, if_pos q]
        by_cases qd : d = p
        · subst qd
          simp [Ne.symm hij]
        · rw [if_neg qd, if_pos rfl]
          by_cases ql : d < p
          · rw [if_pos ql, if_pos (by omega)]
          · rw [if_neg ql, if_neg (by omega)]
      · simp only [if_neg q]) (by simp) ⟨x6, rfl, by
        refine congrArg (S ++ ·) (tabO_congr fun c d hc hd => ?_)
        by_cases q : c = i
        · rw [if_pos q, q, if_neg (by omega)]; omega
        · rw [if_neg q]⟩
  refine ⟨x, (evS_for hI).trans (e1.trans ?_)⟩
  rw [e2]
  refine congrArg (SR.nx _) (congrArg (S ++ ·) (tabO_congr fun c d hc hd => ?_))
  by_cases q : c = i
  · rw [if_pos q, if_pos q, if_pos (by simpa using hd)]
  · rw [if_neg q, if_neg q]
end
end K

set_option Elab.async false
set_option linter.all false
set_option maxRecDepth 100000
set_option maxHeartbeats 1600000
set_option exponentiation.threshold 500
namespace K
open PySem PySem.Spec PyProof.Rows L2 Z
section
variable {n i j : Nat} {w : Nat → Nat → Int}
/-- one lead -/
theorem ll_b3 {S : Sto} {W : U} {t : Int} {x5 x6 x7 x8 x9 : Option U} {v : Nat → Nat → Int} (hn : n ≤ 8) (hi : i < n) (hj : j < n) (hij : i ≠ j) (hv : v i j ≠ 0) :
    ∃ x, evSs T27 FU c__law_lead_b3 (llR W i j t S.length n x5 x6 x7 x8 x9) (S ++ tabO n n v) = .nx (llR W i j t S.length n x5 x x7 x8 x9) (S ++ tabO n n (ledF v i j 1)) := by
  have hd : decide (v i j = 0) = false := by simp [hv]
  have t0 : ev T27 (.cmp .eq (.idx (.idx (.var 4) (.var 1)) (.var 2)) (.int 0)) (llR W i j t S.length n x5 x6 x7 x8 x9) (S ++ tabO n n v) = .ok (.bl false) (S ++ tabO n n v) := by
    simp only [evSs, evS, ev, evs, evB, evO, evN_lst, evN_listOf, evN_cat, evI, Res.bind, Res.toS, SR.andThen, ofO, ofS, asgT, asgTs, List.getElem?_cons_zero, List.getElem?_cons_succ, List.set_cons_zero, List.set_cons_succ, Option.map_some, Option.map_none, Option.bind_some, Option.bind_none, List.length_cons, List.length_nil, if_true, if_false, SR.res, Bool.not_true, Bool.not_false, Bool.false_eq_true, wipeR, List.map_cons, List.map_nil, cmp_eqI, cmp_neI, cmpS_eq, cmpS_ne, cmpI_lt, cmpI_le, cmpI_gt, cmpI_ge, Bool.not_eq_true, decide_true, decide_false, idx_tab hi, idx_cell hi hj, hd]
  have st0 : evS T27 FU c__law_lead_b3_s0 (llR W i j t S.length n x5 x6 x7 x8 x9) (S ++ tabO n n v) = .nx (llR W i j t S.length n x5 x6 x7 x8 x9) (S ++ tabO n n v) := (evS_iteF t0).trans evSs_nil
  have q0 : ev T27 (.idx (.var 4) (.var 1)) (llR W i j t S.length n x5 x6 x7 x8 x9) (S ++ tabO n n v) = .ok (.obj (S.length + i)) (S ++ tabO n n v) := by simp only [evSs, evS, ev, evs, evB, evO, evN_lst, evN_listOf, evN_cat, evI, Res.bind, Res.toS, SR.andThen, ofO, ofS, asgT, asgTs, List.getElem?_cons_zero, List.getElem?_cons_succ, List.set_cons_zero, List.set_cons_succ, Option.map_some, Option.map_none, Option.bind_some, Option.bind_none, List.length_cons, List.length_nil, if_true, if_false, SR.res, Bool.not_true, Bool.not_false, Bool.false_eq_true, wipeR, List.map_cons, List.map_nil, cmp_eqI, cmp_neI, cmpS_eq, cmpS_ne, cmpI_lt, cmpI_le, cmpI_gt, cmpI_ge, Bool.not_eq_true, decide_true, decide_false, idx_tab hi]
  have q1 : ev T27 (.bin .sub (.idx (.idx (.var 4) (.var 1)) (.var 2)) (.int 1)) (llR W i j t S.length n x5 x6 x7 x8 x9) (S ++ tabO n n v) = .ok (.int (v i j - 1)) (S ++ tabO n n v) := by
    simp only [evSs, evS, ev, evs, evB, evO, evN_lst, evN_listOf, evN_cat, evI, Res.bind, Res.toS, SR.andThen, ofO, ofS, asgT, asgTs, List.getElem?_cons_zero, List.getElem?_cons_succ, List.set_cons_zero, List.set_cons_succ, Option.map_some, Option.map_none, Option.bind_some, Option.bind_none, List.length_cons, List.length_nil, if_true, if_false, SR.res, Bool.not_true, Bool.not_false, Bool.false_eq_true, wipeR, List.map_cons, List.map_nil, cmp_eqI, cmp_neI, cmpS_eq, cmpS_ne, cmpI_lt, cmpI_le, cmpI_gt, cmpI_ge, Bool.not_eq_true, decide_true, decide_false, idx_tab hi, idx_cell hi hj, binI_sub]
  have st1 : evS T27 FU c__law_lead_b3_s1 (llR W i j t S.length n x5 x6 x7 x8 x9) (S ++ tabO n n v) = .nx (llR W i j t S.length n x5 x6 x7 x8 x9) (S ++ tabO n n fun c d => if c = i then (if d = j then v i j - 1 else v i d) else v c d) :=
    (evS_setI q1 q0 (m := j) (S3 := S ++ tabO n n v) (by simp only [evSs, evS, ev, evs, evB, evO, evN_lst, evN_listOf, evN_cat, evI, Res.bind, Res.toS, SR.andThen, ofO, ofS, asgT, asgTs, List.getElem?_cons_zero, List.getElem?_cons_succ, List.set_cons_zero, List.set_cons_succ, Option.map_some, Option.map_none, Option.bind_some, Option.bind_none, List.length_cons, List.length_nil, if_true, if_false, SR.res, Bool.not_true, Bool.not_false, Bool.false_eq_true, wipeR, List.map_cons, List.map_nil, cmp_eqI, cmp_neI, cmpS_eq, cmpS_ne, cmpI_lt, cmpI_le, cmpI_gt, cmpI_ge, Bool.not_eq_true, decide_true, decide_false]) (tabO_at hi) (by simpa using hj)).trans (by rw [tab_set hi hj])
  obtain ⟨x, st2⟩ := ll_for2 (i := i) (j := j) (S := S) (W := W) (t := t) (x5 := x5) (x6 := x6) (x7 := x7) (x8 := x8) (x9 := x9) (v := fun c d => if c = i then (if d = j then v i j - 1 else v i d) else v c d) hn hi hj hij
  refine ⟨x, ?_⟩
  rw [x__law_lead_b3, evSs_cons st0, evSs_cons st1, evSs_cons st2, evSs_nil]
  refine congrArg (SR.nx _) (congrArg (S ++ ·) (tabO_congr fun c d hc hd => ?_))
  unfold ledF setRow
  by_cases q : c = i
  · rw [if_pos q, if_pos q]
    by_cases qd : d = j
    · subst qd
      simp [Ne.symm hij, one_eq]
      omega
    · simp [Ne.symm hij, qd, one_ne qd]
  · rw [if_neg q, if_neg q, if_neg q]
theorem led_succ {t : Int} (hij : i ≠ j) : ledF (ledF w i j t) i j 1 = ledF w i j (t + 1) := by
  funext a b
  unfold ledF setRow
  by_cases q : a = i
  · rw [if_pos q, if_pos q]
    dsimp only
    rw [if_pos rfl, if_neg (Ne.symm hij), Int.add_mul]
    omega
  · rw [if_neg q, if_neg q, if_neg q]
theorem led_zero (a b : Nat) : ledF w i j 0 a b = w a b := by
  unfold ledF setRow
  by_cases q : a = i
  · rw [if_pos q, q]
    dsimp only
    rw [Int.zero_mul, Int.add_zero]
  · rw [if_neg q]
/-- the law's leads, few -/
theorem e_law_lead {S : Sto} {t : Nat} (hn : n ≤ 8) (hi : i < n) (hj : j < n) (hij : i ≠ j) (ht : t ≤ 99) (hv : ∀ s : Nat, s < t → ledF w i j s i j ≠ 0) :
    ∃ S', f__law_lead [webU (mat n w), .int i, .int j, .int t] S = .ok (webU (mat n (ledF w i j t))) S' ∧ Ke S S' := by
  rw [b__law_lead, r__law_lead]
  have hN : N__law_lead.length - 4 = 6 := rfl
  simp only [hN, List.replicate, List.cons_append, List.nil_append]
  have st0 : evS T27 FU c__law_lead_s0 [some (webU (mat n w)), some (.int i), some (.int j), some (.int t), none, none, none, none, none, none] S = .nx (llR (webU (mat n w)) i j t S.length n none none none none none) (S ++ tabO n n w) := by
    refine evS_asgN (u := tabU S.length n) ?_
    rw [ev, ll_l1 hn]; rfl
  have h99 : decide ((99 : Int) < (t : Int)) = false := by simp; omega
  have t1 : ev T27 (.cmp .gt (.var 3) (.int 99)) (llR (webU (mat n w)) i j t S.length n none none none none none) (S ++ tabO n n w) = .ok (.bl false) (S ++ tabO n n w) := by simp only [evSs, evS, ev, evs, evB, evO, evN_lst, evN_listOf, evN_cat, evI, Res.bind, Res.toS, SR.andThen, ofO, ofS, asgT, asgTs, List.getElem?_cons_zero, List.getElem?_cons_succ, List.set_cons_zero, List.set_cons_succ, Option.map_some, Option.map_none, Option.bind_some, Option.bind_none, List.length_cons, List.length_nil, if_true, if_false, SR.res, Bool.not_true, Bool.not_false, Bool.false_eq_true, wipeR, List.map_cons, List.map_nil, cmp_eqI, cmp_neI, cmpS_eq, cmpS_ne, cmpI_lt, cmpI_le, cmpI_gt, cmpI_ge, Bool.not_eq_true, decide_true, decide_false, h99]
  have st1 : evS T27 FU c__law_lead_s1 (llR (webU (mat n w)) i j t S.length n none none none none none) (S ++ tabO n n w) = .nx (llR (webU (mat n w)) i j t S.length n none none none none none) (S ++ tabO n n w) := (evS_iteF t1).trans evSs_nil
  have hI : evI T27 (.rng1 (.var 3)) (llR (webU (mat n w)) i j t S.length n none none none none none) (S ++ tabO n n w) = .ok (.rng 0 t) (S ++ tabO n n w) := evI_rng1 (by simp only [evSs, evS, ev, evs, evB, evO, evN_lst, evN_listOf, evN_cat, evI, Res.bind, Res.toS, SR.andThen, ofO, ofS, asgT, asgTs, List.getElem?_cons_zero, List.getElem?_cons_succ, List.set_cons_zero, List.set_cons_succ, Option.map_some, Option.map_none, Option.bind_some, Option.bind_none, List.length_cons, List.length_nil, if_true, if_false, SR.res, Bool.not_true, Bool.not_false, Bool.false_eq_true, wipeR, List.map_cons, List.map_nil, cmp_eqI, cmp_neI, cmpS_eq, cmpS_ne, cmpI_lt, cmpI_le, cmpI_gt, cmpI_ge, Bool.not_eq_true, decide_true, decide_false]) (by omega)
  obtain ⟨ρ', S', e1, x6, x8, rfl, e2⟩ := forGo_all (src := .rng 0 t) (t := .name 8) (body := evSs T27 FU c__law_lead_b3) (items := (List.range t).map fun (p : Nat) => U.int (p : Int))
    (fun p ρ S' => ∃ x6 x8, ρ = llR (webU (mat n w)) i j t S.length n none x6 none x8 none ∧ S' = S ++ tabO n n (ledF w i j p))
    (fun _ _ S' _ => over_rngR (I := fun _ => True) S' trivial _) (n := t) (ρ := llR (webU (mat n w)) i j t S.length n none none none none none) (S := S ++ tabO n n w) (by
      intro p u ρ S' hx ⟨x6, x8, hρ, hS⟩
      subst hρ hS
      have hp : p < t := by
        have := (List.getElem?_eq_some_iff.mp hx).1
        simpa using this
      rw [rng_at hp] at hx
      cases hx
      obtain ⟨x, hb⟩ := ll_b3 (i := i) (j := j) (S := S) (W := webU (mat n w)) (t := t) (x5 := none) (x6 := x6) (x7 := none) (x8 := some (.int p)) (x9 := none) (v := ledF w i j p) hn hi hj hij (hv p hp)
      rw [led_succ hij] at hb
      exact ⟨_, rfl, _, _, hb, x, some (.int p), rfl, rfl⟩) (by simp) ⟨none, none, rfl, congrArg (S ++ ·) (tabO_congr fun c d _ _ => (led_zero c d).symm)⟩
  have hL : ((List.range t).map fun (p : Nat) => U.int (p : Int)).length = t := by simp
  rw [hL] at e2
  subst e2
  have st2 : evS T27 FU c__law_lead_s2 (llR (webU (mat n w)) i j t S.length n none none none none none) (S ++ tabO n n w) = .nx (llR (webU (mat n w)) i j t S.length n none x6 none x8 none) (S ++ tabO n n (ledF w i j t)) := (evS_for hI).trans e1
  have st3 : evS T27 FU c__law_lead_s3 (llR (webU (mat n w)) i j t S.length n none x6 none x8 none) (S ++ tabO n n (ledF w i j t)) = .rt (webU (mat n (ledF w i j t))) (S ++ tabO n n (ledF w i j t)) := by
    refine evS_ret ?_
    rw [ev, evs, ev, ll_l2 hn]
    simp only [Res.bind, evs, bi_tuple_tl, ofO]
    rw [webU_mat]
  refine ⟨S ++ tabO n n (ledF w i j t), ?_, Ke.app⟩
  rw [x__law_lead, evSs_cons st0, evSs_cons st1, evSs_cons st2, evSs_rt st3, SR.res]
end
end K

set_option Elab.async false
set_option linter.all false
set_option maxRecDepth 100000
set_option maxHeartbeats 1600000
set_option exponentiation.threshold 500
namespace K
open PySem PySem.Spec PyProof.Rows L2 Z
theorem e_law_whole {S : Sto} {x lo hi : Int} : f__law_whole [.int x, .int lo, .int hi] S = .ok (.bl (decide (lo ≤ x) && decide (x ≤ hi))) S := by
  rw [b__law_whole, r__law_whole]
  have hN : N__law_whole.length - 3 = 0 := rfl
  by_cases q : lo ≤ x <;> simp [evSs, evS, ev, evs, evB, evO, evN_lst, evN_listOf, evN_cat, evI, Res.bind, Res.toS, SR.andThen, ofO, ofS, asgT, asgTs, List.getElem?_cons_zero, List.getElem?_cons_succ, List.set_cons_zero, List.set_cons_succ, Option.map_some, Option.map_none, Option.bind_some, Option.bind_none, List.length_cons, List.length_nil, if_true, if_false, SR.res, Bool.not_true, Bool.not_false, Bool.false_eq_true, wipeR, List.map_cons, List.map_nil, cmp_eqI, cmp_neI, cmpS_eq, cmpS_ne, cmpI_lt, cmpI_le, cmpI_gt, cmpI_ge, Bool.not_eq_true, decide_true, decide_false, c__law_whole, hN, List.replicate, isiE, tyE, isiT, q]
/-! ### the places beside one -/
def suc (k p : Nat) : Nat := if p < k then p else p + 1
theorem filt_suc : ∀ n, n < 9 → ∀ k, k < n + 1 → (List.range (n + 1)).filter (fun p => decide (p ≠ k)) = (List.range n).map (suc k) := by decide +kernel
theorem evN_cnd {T : Th} {tg : CT} {it : CI} {c : CE} {cs : CEs} {elt : CE} {own : List (Str × Nat)} {ρ : Rho} {S S1 : Sto} {src : Src} {r : Res (List U)} (h : evI T it ρ S = .ok src S1)
    (P : ∀ st : U → Sto → Res (Option U), (∀ x S2, st x S2 = match asgT tg x (wipeR ρ (own.map (·.2))) with
      | none => .no
      | some ρ' => (ev T c ρ' S2).bind fun b S3 => match b with
        | .bl true => (ev T elt ρ' S3).bind fun u S4 => .ok (some u) S4
        | .bl false => .ok none S3
        | _ => .no) → lcGo src st (src.len S1) 0 [] S1 = r) : evN T (.lc tg it (.cons c cs) elt own) ρ S = r := by
  rw [evN, h]
  exact P _ fun _ _ => rfl
theorem lp_l1 {S : Sto} {n k : Nat} {a b c d f g h z y : Option U} (hn : n ≤ 8) (hk : k ≤ n) : evN T28 c__law_put_l1 [a, b, c, some (.int k), some (.int n), f, g, h, d, z, y] S = .ok ((List.range n).map fun p => .int (suc k p : Nat)) S := by
  have hI : evI T28 (.rng1 (.bin .add (.var 4) (.int 1))) [a, b, c, some (.int k), some (.int n), f, g, h, d, z, y] S = .ok (.rng 0 (n + 1)) S := evI_rng1 (by simp only [evSs, evS, ev, evs, evB, evO, evN_lst, evN_listOf, evN_cat, evI, Res.bind, Res.toS, SR.andThen, ofO, ofS, asgT, asgTs, List.getElem?_cons_zero, List.getElem?_cons_succ, List.set_cons_zero, List.set_cons_succ, Option.map_some, Option.map_none, Option.bind_some, Option.bind_none, List.length_cons, List.length_nil, if_true, if_false, SR.res, Bool.not_true, Bool.not_false, Bool.false_eq_true, wipeR, List.map_cons, List.map_nil, cmp_eqI, cmp_neI, cmpS_eq, cmpS_ne, cmpI_lt, cmpI_le, cmpI_gt, cmpI_ge, Bool.not_eq_true, decide_true, decide_false, binI_add]; rfl) (by omega)
  have key : ∀ st : U → Sto → Res (Option U), (∀ p, p < n + 1 → st (.int (p : Nat)) S = .ok (if p ≠ k then some (.int (p : Nat)) else none) S) → lcGo (.rng 0 (n + 1)) st (Src.len S (.rng 0 (n + 1))) 0 [] S = .ok ((List.range n).map fun p => .int (suc k p : Nat)) S := by
    intro st hst
    obtain ⟨acc, S', e1, e2, e3⟩ := lcGo_inv (src := .rng 0 (n + 1)) (st := st) (items := (List.range (n + 1)).map fun (p : Nat) => U.int (p : Int)) (fun i acc S' => acc = ((List.range i).filter (fun p => decide (p ≠ k))).map (fun (p : Nat) => U.int (p : Int)) ∧ S' = S)
      (fun i acc S' _ hi => over_rngR (I := fun _ => True) S' trivial i hi)
      (fun i x acc S' hx ⟨q1, q2⟩ => by
        have hi : i < n + 1 := by
          have := (List.getElem?_eq_some_iff.mp hx).1
          simpa using this
        rw [rng_at hi] at hx
        cases hx
        subst q2
        refine ⟨_, _, hst i hi, ?_, rfl⟩
        rw [q1, List.range_succ, List.filter_append, List.map_append]
        by_cases q : i = k
        · simp [q]
        · simp [q]) (by simp; exact sz_of (by omega)) (n + 1) 0 [] S (by simp) (Nat.le_refl 0) ⟨rfl, rfl⟩
    have hL : ((List.range (n + 1)).map fun (p : Nat) => U.int (p : Int)).length = n + 1 := by simp
    rw [hL] at e2
    subst e3
    show lcGo _ st (n + 1) 0 [] S' = _
    rw [e1, e2, filt_suc n (by omega) k (by omega), List.map_map]
    rfl
  refine evN_cnd hI fun st hst => key st fun p hp => ?_
  rw [hst]
  by_cases q : p = k
  · have hd : decide ((p : Int) = (k : Int)) = true := by simp [q]
    simp only [evSs, evS, ev, evs, evB, evO, evN_lst, evN_listOf, evN_cat, evI, Res.bind, Res.toS, SR.andThen, ofO, ofS, asgT, asgTs, List.getElem?_cons_zero, List.getElem?_cons_succ, List.set_cons_zero, List.set_cons_succ, Option.map_some, Option.map_none, Option.bind_some, Option.bind_none, List.length_cons, List.length_nil, if_true, if_false, SR.res, Bool.not_true, Bool.not_false, Bool.false_eq_true, wipeR, List.map_cons, List.map_nil, cmp_eqI, cmp_neI, cmpS_eq, cmpS_ne, cmpI_lt, cmpI_le, cmpI_gt, cmpI_ge, Bool.not_eq_true, decide_true, decide_false, hd]
    simp [q]
  · have hd : decide ((p : Int) = (k : Int)) = false := by simp; omega
    simp only [evSs, evS, ev, evs, evB, evO, evN_lst, evN_listOf, evN_cat, evI, Res.bind, Res.toS, SR.andThen, ofO, ofS, asgT, asgTs, List.getElem?_cons_zero, List.getElem?_cons_succ, List.set_cons_zero, List.set_cons_succ, Option.map_some, Option.map_none, Option.bind_some, Option.bind_none, List.length_cons, List.length_nil, if_true, if_false, SR.res, Bool.not_true, Bool.not_false, Bool.false_eq_true, wipeR, List.map_cons, List.map_nil, cmp_eqI, cmp_neI, cmpS_eq, cmpS_ne, cmpI_lt, cmpI_le, cmpI_gt, cmpI_ge, Bool.not_eq_true, decide_true, decide_false, hd]
    simp [q]
end K

set_option Elab.async false
set_option linter.all false
set_option maxRecDepth 100000
set_option maxHeartbeats 1600000
set_option exponentiation.threshold 500
namespace K
open PySem PySem.Spec PyProof.Rows L2 Z
theorem rep0 (m : Nat) : (List.replicate m [U.int 0]).flatten = (List.range m).map fun _ => U.int 0 := by
  induction m with
  | zero => rfl
  | succ m ih => rw [List.replicate_succ', List.flatten_append, ih, List.range_succ, List.map_append]; rfl
theorem ev_rep0 {T : Th} {e : CE} {ρ : Rho} {S : Sto} {m : Nat} (h : ev T e ρ S = .ok (.int m) S) (hm : m ≤ 1000) : ev T (.mk (.rep (.tmp (.lst (.cons (.int 0) .nil))) e)) ρ S = .ok (.obj S.length) (S ++ [.lst ((List.range m).map fun _ => .int 0)]) := by
  have z1 : (1 : Nat) ≤ sizeLine := sz_of (by omega)
  have e1 : ev T (.tmp (.lst (.cons (.int 0) .nil))) ρ S = .ok (.tl [.int 0]) S := by simp only [evSs, evS, ev, evs, evB, evO, evN_lst, evN_listOf, evN_cat, evI, Res.bind, Res.toS, SR.andThen, ofO, ofS, asgT, asgTs, List.getElem?_cons_zero, List.getElem?_cons_succ, List.set_cons_zero, List.set_cons_succ, Option.map_some, Option.map_none, Option.bind_some, Option.bind_none, List.length_cons, List.length_nil, if_true, if_false, SR.res, Bool.not_true, Bool.not_false, Bool.false_eq_true, wipeR, List.map_cons, List.map_nil, cmp_eqI, cmp_neI, cmpS_eq, cmpS_ne, cmpI_lt, cmpI_le, cmpI_gt, cmpI_ge, Bool.not_eq_true, decide_true, decide_false, Nat.zero_add, z1]
  have hz : (0 : Int) ≤ (m : Int) ∧ (m : Int) ≤ 1000 ∧ [U.int 0].length ≤ 1000 := ⟨by omega, by omega, by simp⟩
  have e2 : evN T (.rep (.tmp (.lst (.cons (.int 0) .nil))) e) ρ S = .ok ((List.range m).map fun _ => .int 0) S := by
    rw [evN, e1]
    simp only [Res.bind, h, lstH]
    rw [if_pos hz, Int.toNat_natCast, rep0]
  rw [ev, e2]; rfl
theorem lp_l2 {S : Sto} {n : Nat} {a b c d f g h z y x : Option U} (hn : n ≤ 8) : evN T28 c__law_put_l2 [a, b, c, x, some (.int n), f, g, h, d, z, y] S = .ok ((List.range (n + 1)).map fun i => .obj (S.length + i)) (S ++ tabO (n + 1) (n + 1) fun _ _ => 0) := by
  have hI : evI T28 (.rng1 (.bin .add (.var 4) (.int 1))) [a, b, c, x, some (.int n), f, g, h, d, z, y] S = .ok (.rng 0 (n + 1)) S := evI_rng1 (by simp only [evSs, evS, ev, evs, evB, evO, evN_lst, evN_listOf, evN_cat, evI, Res.bind, Res.toS, SR.andThen, ofO, ofS, asgT, asgTs, List.getElem?_cons_zero, List.getElem?_cons_succ, List.set_cons_zero, List.set_cons_succ, Option.map_some, Option.map_none, Option.bind_some, Option.bind_none, List.length_cons, List.length_nil, if_true, if_false, SR.res, Bool.not_true, Bool.not_false, Bool.false_eq_true, wipeR, List.map_cons, List.map_nil, cmp_eqI, cmp_neI, cmpS_eq, cmpS_ne, cmpI_lt, cmpI_le, cmpI_gt, cmpI_ge, Bool.not_eq_true, decide_true, decide_false, binI_add]; rfl) (by omega)
  refine evN_tab (src := .rng 0 (n + 1)) (fun (i : Nat) => U.int (i : Int)) (fun _ => (List.range (n + 1)).map fun _ => .int 0) hI over_rngR rfl (by omega) fun p S' hp _ => ⟨[a, b, c, x, some (.int n), f, g, some (.int p), d, z, y], rfl, ?_⟩
  exact ev_rep0 (by simp only [evSs, evS, ev, evs, evB, evO, evN_lst, evN_listOf, evN_cat, evI, Res.bind, Res.toS, SR.andThen, ofO, ofS, asgT, asgTs, List.getElem?_cons_zero, List.getElem?_cons_succ, List.set_cons_zero, List.set_cons_succ, Option.map_some, Option.map_none, Option.bind_some, Option.bind_none, List.length_cons, List.length_nil, if_true, if_false, SR.res, Bool.not_true, Bool.not_false, Bool.false_eq_true, wipeR, List.map_cons, List.map_nil, cmp_eqI, cmp_neI, cmpS_eq, cmpS_ne, cmpI_lt, cmpI_le, cmpI_gt, cmpI_ge, Bool.not_eq_true, decide_true, decide_false, binI_add]; rfl) (by omega)
end K

set_option Elab.async false
set_option linter.all false
set_option maxRecDepth 100000
set_option maxHeartbeats 1600000
set_option exponentiation.threshold 500
namespace K
open PySem PySem.Spec PyProof.Rows L2 Z
section
variable {n i j k : Nat} {w : Nat → Nat → Int}
theorem suc_lt {k p n : Nat} (h : p < n) : suc k p < n + 1 := by unfold suc; split <;> omega
theorem suc_ne {k p : Nat} : suc k p ≠ k := by unfold suc; split <;> omega
theorem pre_suc {k p : Nat} : pre k (suc k p) = p := by
  unfold pre suc
  by_cases h : p < k
  · rw [if_pos h, if_pos h]
  · rw [if_neg h, if_neg (by omega)]; omega
theorem suc_pre {k a : Nat} (h : a ≠ k) : suc k (pre k a) = a := by
  unfold pre suc
  by_cases q : a < k
  · rw [if_pos q, if_pos q]
  · rw [if_neg q, if_neg (by omega)]; omega
def placesU (n k : Nat) : U := .tl ((List.range n).map fun p => .int (suc k p : Nat))
theorem idx_pl {S : Sto} {p : Nat} (h : p < n) : idxE S (placesU n k) (.int p) = some (.int (suc k p : Nat)) := by
  unfold placesU
  simp only [idxE, seqOf, lstOf]
  exact atI_nat (rng_at h)
def leftV (w : Nat → Nat → Int) (i j p q : Nat) : Int := w p q - (if q = j then one_ p i else 0)
/-- the table, filled to (p, q) -/
def partF (w : Nat → Nat → Int) (i j k p q : Nat) : Nat → Nat → Int := fun a b =>
  if a = k ∨ b = k then 0 else if pre k a < p ∨ (pre k a = p ∧ pre k b < q) then leftV w i j (pre k a) (pre k b) else 0
abbrev lpR (W : U) (i j k n b : Nat) (x7 x8 x9 x10 : Option U) : Rho := [some W, some (.int i), some (.int j), some (.int k), some (.int n), some (placesU n k), some (tabU b (n + 1)), x7, x8, x9, x10]
theorem lp_b1 {S : Sto} {p q : Nat} {x9 x10 : Option U} (hp : p < n) (hq : q < n) :
    evSs T28 FU c__law_put_b1 (lpR (webU (mat n w)) i j k n S.length (some (.int p)) (some (.int q)) x9 x10) (S ++ tabO (n + 1) (n + 1) (partF w i j k p q)) = .nx (lpR (webU (mat n w)) i j k n S.length (some (.int p)) (some (.int q)) (some (.int (leftV w i j p q))) x10) (S ++ tabO (n + 1) (n + 1) (partF w i j k p (q + 1))) := by
  have t0 : ev T28 (.bop true (.cons (.cmp .eq (.var 7) (.var 1)) (.cons (.cmp .eq (.var 8) (.var 2)) .nil))) (lpR (webU (mat n w)) i j k n S.length (some (.int p)) (some (.int q)) x9 x10) (S ++ tabO (n + 1) (n + 1) (partF w i j k p q)) = .ok (.bl (decide (p = i) && decide (q = j))) (S ++ tabO (n + 1) (n + 1) (partF w i j k p q)) := by
    by_cases q1 : p = i
    · have hd : decide ((p : Int) = (i : Int)) = true := by simp [q1]
      simp only [evSs, evS, ev, evs, evB, evO, evN_lst, evN_listOf, evN_cat, evI, Res.bind, Res.toS, SR.andThen, ofO, ofS, asgT, asgTs, List.getElem?_cons_zero, List.getElem?_cons_succ, List.set_cons_zero, List.set_cons_succ, Option.map_some, Option.map_none, Option.bind_some, Option.bind_none, List.length_cons, List.length_nil, if_true, if_false, SR.res, Bool.not_true, Bool.not_false, Bool.false_eq_true, wipeR, List.map_cons, List.map_nil, cmp_eqI, cmp_neI, cmpS_eq, cmpS_ne, cmpI_lt, cmpI_le, cmpI_gt, cmpI_ge, Bool.not_eq_true, decide_true, decide_false, hd]
      simp [q1] <;> omega
    · have hd : decide ((p : Int) = (i : Int)) = false := by simp; omega
      simp only [evSs, evS, ev, evs, evB, evO, evN_lst, evN_listOf, evN_cat, evI, Res.bind, Res.toS, SR.andThen, ofO, ofS, asgT, asgTs, List.getElem?_cons_zero, List.getElem?_cons_succ, List.set_cons_zero, List.set_cons_succ, Option.map_some, Option.map_none, Option.bind_some, Option.bind_none, List.length_cons, List.length_nil, if_true, if_false, SR.res, Bool.not_true, Bool.not_false, Bool.false_eq_true, wipeR, List.map_cons, List.map_nil, cmp_eqI, cmp_neI, cmpS_eq, cmpS_ne, cmpI_lt, cmpI_le, cmpI_gt, cmpI_ge, Bool.not_eq_true, decide_true, decide_false, hd]
      simp [q1]
  have e0 : (if (decide (p = i) && decide (q = j)) = true then (1 : Int) else 0) = (if q = j then one_ p i else 0) := by
    unfold one_
    by_cases q1 : p = i <;> by_cases q2 : q = j <;> simp [q1, q2]
  have st0 : evS T28 FU c__law_put_b1_s0 (lpR (webU (mat n w)) i j k n S.length (some (.int p)) (some (.int q)) x9 x10) (S ++ tabO (n + 1) (n + 1) (partF w i j k p q)) = .nx (lpR (webU (mat n w)) i j k n S.length (some (.int p)) (some (.int q)) (some (.int (leftV w i j p q))) x10) (S ++ tabO (n + 1) (n + 1) (partF w i j k p q)) := by
    refine evS_asgN (u := .int (leftV w i j p q)) ?_
    have q1 : ev T28 (.bi .int (.cons (.bop true (.cons (.cmp .eq (.var 7) (.var 1)) (.cons (.cmp .eq (.var 8) (.var 2)) .nil))) .nil)) (lpR (webU (mat n w)) i j k n S.length (some (.int p)) (some (.int q)) x9 x10) (S ++ tabO (n + 1) (n + 1) (partF w i j k p q)) = .ok (.int (if q = j then one_ p i else 0)) (S ++ tabO (n + 1) (n + 1) (partF w i j k p q)) := by
      rw [ev, evs, t0]
      simp only [Res.bind, evs, bi_int_bl, ofO, e0]
    have q2 : ev T28 (.idx (.idx (.var 0) (.var 7)) (.var 8)) (lpR (webU (mat n w)) i j k n S.length (some (.int p)) (some (.int q)) x9 x10) (S ++ tabO (n + 1) (n + 1) (partF w i j k p q)) = .ok (.int (w p q)) (S ++ tabO (n + 1) (n + 1) (partF w i j k p q)) := by simp only [evSs, evS, ev, evs, evB, evO, evN_lst, evN_listOf, evN_cat, evI, Res.bind, Res.toS, SR.andThen, ofO, ofS, asgT, asgTs, List.getElem?_cons_zero, List.getElem?_cons_succ, List.set_cons_zero, List.set_cons_succ, Option.map_some, Option.map_none, Option.bind_some, Option.bind_none, List.length_cons, List.length_nil, if_true, if_false, SR.res, Bool.not_true, Bool.not_false, Bool.false_eq_true, wipeR, List.map_cons, List.map_nil, cmp_eqI, cmp_neI, cmpS_eq, cmpS_ne, cmpI_lt, cmpI_le, cmpI_gt, cmpI_ge, Bool.not_eq_true, decide_true, decide_false, idx_row hp, idx_num hq]
    rw [ev, q2]
    simp only [Res.bind, q1, binI_sub, ofO]
    rfl
  have q3 : ev T28 (.idx (.var 6) (.idx (.var 5) (.var 7))) (lpR (webU (mat n w)) i j k n S.length (some (.int p)) (some (.int q)) (some (.int (leftV w i j p q))) x10) (S ++ tabO (n + 1) (n + 1) (partF w i j k p q)) = .ok (.obj (S.length + suc k p)) (S ++ tabO (n + 1) (n + 1) (partF w i j k p q)) := by simp only [evSs, evS, ev, evs, evB, evO, evN_lst, evN_listOf, evN_cat, evI, Res.bind, Res.toS, SR.andThen, ofO, ofS, asgT, asgTs, List.getElem?_cons_zero, List.getElem?_cons_succ, List.set_cons_zero, List.set_cons_succ, Option.map_some, Option.map_none, Option.bind_some, Option.bind_none, List.length_cons, List.length_nil, if_true, if_false, SR.res, Bool.not_true, Bool.not_false, Bool.false_eq_true, wipeR, List.map_cons, List.map_nil, cmp_eqI, cmp_neI, cmpS_eq, cmpS_ne, cmpI_lt, cmpI_le, cmpI_gt, cmpI_ge, Bool.not_eq_true, decide_true, decide_false, idx_pl hp, idx_tab (suc_lt (k := k) hp)]
  have q4 : ev T28 (.idx (.var 5) (.var 8)) (lpR (webU (mat n w)) i j k n S.length (some (.int p)) (some (.int q)) (some (.int (leftV w i j p q))) x10) (S ++ tabO (n + 1) (n + 1) (partF w i j k p q)) = .ok (.int (suc k q : Nat)) (S ++ tabO (n + 1) (n + 1) (partF w i j k p q)) := by simp only [evSs, evS, ev, evs, evB, evO, evN_lst, evN_listOf, evN_cat, evI, Res.bind, Res.toS, SR.andThen, ofO, ofS, asgT, asgTs, List.getElem?_cons_zero, List.getElem?_cons_succ, List.set_cons_zero, List.set_cons_succ, Option.map_some, Option.map_none, Option.bind_some, Option.bind_none, List.length_cons, List.length_nil, if_true, if_false, SR.res, Bool.not_true, Bool.not_false, Bool.false_eq_true, wipeR, List.map_cons, List.map_nil, cmp_eqI, cmp_neI, cmpS_eq, cmpS_ne, cmpI_lt, cmpI_le, cmpI_gt, cmpI_ge, Bool.not_eq_true, decide_true, decide_false, idx_pl hq]
  have st1 : evS T28 FU c__law_put_b1_s1 (lpR (webU (mat n w)) i j k n S.length (some (.int p)) (some (.int q)) (some (.int (leftV w i j p q))) x10) (S ++ tabO (n + 1) (n + 1) (partF w i j k p q)) = .nx (lpR (webU (mat n w)) i j k n S.length (some (.int p)) (some (.int q)) (some (.int (leftV w i j p q))) x10) (S ++ tabO (n + 1) (n + 1) (partF w i j k p (q + 1))) := by
    refine (evS_setI (w := .int (leftV w i j p q)) (S1 := S ++ tabO (n + 1) (n + 1) (partF w i j k p q)) (by simp only [evSs, evS, ev, evs, evB, evO, evN_lst, evN_listOf, evN_cat, evI, Res.bind, Res.toS, SR.andThen, ofO, ofS, asgT, asgTs, List.getElem?_cons_zero, List.getElem?_cons_succ, List.set_cons_zero, List.set_cons_succ, Option.map_some, Option.map_none, Option.bind_some, Option.bind_none, List.length_cons, List.length_nil, if_true, if_false, SR.res, Bool.not_true, Bool.not_false, Bool.false_eq_true, wipeR, List.map_cons, List.map_nil, cmp_eqI, cmp_neI, cmpS_eq, cmpS_ne, cmpI_lt, cmpI_le, cmpI_gt, cmpI_ge, Bool.not_eq_true, decide_true, decide_false]) q3 q4 (tabO_at (suc_lt hp)) (by simpa using suc_lt hq)).trans ?_
    rw [tab_set (suc_lt hp) (suc_lt hq)]
    refine congrArg (SR.nx _) (congrArg (S ++ ·) (tabO_congr fun c d hc hd => ?_))
    unfold partF
    by_cases c1 : c = suc k p
    · rw [if_pos c1]
      subst c1
      by_cases c2 : d = suc k q
      · rw [if_pos c2]
        subst c2
        have g : ¬ (suc k p = k ∨ suc k q = k) := by simp [suc_ne]
        rw [if_neg g, pre_suc, pre_suc, if_pos (show p < p ∨ (p = p ∧ q < q + 1) from .inr ⟨rfl, by omega⟩)]
      · rw [if_neg c2]
        by_cases c3 : d = k
        · rw [if_pos (.inr c3), if_pos (.inr c3)]
        · have hne : pre k d ≠ q := fun e => c2 (by rw [← e, suc_pre c3])
          have g : ¬ (suc k p = k ∨ d = k) := by simp [suc_ne, c3]
          simp only [if_neg g, pre_suc]
          by_cases c4 : pre k d < q
          · rw [if_pos (show p < p ∨ (True ∧ pre k d < q) from .inr ⟨trivial, c4⟩), if_pos (show p < p ∨ (True ∧ pre k d < q + 1) from .inr ⟨trivial, by omega⟩)]
          · rw [if_neg (show ¬ (p < p ∨ (True ∧ pre k d < q)) by omega), if_neg (show ¬ (p < p ∨ (True ∧ pre k d < q + 1)) by omega)]
    · rw [if_neg c1]
      by_cases c3 : c = k ∨ d = k
      · rw [if_pos c3, if_pos c3]
      · rw [if_neg c3, if_neg c3]
        have hc' : c ≠ k := fun e => c3 (.inl e)
        have hne : pre k c ≠ p := fun e => c1 (by rw [← e, suc_pre hc'])
        by_cases c4 : pre k c < p
        · rw [if_pos (.inl c4), if_pos (.inl c4)]
        · rw [if_neg (show ¬ (pre k c < p ∨ (pre k c = p ∧ pre k d < q)) by omega), if_neg (show ¬ (pre k c < p ∨ (pre k c = p ∧ pre k d < q + 1)) by omega)]
  rw [x__law_put_b1, evSs_cons st0, evSs_cons st1, evSs_nil]
end
end K

set_option Elab.async false
set_option linter.all false
set_option maxRecDepth 100000
set_option maxHeartbeats 1600000
set_option exponentiation.threshold 500
namespace K
open PySem PySem.Spec PyProof.Rows L2 Z
section
variable {n i j k : Nat} {w : Nat → Nat → Int}
theorem pre_n {a : Nat} (hk : k ≤ n) (ha : a < n + 1) (h : a ≠ k) : pre k a < n := by
  unfold pre
  by_cases q : a < k
  · rw [if_pos q]; omega
  · rw [if_neg q]; omega
theorem part_row (hk : k ≤ n) {p a b : Nat} (ha : a < n + 1) (hb : b < n + 1) : partF w i j k p n a b = partF w i j k (p + 1) 0 a b := by
  unfold partF
  by_cases c3 : a = k ∨ b = k
  · rw [if_pos c3, if_pos c3]
  · rw [if_neg c3, if_neg c3]
    have := pre_n hk hb (fun e => c3 (.inr e))
    by_cases c4 : pre k a < p + 1
    · rw [if_pos (show pre k a < p ∨ (pre k a = p ∧ pre k b < n) by omega), if_pos (.inl c4)]
    · rw [if_neg (show ¬ (pre k a < p ∨ (pre k a = p ∧ pre k b < n)) by omega), if_neg (show ¬ (pre k a < p + 1 ∨ (pre k a = p + 1 ∧ pre k b < 0)) by omega)]
theorem lp_b2 {S : Sto} {p : Nat} {x8 x9 x10 : Option U} (hn : n ≤ 8) (hk : k ≤ n) (hp : p < n) :
    ∃ y8 y9, evSs T28 FU c__law_put_b2 (lpR (webU (mat n w)) i j k n S.length (some (.int p)) x8 x9 x10) (S ++ tabO (n + 1) (n + 1) (partF w i j k p 0)) = .nx (lpR (webU (mat n w)) i j k n S.length (some (.int p)) y8 y9 x10) (S ++ tabO (n + 1) (n + 1) (partF w i j k (p + 1) 0)) := by
  have hI : evI T28 (.rng1 (.var 4)) (lpR (webU (mat n w)) i j k n S.length (some (.int p)) x8 x9 x10) (S ++ tabO (n + 1) (n + 1) (partF w i j k p 0)) = .ok (.rng 0 n) (S ++ tabO (n + 1) (n + 1) (partF w i j k p 0)) := evI_rng1 (by simp only [evSs, evS, ev, evs, evB, evO, evN_lst, evN_listOf, evN_cat, evI, Res.bind, Res.toS, SR.andThen, ofO, ofS, asgT, asgTs, List.getElem?_cons_zero, List.getElem?_cons_succ, List.set_cons_zero, List.set_cons_succ, Option.map_some, Option.map_none, Option.bind_some, Option.bind_none, List.length_cons, List.length_nil, if_true, if_false, SR.res, Bool.not_true, Bool.not_false, Bool.false_eq_true, wipeR, List.map_cons, List.map_nil, cmp_eqI, cmp_neI, cmpS_eq, cmpS_ne, cmpI_lt, cmpI_le, cmpI_gt, cmpI_ge, Bool.not_eq_true, decide_true, decide_false]) (by omega)
  obtain ⟨ρ', S', e1, y8, y9, rfl, e2⟩ := forGo_all (src := .rng 0 n) (t := .name 8) (body := evSs T28 FU c__law_put_b1) (items := (List.range n).map fun (p : Nat) => U.int (p : Int))
    (fun q ρ S' => ∃ y8 y9, ρ = lpR (webU (mat n w)) i j k n S.length (some (.int p)) y8 y9 x10 ∧ S' = S ++ tabO (n + 1) (n + 1) (partF w i j k p q))
    (fun _ _ S' _ => over_rngR (I := fun _ => True) S' trivial _) (n := n) (ρ := lpR (webU (mat n w)) i j k n S.length (some (.int p)) x8 x9 x10) (S := S ++ tabO (n + 1) (n + 1) (partF w i j k p 0)) (by
      intro q u ρ S' hx ⟨y8, y9, hρ, hS⟩
      subst hρ hS
      have hq : q < n := by
        have := (List.getElem?_eq_some_iff.mp hx).1
        simpa using this
      rw [rng_at hq] at hx
      cases hx
      exact ⟨_, rfl, _, _, lp_b1 (x9 := y9) hp hq, some (.int q), _, rfl, rfl⟩) (by simp) ⟨x8, x9, rfl, rfl⟩
  have hL : ((List.range n).map fun (p : Nat) => U.int (p : Int)).length = n := by simp
  rw [hL] at e2
  subst e2
  refine ⟨y8, y9, ?_⟩
  refine (evSs_cons ((evS_for hI).trans e1)).trans (evSs_nil.trans (congrArg (SR.nx _) (congrArg (S ++ ·) (tabO_congr fun a b ha hb => part_row hk ha hb))))
end
end K

set_option Elab.async false
set_option linter.all false
set_option maxRecDepth 100000
set_option maxHeartbeats 1600000
set_option exponentiation.threshold 500
namespace K
open PySem PySem.Spec PyProof.Rows L2 Z
section
variable {n i j k : Nat} {w : Nat → Nat → Int}
theorem lp_l3 {S : Sto} {v : Nat → Nat → Int} {a b c d e f g h z x : Option U} {m : Nat} (hm : m ≤ 9) : evN T28 c__law_put_l3 [a, b, c, d, e, f, some (tabU S.length m), g, h, z, x] (S ++ tabO m m v) = .ok ((List.range m).map fun i => rowU (rw_ m (v i))) (S ++ tabO m m v) := by
  refine evN_rng (src := .seq (tabU S.length m)) (fun i => .obj (S.length + i)) _ ?_ (by unfold tabU; exact Over.tl) (by simp [Src.len, tabU, seqOf, lstOf]) (by omega) fun p hp => ⟨[a, b, c, d, e, f, some (tabU S.length m), g, h, z, some (.obj (S.length + p))], rfl, ?_⟩
  · simp [evSs, evS, ev, evs, evB, evO, evN_lst, evN_listOf, evN_cat, evI, Res.bind, Res.toS, SR.andThen, ofO, ofS, asgT, asgTs, List.getElem?_cons_zero, List.getElem?_cons_succ, List.set_cons_zero, List.set_cons_succ, Option.map_some, Option.map_none, Option.bind_some, Option.bind_none, List.length_cons, List.length_nil, if_true, if_false, SR.res, Bool.not_true, Bool.not_false, Bool.false_eq_true, wipeR, List.map_cons, List.map_nil, cmp_eqI, cmp_neI, cmpS_eq, cmpS_ne, cmpI_lt, cmpI_le, cmpI_gt, cmpI_ge, Bool.not_eq_true, decide_true, decide_false, tabU, seqOf, lstOf]
  · simp only [evSs, evS, ev, evs, evB, evO, evN_lst, evN_listOf, evN_cat, evI, Res.bind, Res.toS, SR.andThen, ofO, ofS, asgT, asgTs, List.getElem?_cons_zero, List.getElem?_cons_succ, List.set_cons_zero, List.set_cons_succ, Option.map_some, Option.map_none, Option.bind_some, Option.bind_none, List.length_cons, List.length_nil, if_true, if_false, SR.res, Bool.not_true, Bool.not_false, Bool.false_eq_true, wipeR, List.map_cons, List.map_nil, cmp_eqI, cmp_neI, cmpS_eq, cmpS_ne, cmpI_lt, cmpI_le, cmpI_gt, cmpI_ge, Bool.not_eq_true, decide_true, decide_false, bi_tuple_obj (tabO_at hp), rowU_rw]
theorem lp_for {S : Sto} {x7 x8 x9 x10 : Option U} (hn : n ≤ 8) (hk : k ≤ n) :
    ∃ y7 y8 y9, evS T28 FU c__law_put_s3 (lpR (webU (mat n w)) i j k n S.length x7 x8 x9 x10) (S ++ tabO (n + 1) (n + 1) (partF w i j k 0 0)) = .nx (lpR (webU (mat n w)) i j k n S.length y7 y8 y9 x10) (S ++ tabO (n + 1) (n + 1) (partF w i j k n 0)) := by
  have hI : evI T28 (.rng1 (.var 4)) (lpR (webU (mat n w)) i j k n S.length x7 x8 x9 x10) (S ++ tabO (n + 1) (n + 1) (partF w i j k 0 0)) = .ok (.rng 0 n) (S ++ tabO (n + 1) (n + 1) (partF w i j k 0 0)) := evI_rng1 (by simp only [evSs, evS, ev, evs, evB, evO, evN_lst, evN_listOf, evN_cat, evI, Res.bind, Res.toS, SR.andThen, ofO, ofS, asgT, asgTs, List.getElem?_cons_zero, List.getElem?_cons_succ, List.set_cons_zero, List.set_cons_succ, Option.map_some, Option.map_none, Option.bind_some, Option.bind_none, List.length_cons, List.length_nil, if_true, if_false, SR.res, Bool.not_true, Bool.not_false, Bool.false_eq_true, wipeR, List.map_cons, List.map_nil, cmp_eqI, cmp_neI, cmpS_eq, cmpS_ne, cmpI_lt, cmpI_le, cmpI_gt, cmpI_ge, Bool.not_eq_true, decide_true, decide_false]) (by omega)
  obtain ⟨ρ', S', e1, y7, y8, y9, rfl, e2⟩ := forGo_all (src := .rng 0 n) (t := .name 7) (body := evSs T28 FU c__law_put_b2) (items := (List.range n).map fun (p : Nat) => U.int (p : Int))
    (fun p ρ S' => ∃ y7 y8 y9, ρ = lpR (webU (mat n w)) i j k n S.length y7 y8 y9 x10 ∧ S' = S ++ tabO (n + 1) (n + 1) (partF w i j k p 0))
    (fun _ _ S' _ => over_rngR (I := fun _ => True) S' trivial _) (n := n) (ρ := lpR (webU (mat n w)) i j k n S.length x7 x8 x9 x10) (S := S ++ tabO (n + 1) (n + 1) (partF w i j k 0 0)) (by
      intro p u ρ S' hx ⟨y7, y8, y9, hρ, hS⟩
      subst hρ hS
      have hp : p < n := by
        have := (List.getElem?_eq_some_iff.mp hx).1
        simpa using this
      rw [rng_at hp] at hx
      cases hx
      obtain ⟨z8, z9, e⟩ := lp_b2 (i := i) (j := j) (w := w) (S := S) (x8 := y8) (x9 := y9) (x10 := x10) hn hk hp
      exact ⟨_, rfl, _, _, e, some (.int p), z8, z9, rfl, rfl⟩) (by simp) ⟨x7, x8, x9, rfl, rfl⟩
  have hL : ((List.range n).map fun (p : Nat) => U.int (p : Int)).length = n := by simp
  rw [hL] at e2
  subst e2
  exact ⟨y7, y8, y9, (evS_for hI).trans e1⟩
end
end K

set_option Elab.async false
set_option linter.all false
set_option maxRecDepth 100000
set_option maxHeartbeats 1600000
set_option exponentiation.threshold 500
namespace K
open PySem PySem.Spec PyProof.Rows L2 Z
section
variable {n i j k : Nat} {w : Nat → Nat → Int}
theorem part_zero (a b : Nat) : partF w i j k 0 0 a b = 0 := by
  unfold partF
  by_cases c : a = k ∨ b = k
  · rw [if_pos c]
  · rw [if_neg c, if_neg (show ¬ (pre k a < 0 ∨ (pre k a = 0 ∧ pre k b < 0)) by omega)]
/-- with the last two cells -/
theorem part_put (hi : i < n) (hj : j < n) (hk : k ≤ n) {a b : Nat} (ha : a < n + 1) (hb : b < n + 1) :
    (if a = k then (if b = suc k j then (1 : Int) else (if k = suc k i then (if b = k then 1 else partF w i j k n 0 k b) else partF w i j k n 0 k b)) else (if a = suc k i then (if b = k then 1 else partF w i j k n 0 a b) else partF w i j k n 0 a b)) = putF w i j k a b := by
  unfold putF
  have hs : ¬ k = suc k i := fun e => suc_ne e.symm
  by_cases ca : a = k
  · rw [if_pos ca, if_pos ca]
    by_cases cb : b = k
    · have : ¬ b = suc k j := fun e => suc_ne (e.symm.trans cb)
      rw [if_neg this, if_neg hs, if_pos cb]
      unfold partF
      rw [if_pos (.inl rfl)]
    · simp only [if_neg cb]
      by_cases cj : b = suc k j
      · rw [if_pos cj, cj, pre_suc, one_eq]
      · rw [if_neg cj, if_neg hs, one_ne (fun e => cj (by rw [← e, suc_pre cb]))]
        unfold partF
        rw [if_pos (.inl rfl)]
  · rw [if_neg ca, if_neg ca]
    by_cases cb : b = k
    · simp only [if_pos cb]
      by_cases ci : a = suc k i
      · rw [if_pos ci, ci, pre_suc, one_eq]
      · rw [if_neg ci, one_ne (fun e => ci (by rw [← e, suc_pre ca]))]
        unfold partF
        rw [if_pos (.inr cb)]
    · simp only [if_neg cb]
      have e : partF w i j k n 0 a b = leftV w i j (pre k a) (pre k b) := by
        unfold partF
        rw [if_neg (show ¬ (a = k ∨ b = k) from fun z => z.elim ca cb), if_pos (.inl (pre_n hk ha ca))]
      by_cases ci : a = suc k i
      · rw [if_pos ci, e]; rfl
      · rw [if_neg ci, e]; rfl
end
end K

set_option Elab.async false
set_option linter.all false
set_option maxRecDepth 100000
set_option maxHeartbeats 1600000
set_option exponentiation.threshold 500
namespace K
open PySem PySem.Spec PyProof.Rows L2 Z
section
variable {n i j k : Nat} {w : Nat → Nat → Int}
theorem e_law_put {S : Sto} (hn : n ≤ 8) (hi : i < n) (hj : j < n) (hk : k ≤ n) : ∃ S', f__law_put [webU (mat n w), .int i, .int j, .int k] S = .ok (webU (mat (n + 1) (putF w i j k))) S' ∧ Ke S S' := by
  rw [b__law_put, r__law_put]
  have hN : N__law_put.length - 4 = 7 := rfl
  simp only [hN, List.replicate, List.cons_append, List.nil_append]
  have st0 : evS T28 FU c__law_put_s0 [some (webU (mat n w)), some (.int i), some (.int j), some (.int k), none, none, none, none, none, none, none] S = .nx [some (webU (mat n w)), some (.int i), some (.int j), some (.int k), some (.int n), none, none, none, none, none, none] S := evS_asgN (u := .int n) (by simp only [evSs, evS, ev, evs, evB, evO, evN_lst, evN_listOf, evN_cat, evI, Res.bind, Res.toS, SR.andThen, ofO, ofS, asgT, asgTs, List.getElem?_cons_zero, List.getElem?_cons_succ, List.set_cons_zero, List.set_cons_succ, Option.map_some, Option.map_none, Option.bind_some, Option.bind_none, List.length_cons, List.length_nil, if_true, if_false, SR.res, Bool.not_true, Bool.not_false, Bool.false_eq_true, wipeR, List.map_cons, List.map_nil, cmp_eqI, cmp_neI, cmpS_eq, cmpS_ne, cmpI_lt, cmpI_le, cmpI_gt, cmpI_ge, Bool.not_eq_true, decide_true, decide_false, len_mat])
  have st1 : evS T28 FU c__law_put_s1 [some (webU (mat n w)), some (.int i), some (.int j), some (.int k), some (.int n), none, none, none, none, none, none] S = .nx [some (webU (mat n w)), some (.int i), some (.int j), some (.int k), some (.int n), some (placesU n k), none, none, none, none, none] S := by
    refine evS_asgN (u := placesU n k) ?_
    rw [ev, lp_l1 hn hk]; rfl
  have st2 : evS T28 FU c__law_put_s2 [some (webU (mat n w)), some (.int i), some (.int j), some (.int k), some (.int n), some (placesU n k), none, none, none, none, none] S = .nx (lpR (webU (mat n w)) i j k n S.length none none none none) (S ++ tabO (n + 1) (n + 1) (partF w i j k 0 0)) := by
    have e : (S ++ tabO (n + 1) (n + 1) fun _ _ => 0) = S ++ tabO (n + 1) (n + 1) (partF w i j k 0 0) := congrArg (S ++ ·) (tabO_congr fun a b _ _ => (part_zero a b).symm)
    refine evS_asgN (u := tabU S.length (n + 1)) ?_
    rw [ev, lp_l2 hn, e]; rfl
  obtain ⟨y7, y8, y9, st3⟩ := lp_for (i := i) (j := j) (k := k) (w := w) (S := S) (x7 := none) (x8 := none) (x9 := none) (x10 := none) hn hk
  -- rows[places[i]][k] = 1
  have k1 : k < n + 1 := by omega
  have q4 : ev T28 (.idx (.var 6) (.idx (.var 5) (.var 1))) (lpR (webU (mat n w)) i j k n S.length y7 y8 y9 none) (S ++ tabO (n + 1) (n + 1) (partF w i j k n 0)) = .ok (.obj (S.length + suc k i)) (S ++ tabO (n + 1) (n + 1) (partF w i j k n 0)) := by simp only [evSs, evS, ev, evs, evB, evO, evN_lst, evN_listOf, evN_cat, evI, Res.bind, Res.toS, SR.andThen, ofO, ofS, asgT, asgTs, List.getElem?_cons_zero, List.getElem?_cons_succ, List.set_cons_zero, List.set_cons_succ, Option.map_some, Option.map_none, Option.bind_some, Option.bind_none, List.length_cons, List.length_nil, if_true, if_false, SR.res, Bool.not_true, Bool.not_false, Bool.false_eq_true, wipeR, List.map_cons, List.map_nil, cmp_eqI, cmp_neI, cmpS_eq, cmpS_ne, cmpI_lt, cmpI_le, cmpI_gt, cmpI_ge, Bool.not_eq_true, decide_true, decide_false, idx_pl hi, idx_tab (suc_lt (k := k) hi)]
  have st4 : evS T28 FU c__law_put_s4 (lpR (webU (mat n w)) i j k n S.length y7 y8 y9 none) (S ++ tabO (n + 1) (n + 1) (partF w i j k n 0)) = .nx (lpR (webU (mat n w)) i j k n S.length y7 y8 y9 none) (S ++ tabO (n + 1) (n + 1) fun c d => if c = suc k i then (if d = k then 1 else partF w i j k n 0 (suc k i) d) else partF w i j k n 0 c d) :=
    (evS_setI (w := .int 1) (m := k) (S1 := S ++ tabO (n + 1) (n + 1) (partF w i j k n 0)) (S3 := S ++ tabO (n + 1) (n + 1) (partF w i j k n 0)) (by simp only [evSs, evS, ev, evs, evB, evO, evN_lst, evN_listOf, evN_cat, evI, Res.bind, Res.toS, SR.andThen, ofO, ofS, asgT, asgTs, List.getElem?_cons_zero, List.getElem?_cons_succ, List.set_cons_zero, List.set_cons_succ, Option.map_some, Option.map_none, Option.bind_some, Option.bind_none, List.length_cons, List.length_nil, if_true, if_false, SR.res, Bool.not_true, Bool.not_false, Bool.false_eq_true, wipeR, List.map_cons, List.map_nil, cmp_eqI, cmp_neI, cmpS_eq, cmpS_ne, cmpI_lt, cmpI_le, cmpI_gt, cmpI_ge, Bool.not_eq_true, decide_true, decide_false]) q4 (by simp only [evSs, evS, ev, evs, evB, evO, evN_lst, evN_listOf, evN_cat, evI, Res.bind, Res.toS, SR.andThen, ofO, ofS, asgT, asgTs, List.getElem?_cons_zero, List.getElem?_cons_succ, List.set_cons_zero, List.set_cons_succ, Option.map_some, Option.map_none, Option.bind_some, Option.bind_none, List.length_cons, List.length_nil, if_true, if_false, SR.res, Bool.not_true, Bool.not_false, Bool.false_eq_true, wipeR, List.map_cons, List.map_nil, cmp_eqI, cmp_neI, cmpS_eq, cmpS_ne, cmpI_lt, cmpI_le, cmpI_gt, cmpI_ge, Bool.not_eq_true, decide_true, decide_false]) (tabO_at (suc_lt hi)) (by simpa using k1)).trans (by rw [tab_set (suc_lt hi) k1])
  have q5 : ∀ v, ev T28 (.idx (.var 6) (.var 3)) (lpR (webU (mat n w)) i j k n S.length y7 y8 y9 none) (S ++ tabO (n + 1) (n + 1) v) = .ok (.obj (S.length + k)) (S ++ tabO (n + 1) (n + 1) v) := fun v => by simp only [evSs, evS, ev, evs, evB, evO, evN_lst, evN_listOf, evN_cat, evI, Res.bind, Res.toS, SR.andThen, ofO, ofS, asgT, asgTs, List.getElem?_cons_zero, List.getElem?_cons_succ, List.set_cons_zero, List.set_cons_succ, Option.map_some, Option.map_none, Option.bind_some, Option.bind_none, List.length_cons, List.length_nil, if_true, if_false, SR.res, Bool.not_true, Bool.not_false, Bool.false_eq_true, wipeR, List.map_cons, List.map_nil, cmp_eqI, cmp_neI, cmpS_eq, cmpS_ne, cmpI_lt, cmpI_le, cmpI_gt, cmpI_ge, Bool.not_eq_true, decide_true, decide_false, idx_tab k1]
  have q6 : ∀ v, ev T28 (.idx (.var 5) (.var 2)) (lpR (webU (mat n w)) i j k n S.length y7 y8 y9 none) (S ++ tabO (n + 1) (n + 1) v) = .ok (.int (suc k j : Nat)) (S ++ tabO (n + 1) (n + 1) v) := fun v => by simp only [evSs, evS, ev, evs, evB, evO, evN_lst, evN_listOf, evN_cat, evI, Res.bind, Res.toS, SR.andThen, ofO, ofS, asgT, asgTs, List.getElem?_cons_zero, List.getElem?_cons_succ, List.set_cons_zero, List.set_cons_succ, Option.map_some, Option.map_none, Option.bind_some, Option.bind_none, List.length_cons, List.length_nil, if_true, if_false, SR.res, Bool.not_true, Bool.not_false, Bool.false_eq_true, wipeR, List.map_cons, List.map_nil, cmp_eqI, cmp_neI, cmpS_eq, cmpS_ne, cmpI_lt, cmpI_le, cmpI_gt, cmpI_ge, Bool.not_eq_true, decide_true, decide_false, idx_pl hj]
  have st5 : ∀ v, evS T28 FU c__law_put_s5 (lpR (webU (mat n w)) i j k n S.length y7 y8 y9 none) (S ++ tabO (n + 1) (n + 1) v) = .nx (lpR (webU (mat n w)) i j k n S.length y7 y8 y9 none) (S ++ tabO (n + 1) (n + 1) fun c d => if c = k then (if d = suc k j then 1 else v k d) else v c d) := fun v =>
    (evS_setI (w := .int 1) (m := suc k j) (S1 := S ++ tabO (n + 1) (n + 1) v) (S3 := S ++ tabO (n + 1) (n + 1) v) (by simp only [evSs, evS, ev, evs, evB, evO, evN_lst, evN_listOf, evN_cat, evI, Res.bind, Res.toS, SR.andThen, ofO, ofS, asgT, asgTs, List.getElem?_cons_zero, List.getElem?_cons_succ, List.set_cons_zero, List.set_cons_succ, Option.map_some, Option.map_none, Option.bind_some, Option.bind_none, List.length_cons, List.length_nil, if_true, if_false, SR.res, Bool.not_true, Bool.not_false, Bool.false_eq_true, wipeR, List.map_cons, List.map_nil, cmp_eqI, cmp_neI, cmpS_eq, cmpS_ne, cmpI_lt, cmpI_le, cmpI_gt, cmpI_ge, Bool.not_eq_true, decide_true, decide_false]) (q5 v) (q6 v) (tabO_at k1) (by simpa using suc_lt hj)).trans (by rw [tab_set k1 (suc_lt hj)])
  have st6 : ∀ v, evS T28 FU c__law_put_s6 (lpR (webU (mat n w)) i j k n S.length y7 y8 y9 none) (S ++ tabO (n + 1) (n + 1) v) = .rt (webU (mat (n + 1) v)) (S ++ tabO (n + 1) (n + 1) v) := fun v => by
    refine evS_ret ?_
    rw [ev, evs, ev, lp_l3 (by omega)]
    simp only [Res.bind, evs, bi_tuple_tl, ofO]
    rw [webU_mat]
  have fin : mat (n + 1) (fun c d => if c = k then (if d = suc k j then (1 : Int) else (if k = suc k i then (if d = k then 1 else partF w i j k n 0 (suc k i) d) else partF w i j k n 0 k d)) else (if c = suc k i then (if d = k then 1 else partF w i j k n 0 (suc k i) d) else partF w i j k n 0 c d)) = mat (n + 1) (putF w i j k) := mat_congr fun a b ha hb => by
    rw [← part_put hi hj hk ha hb]
    by_cases c1 : a = suc k i
    · subst c1; simp [suc_ne, Ne.symm (suc_ne (k := k) (p := i))]
    · simp [c1, Ne.symm (suc_ne (k := k) (p := i))]
  have r : (evSs T28 FU c__law_put [some (webU (mat n w)), some (.int i), some (.int j), some (.int k), none, none, none, none, none, none, none] S).res = .ok (webU (mat (n + 1) (putF w i j k))) (S ++ tabO (n + 1) (n + 1) fun c d => if c = k then (if d = suc k j then (1 : Int) else (if k = suc k i then (if d = k then 1 else partF w i j k n 0 (suc k i) d) else partF w i j k n 0 k d)) else (if c = suc k i then (if d = k then 1 else partF w i j k n 0 (suc k i) d) else partF w i j k n 0 c d)) := by
    rw [x__law_put, evSs_cons st0, evSs_cons st1, evSs_cons st2, evSs_cons st3, evSs_cons st4, evSs_cons (st5 _), evSs_rt (st6 _), SR.res, fin]
  exact ⟨_, r, Ke.app⟩
end
end K

set_option Elab.async false
set_option linter.all false
set_option maxRecDepth 100000
set_option maxHeartbeats 1600000
set_option exponentiation.threshold 500
namespace K
open PySem PySem.Spec PyProof.Rows L2 Z
section
variable {n i j k : Nat} {w : Nat → Nat → Int}
theorem cmp_lead {S : Sto} : cmpE S .eq (.str "lead") (.str "lead") = some true := by kernel_rfl
theorem cmp_putput {S : Sto} : cmpE S .eq (.str "put") (.str "put") = some true := by kernel_rfl
theorem cmp_leadput {S : Sto} : cmpE S .eq (.str "lead") (.str "put") = some false := by kernel_rfl
theorem nin_24 {S : Sto} : cmpE S .nin (.int 4) (.tup [.int 2, .int 4]) = some false := by kernel_rfl
theorem nin_lead {S : Sto} : cmpE S .nin (.str "lead") (.tup [.str "lead", .str "bring", .str "unlead", .str "unbring"]) = some false := by kernel_rfl
theorem e_law_four {S : Sto} {t : Nat} (hn : n ≤ 8) (hi : i < n) (hj : j < n) (hij : i ≠ j) (ht : t ≤ 99) (hv : ∀ s : Nat, s < t → ledF w i j s i j ≠ 0) :
    ∃ S', f__law_four [.str "lead", webU (mat n w), .int i, .int j, .int t] S = .ok (webU (mat n (ledF w i j t))) S' ∧ Ke S S' := by
  obtain ⟨S', e, ke⟩ := e_law_lead (S := S) hn hi hj hij ht hv
  refine ⟨S', ?_, ke⟩
  rw [b__law_four, r__law_four]
  have hN : N__law_four.length - 5 = 2 := rfl
  simp only [hN, List.replicate, List.cons_append, List.nil_append]
  have st0 : evS T30 FU c__law_four_s0 [some (.str "lead"), some (webU (mat n w)), some (.int i), some (.int j), some (.int t), none, none] S = .rt (webU (mat n (ledF w i j t))) S' := by
    refine (evS_iteT (S1 := S) (by simp only [evSs, evS, ev, evs, evB, evO, evN_lst, evN_listOf, evN_cat, evI, Res.bind, Res.toS, SR.andThen, ofO, ofS, asgT, asgTs, List.getElem?_cons_zero, List.getElem?_cons_succ, List.set_cons_zero, List.set_cons_succ, Option.map_some, Option.map_none, Option.bind_some, Option.bind_none, List.length_cons, List.length_nil, if_true, if_false, SR.res, Bool.not_true, Bool.not_false, Bool.false_eq_true, wipeR, List.map_cons, List.map_nil, cmp_eqI, cmp_neI, cmpS_eq, cmpS_ne, cmpI_lt, cmpI_le, cmpI_gt, cmpI_ge, Bool.not_eq_true, decide_true, decide_false, cmp_lead])).trans (evSs_rt (evS_ret ((ev_callF d__law_four___law_lead t__law_four___law_lead (us := [webU (mat n w), .int i, .int j, .int t]) (S1 := S) (by simp [evs, ev, Res.bind])).trans e)))
  rw [x__law_four, evSs_rt st0, SR.res]
end
end K

set_option Elab.async false
set_option linter.all false
set_option maxRecDepth 100000
set_option maxHeartbeats 1600000
set_option exponentiation.threshold 500
namespace K
open PySem PySem.Spec PyProof.Rows L2 Z
section
variable {n i j k : Nat} {w : Nat → Nat → Int}
theorem ev_nots {T : Th} {a : CE} {ρ : Rho} {S S1 : Sto} {b : Bool} (h : ev T a ρ S = .ok (.bl b) S1) : ev T (.not a) ρ S = .ok (.bl (!b)) S1 := by rw [ev, h]; rfl
abbrev lbR (n : Nat) (w : Nat → Nat → Int) (x : Str) (i j : Nat) (t : Int) (r : List (Option U)) : Rho := [some (webU (mat n w)), some (.tup [.str x, .int i, .int j, .int t])] ++ r
theorem lb_pre {S : Sto} {x : Str} {t : Int} {ss : CSs} (hn0 : 1 ≤ n) (hi : i < n) (hj : j < n) :
    evSs T31 FU (.cons c__law_behind_s0 (.cons c__law_behind_s1 (.cons c__law_behind_s2 (.cons c__law_behind_s3 (.cons c__law_behind_s4 ss))))) (lbR n w x i j t [none, none, none, none, none, none]) S = evSs T31 FU ss (lbR n w x i j t [some (.int ((n : Int) - 1)), some (.str x), some (.int i), some (.int j), some (.int t), none]) S := by
  have st0 : evS T31 FU c__law_behind_s0 (lbR n w x i j t [none, none, none, none, none, none]) S = .nx (lbR n w x i j t [none, none, none, none, none, none]) S := by
    have z2 : (2 : Nat) ≤ sizeLine := sz_of (by omega)
    refine (evS_iteF (S1 := S) ?_).trans evSs_nil
    have b1 : isiE S (.tup [.str x, .int i, .int j, .int t]) .tuple = some true := rfl
    have b4 : (((0 + 1 + 1 + 1 + 1 : Nat)) : Int) = 4 := rfl
    simp only [evSs, evS, ev, evs, evB, evO, evN_lst, evN_listOf, evN_cat, evI, Res.bind, Res.toS, SR.andThen, ofO, ofS, asgT, asgTs, List.getElem?_cons_zero, List.getElem?_cons_succ, List.set_cons_zero, List.set_cons_succ, Option.map_some, Option.map_none, Option.bind_some, Option.bind_none, List.length_cons, List.length_nil, if_true, if_false, SR.res, Bool.not_true, Bool.not_false, Bool.false_eq_true, wipeR, List.map_cons, List.map_nil, cmp_eqI, cmp_neI, cmpS_eq, cmpS_ne, cmpI_lt, cmpI_le, cmpI_gt, cmpI_ge, Bool.not_eq_true, decide_true, decide_false, lbR, List.cons_append, List.nil_append, b1, bi_len_tup, b4, Nat.zero_add, Nat.reduceAdd, z2]
    have b5 : ((4 : Nat) : Int) = 4 := rfl
    simp only [b5, nin_24, Option.map_some]
  have st1 : evS T31 FU c__law_behind_s1 (lbR n w x i j t [none, none, none, none, none, none]) S = .nx (lbR n w x i j t [some (.int ((n : Int) - 1)), none, none, none, none, none]) S := evS_asgN (u := .int ((n : Int) - 1)) (by simp only [evSs, evS, ev, evs, evB, evO, evN_lst, evN_listOf, evN_cat, evI, Res.bind, Res.toS, SR.andThen, ofO, ofS, asgT, asgTs, List.getElem?_cons_zero, List.getElem?_cons_succ, List.set_cons_zero, List.set_cons_succ, Option.map_some, Option.map_none, Option.bind_some, Option.bind_none, List.length_cons, List.length_nil, if_true, if_false, SR.res, Bool.not_true, Bool.not_false, Bool.false_eq_true, wipeR, List.map_cons, List.map_nil, cmp_eqI, cmp_neI, cmpS_eq, cmpS_ne, cmpI_lt, cmpI_le, cmpI_gt, cmpI_ge, Bool.not_eq_true, decide_true, decide_false, lbR, List.cons_append, List.nil_append, len_mat, binI_sub])
  have st2 : evS T31 FU c__law_behind_s2 (lbR n w x i j t [some (.int ((n : Int) - 1)), none, none, none, none, none]) S = .nx (lbR n w x i j t [some (.int ((n : Int) - 1)), none, none, none, none, none]) S := by
    refine (evS_iteF (S1 := S) ?_).trans evSs_nil
    have b5 : decide (((4 : Nat) : Int) = 2) = false := rfl
    simp only [evSs, evS, ev, evs, evB, evO, evN_lst, evN_listOf, evN_cat, evI, Res.bind, Res.toS, SR.andThen, ofO, ofS, asgT, asgTs, List.getElem?_cons_zero, List.getElem?_cons_succ, List.set_cons_zero, List.set_cons_succ, Option.map_some, Option.map_none, Option.bind_some, Option.bind_none, List.length_cons, List.length_nil, if_true, if_false, SR.res, Bool.not_true, Bool.not_false, Bool.false_eq_true, wipeR, List.map_cons, List.map_nil, cmp_eqI, cmp_neI, cmpS_eq, cmpS_ne, cmpI_lt, cmpI_le, cmpI_gt, cmpI_ge, Bool.not_eq_true, decide_true, decide_false, lbR, List.cons_append, List.nil_append, bi_len_tup, Nat.zero_add, Nat.reduceAdd, b5]
  have st3 : evS T31 FU c__law_behind_s3 (lbR n w x i j t [some (.int ((n : Int) - 1)), none, none, none, none, none]) S = .nx (lbR n w x i j t [some (.int ((n : Int) - 1)), some (.str x), some (.int i), some (.int j), some (.int t), none]) S := by
    simp only [evSs, evS, ev, evs, evB, evO, evN_lst, evN_listOf, evN_cat, evI, Res.bind, Res.toS, SR.andThen, ofO, ofS, asgT, asgTs, List.getElem?_cons_zero, List.getElem?_cons_succ, List.set_cons_zero, List.set_cons_succ, Option.map_some, Option.map_none, Option.bind_some, Option.bind_none, List.length_cons, List.length_nil, if_true, if_false, SR.res, Bool.not_true, Bool.not_false, Bool.false_eq_true, wipeR, List.map_cons, List.map_nil, cmp_eqI, cmp_neI, cmpS_eq, cmpS_ne, cmpI_lt, cmpI_le, cmpI_gt, cmpI_ge, Bool.not_eq_true, decide_true, decide_false, c__law_behind_s3, lbR, List.cons_append, List.nil_append]
  have st4 : evS T31 FU c__law_behind_s4 (lbR n w x i j t [some (.int ((n : Int) - 1)), some (.str x), some (.int i), some (.int j), some (.int t), none]) S = .nx (lbR n w x i j t [some (.int ((n : Int) - 1)), some (.str x), some (.int i), some (.int j), some (.int t), none]) S := by
    refine (evS_iteF (S1 := S) ?_).trans evSs_nil
    have b1 : (decide ((0 : Int) ≤ (i : Int)) && decide ((i : Int) ≤ (n : Int) - 1)) = true := by simp; omega
    have b2 : (decide ((0 : Int) ≤ (j : Int)) && decide ((j : Int) ≤ (n : Int) - 1)) = true := by simp; omega
    simp only [evSs, evS, ev, evs, evB, evO, evN_lst, evN_listOf, evN_cat, evI, Res.bind, Res.toS, SR.andThen, ofO, ofS, asgT, asgTs, List.getElem?_cons_zero, List.getElem?_cons_succ, List.set_cons_zero, List.set_cons_succ, Option.map_some, Option.map_none, Option.bind_some, Option.bind_none, List.length_cons, List.length_nil, if_true, if_false, SR.res, Bool.not_true, Bool.not_false, Bool.false_eq_true, wipeR, List.map_cons, List.map_nil, cmp_eqI, cmp_neI, cmpS_eq, cmpS_ne, cmpI_lt, cmpI_le, cmpI_gt, cmpI_ge, Bool.not_eq_true, decide_true, decide_false, lbR, List.cons_append, List.nil_append, d__law_behind___law_whole, t__law_behind___law_whole, e_law_whole, b1, b2]
  rw [evSs_cons st0, evSs_cons st1, evSs_cons st2, evSs_cons st3, evSs_cons st4]
end
end K

set_option Elab.async false
set_option linter.all false
set_option maxRecDepth 100000
set_option maxHeartbeats 1600000
set_option exponentiation.threshold 500
namespace K
open PySem PySem.Spec PyProof.Rows L2 Z
section
variable {n i j k : Nat} {w : Nat → Nat → Int}
theorem e_lb_lead {S : Sto} {t : Nat} (hn0 : 1 ≤ n) (hn : n ≤ 8) (hi : i < n) (hj : j < n) (hij : i ≠ j) (h1 : 1 ≤ t) (ht : t ≤ 99) (hv : ∀ s : Nat, s < t → ledF w i j s i j ≠ 0) :
    ∃ S', f__law_behind [webU (mat n w), D3 "lead" i j t] S = .ok (webU (mat n (ledF w i j t))) S' ∧ Ke S S' := by
  obtain ⟨S', e, ke⟩ := e_law_four (S := S) hn hi hj hij ht hv
  refine ⟨S', ?_, ke⟩
  unfold D3
  rw [b__law_behind, r__law_behind]
  have hN : N__law_behind.length - 2 = 6 := rfl
  simp only [hN, List.replicate]
  have st5 : evS T31 FU c__law_behind_s5 (lbR n w "lead" i j t [some (.int ((n : Int) - 1)), some (.str "lead"), some (.int i), some (.int j), some (.int t), none]) S = .nx (lbR n w "lead" i j t [some (.int ((n : Int) - 1)), some (.str "lead"), some (.int i), some (.int j), some (.int t), none]) S := by
    refine (evS_iteF (S1 := S) ?_).trans evSs_nil
    have hd : decide (("lead" : Str) = "put") = false := by decide +kernel
    simp only [evSs, evS, ev, evs, evB, evO, evN_lst, evN_listOf, evN_cat, evI, Res.bind, Res.toS, SR.andThen, ofO, ofS, asgT, asgTs, List.getElem?_cons_zero, List.getElem?_cons_succ, List.set_cons_zero, List.set_cons_succ, Option.map_some, Option.map_none, Option.bind_some, Option.bind_none, List.length_cons, List.length_nil, if_true, if_false, SR.res, Bool.not_true, Bool.not_false, Bool.false_eq_true, wipeR, List.map_cons, List.map_nil, cmp_eqI, cmp_neI, cmpS_eq, cmpS_ne, cmpI_lt, cmpI_le, cmpI_gt, cmpI_ge, Bool.not_eq_true, decide_true, decide_false, lbR, List.cons_append, List.nil_append, hd]
  have st6 : evS T31 FU c__law_behind_s6 (lbR n w "lead" i j t [some (.int ((n : Int) - 1)), some (.str "lead"), some (.int i), some (.int j), some (.int t), none]) S = .nx (lbR n w "lead" i j t [some (.int ((n : Int) - 1)), some (.str "lead"), some (.int i), some (.int j), some (.int t), none]) S := by
    refine (evS_iteF (S1 := S) ?_).trans evSs_nil
    have z4 : (4 : Nat) ≤ sizeLine := sz_of (by omega)
    have b1 : decide ((i : Int) = (j : Int)) = false := by simp; omega
    have b2 : (decide ((1 : Int) ≤ (t : Int)) && decide ((t : Int) ≤ (t : Int))) = true := by simp; omega
    simp only [evSs, evS, ev, evs, evB, evO, evN_lst, evN_listOf, evN_cat, evI, Res.bind, Res.toS, SR.andThen, ofO, ofS, asgT, asgTs, List.getElem?_cons_zero, List.getElem?_cons_succ, List.set_cons_zero, List.set_cons_succ, Option.map_some, Option.map_none, Option.bind_some, Option.bind_none, List.length_cons, List.length_nil, if_true, if_false, SR.res, Bool.not_true, Bool.not_false, Bool.false_eq_true, wipeR, List.map_cons, List.map_nil, cmp_eqI, cmp_neI, cmpS_eq, cmpS_ne, cmpI_lt, cmpI_le, cmpI_gt, cmpI_ge, Bool.not_eq_true, decide_true, decide_false, lbR, List.cons_append, List.nil_append, Nat.zero_add, Nat.reduceAdd, z4, nin_lead, b1, d__law_behind___law_whole, t__law_behind___law_whole, e_law_whole, b2]
  have st7 : evS T31 FU c__law_behind_s7 (lbR n w "lead" i j t [some (.int ((n : Int) - 1)), some (.str "lead"), some (.int i), some (.int j), some (.int t), none]) S = .rt (webU (mat n (ledF w i j t))) S' :=
    evS_ret ((ev_callF d__law_behind___law_four t__law_behind___law_four (us := [.str "lead", webU (mat n w), .int i, .int j, .int t]) (S1 := S) (by simp [evs, ev, Res.bind])).trans e)
  rw [x__law_behind]
  refine (congrArg SR.res (lb_pre hn0 hi hj)).trans ?_
  rw [evSs_cons st5, evSs_cons st6, evSs_rt st7, SR.res]
theorem e_lb_put {S : Sto} (hn0 : 1 ≤ n) (hn : n < 8) (hi : i < n) (hj : j < n) (hk : k ≤ n) (hw : 0 < w i j) :
    ∃ S', f__law_behind [webU (mat n w), D3 "put" i j k] S = .ok (webU (mat (n + 1) (putF w i j k))) S' ∧ Ke S S' := by
  obtain ⟨S', e, ke⟩ := e_law_put (S := S) (w := w) (by omega : n ≤ 8) hi hj hk
  refine ⟨S', ?_, ke⟩
  unfold D3
  rw [b__law_behind, r__law_behind]
  have hN : N__law_behind.length - 2 = 6 := rfl
  simp only [hN, List.replicate]
  have st5 : evS T31 FU c__law_behind_s5 (lbR n w "put" i j k [some (.int ((n : Int) - 1)), some (.str "put"), some (.int i), some (.int j), some (.int k), none]) S = .rt (webU (mat (n + 1) (putF w i j k))) S' := by
    refine (evS_iteT (S1 := S) (by simp only [evSs, evS, ev, evs, evB, evO, evN_lst, evN_listOf, evN_cat, evI, Res.bind, Res.toS, SR.andThen, ofO, ofS, asgT, asgTs, List.getElem?_cons_zero, List.getElem?_cons_succ, List.set_cons_zero, List.set_cons_succ, Option.map_some, Option.map_none, Option.bind_some, Option.bind_none, List.length_cons, List.length_nil, if_true, if_false, SR.res, Bool.not_true, Bool.not_false, Bool.false_eq_true, wipeR, List.map_cons, List.map_nil, cmp_eqI, cmp_neI, cmpS_eq, cmpS_ne, cmpI_lt, cmpI_le, cmpI_gt, cmpI_ge, Bool.not_eq_true, decide_true, decide_false, lbR, List.cons_append, List.nil_append, cmp_putput])).trans ?_
    have b1 : (decide ((0 : Int) ≤ (k : Int)) && decide ((k : Int) ≤ (n : Int) - 1 + 1)) = true := by simp; omega
    have b2 : decide ((n : Int) - 1 < 7) = true := by simp; omega
    have b3 : decide (0 < w i j) = true := by simp [hw]
    refine (evSs_cons (evS_asgN (u := .bl true) (S1 := S) ?_)).trans (evSs_rt (evS_ret ((ev_iteT (S1 := S) ?_).trans ((ev_callF d__law_behind___law_put t__law_behind___law_put (us := [webU (mat n w), .int i, .int j, .int k]) (S1 := S) ?_).trans e))))
    · simp only [evSs, evS, ev, evs, evB, evO, evN_lst, evN_listOf, evN_cat, evI, Res.bind, Res.toS, SR.andThen, ofO, ofS, asgT, asgTs, List.getElem?_cons_zero, List.getElem?_cons_succ, List.set_cons_zero, List.set_cons_succ, Option.map_some, Option.map_none, Option.bind_some, Option.bind_none, List.length_cons, List.length_nil, if_true, if_false, SR.res, Bool.not_true, Bool.not_false, Bool.false_eq_true, wipeR, List.map_cons, List.map_nil, cmp_eqI, cmp_neI, cmpS_eq, cmpS_ne, cmpI_lt, cmpI_le, cmpI_gt, cmpI_ge, Bool.not_eq_true, decide_true, decide_false, lbR, List.cons_append, List.nil_append, d__law_behind___law_whole, t__law_behind___law_whole, e_law_whole, binI_add, b1, b2, b3, idx_row hi, idx_num hj]
    · simp [ev, lbR]
    · simp [evs, ev, Res.bind, lbR]
  rw [x__law_behind]
  refine (congrArg SR.res (lb_pre hn0 hi hj)).trans ?_
  rw [evSs_rt st5, SR.res]
end
end K

set_option Elab.async false
set_option linter.all false
set_option maxRecDepth 100000
set_option maxHeartbeats 1600000
set_option exponentiation.threshold 500
namespace K
open PySem PySem.Spec PyProof.Rows L2 Z
def wordsU : U := .tup [.str "lead", .str "bring", .str "unlead", .str "unbring", .str "put", .str "out"]
def inWords (x : Str) : Prop := (∀ S : Sto, cmpE S .nin (.str x) wordsU = some false) ∧ PyData.strOk x = true
theorem iw_lead : inWords "lead" := ⟨fun S => by kernel_rfl, by decide +kernel⟩
theorem iw_put : inWords "put" := ⟨fun S => by kernel_rfl, by decide +kernel⟩
theorem one_nil {S : Sto} {x : Str} (hx : PyData.strOk x = true) : cmpE S .eq (.tup [.str x]) (.tup []) = some false := by
  simp [cmpE, dat, datA, SeqAt.shaped, PyData.canLay0, PyData.canLayAll0, PyData.depth, PyData.depthAll, PyData.eqv, PyData.eqvAll, hx]
theorem sl01 {S : Sto} {a b c d : U} : slE S (.tup [a, b, c, d]) none (some 1) = some (.tup [a]) := by kernel_rfl
theorem al_b1 {S S' : Sto} {W W' ds x3 : U} {x : Str} {a b c : Int} (hx : inWords x) (h : f__law_behind [W, D3 x a b c] S = .ok W' S') (hW : W'.isNon = false) :
    evSs T32 FU c__law_along_b1 [some W, some ds, some wordsU, some (D3 x a b c)] S = .nx [some W', some ds, some wordsU, some (D3 x a b c)] S' := by
  have st0 : evS T32 FU c__law_along_b1_s0 [some W, some ds, some wordsU, some (D3 x a b c)] S = .nx [some W, some ds, some wordsU, some (D3 x a b c)] S := by
    refine (evS_iteF (S1 := S) ?_).trans evSs_nil
    have b1 : isiE S (.tup [.str x, .int a, .int b, .int c]) .tuple = some true := rfl
    have z0 : (0 : Nat) ≤ sizeLine := Nat.zero_le _
    simp only [evSs, evS, ev, evs, evB, evO, evN_lst, evN_listOf, evN_cat, evI, Res.bind, Res.toS, SR.andThen, ofO, ofS, asgT, asgTs, List.getElem?_cons_zero, List.getElem?_cons_succ, List.set_cons_zero, List.set_cons_succ, Option.map_some, Option.map_none, Option.bind_some, Option.bind_none, List.length_cons, List.length_nil, if_true, if_false, SR.res, Bool.not_true, Bool.not_false, Bool.false_eq_true, wipeR, List.map_cons, List.map_nil, cmp_eqI, cmp_neI, cmpS_eq, cmpS_ne, cmpI_lt, cmpI_le, cmpI_gt, cmpI_ge, Bool.not_eq_true, decide_true, decide_false, D3, b1, sl01, z0, one_nil hx.2, ix0', hx.1]
  have st1 : evS T32 FU c__law_along_b1_s1 [some W, some ds, some wordsU, some (D3 x a b c)] S = .nx [some W', some ds, some wordsU, some (D3 x a b c)] S' :=
    evS_asgN ((ev_callF d__law_along___law_behind t__law_along___law_behind (us := [W, D3 x a b c]) (S1 := S) (by simp [evs, ev, Res.bind])).trans h)
  have st2 : evS T32 FU c__law_along_b1_s2 [some W', some ds, some wordsU, some (D3 x a b c)] S' = .nx [some W', some ds, some wordsU, some (D3 x a b c)] S' := by
    refine (evS_iteF (S1 := S') ?_).trans evSs_nil
    simp only [evSs, evS, ev, evs, evB, evO, evN_lst, evN_listOf, evN_cat, evI, Res.bind, Res.toS, SR.andThen, ofO, ofS, asgT, asgTs, List.getElem?_cons_zero, List.getElem?_cons_succ, List.set_cons_zero, List.set_cons_succ, Option.map_some, Option.map_none, Option.bind_some, Option.bind_none, List.length_cons, List.length_nil, if_true, if_false, SR.res, Bool.not_true, Bool.not_false, Bool.false_eq_true, wipeR, List.map_cons, List.map_nil, cmp_eqI, cmp_neI, cmpS_eq, cmpS_ne, cmpI_lt, cmpI_le, cmpI_gt, cmpI_ge, Bool.not_eq_true, decide_true, decide_false, hW]
  rw [x__law_along_b1, evSs_cons st0, evSs_cons st1, evSs_cons st2, evSs_nil]
theorem e_along {S : Sto} {m l : Nat} (Wk Dk : Nat → U) (hm : m ≤ 1000) (hl : S[l]? = some (.lst ((List.range m).map Dk))) (hD : ∀ p, p < m → ∃ x a b c, Dk p = D3 x a b c ∧ inWords x) (hW : ∀ p, (Wk p).isNon = false)
    (step : ∀ p, p < m → ∀ S, ∃ S', f__law_behind [Wk p, Dk p] S = .ok (Wk (p + 1)) S' ∧ Ke S S') :
    ∃ S', f__law_along [Wk 0, .obj l, wordsU] S = .ok (Wk m) S' ∧ Ke S S' := by
  rw [b__law_along, r__law_along]
  have hN : N__law_along.length - 3 = 1 := rfl
  simp only [hN, List.replicate, List.cons_append, List.nil_append]
  have st0 : evS T32 FU c__law_along_s0 [some (Wk 0), some (.obj l), some wordsU, none] S = .nx [some (Wk 0), some (.obj l), some wordsU, none] S := by
    refine (evS_iteF (S1 := S) ?_).trans evSs_nil
    have b1 : isiE S (.obj l) .list = some true := by simp [isiE, tyE, hl, isiT]
    simp only [evSs, evS, ev, evs, evB, evO, evN_lst, evN_listOf, evN_cat, evI, Res.bind, Res.toS, SR.andThen, ofO, ofS, asgT, asgTs, List.getElem?_cons_zero, List.getElem?_cons_succ, List.set_cons_zero, List.set_cons_succ, Option.map_some, Option.map_none, Option.bind_some, Option.bind_none, List.length_cons, List.length_nil, if_true, if_false, SR.res, Bool.not_true, Bool.not_false, Bool.false_eq_true, wipeR, List.map_cons, List.map_nil, cmp_eqI, cmp_neI, cmpS_eq, cmpS_ne, cmpI_lt, cmpI_le, cmpI_gt, cmpI_ge, Bool.not_eq_true, decide_true, decide_false, b1]
  have hI : evI T32 (.seq (.var 1)) [some (Wk 0), some (.obj l), some wordsU, none] S = .ok (.seq (.obj l)) S := by simp [evI, ev, Res.bind, seq_obj hl]
  obtain ⟨ρ', S', e1, x3, rfl, e2⟩ := forGo_all (src := .seq (.obj l)) (t := .name 3) (body := evSs T32 FU c__law_along_b1) (items := (List.range m).map Dk)
    (fun p ρ S' => ∃ x3, ρ = [some (Wk p), some (.obj l), some wordsU, x3] ∧ Ke S S')
    (fun p ρ S' hi hp => by
      obtain ⟨x3, _, hk⟩ := hi
      exact Over.obj (I := fun S' => S'[l]? = some (.lst ((List.range m).map Dk))) (fun _ h => h) S' (hk.at_ hl) p hp)
    (n := m) (ρ := [some (Wk 0), some (.obj l), some wordsU, none]) (S := S) (by
      intro p u ρ S' hx ⟨x3, hρ, hk⟩
      subst hρ
      have hp : p < m := by
        have := (List.getElem?_eq_some_iff.mp hx).1
        simpa using this
      rw [rng_at hp] at hx
      cases hx
      obtain ⟨x, a, b, c, hd, hx⟩ := hD p hp
      obtain ⟨S'', e, k⟩ := step p hp S'
      rw [hd] at e
      refine ⟨_, rfl, ?_⟩
      rw [hd]
      exact ⟨_, _, al_b1 (ds := .obj l) (x3 := .non) hx e (hW (p + 1)), _, rfl, hk.trans k⟩) (by simp) ⟨none, rfl, Ke.refl⟩
  have hL : ((List.range m).map Dk).length = m := by simp
  rw [hL] at e1
  refine ⟨S', ?_, e2⟩
  have hlen : Src.len S (.seq (.obj l)) = m := by simp [Src.len, seq_obj hl]
  have st1 : evS T32 FU c__law_along_s1 [some (Wk 0), some (.obj l), some wordsU, none] S = .nx [some (Wk m), some (.obj l), some wordsU, x3] S' := by
    refine (evS_for hI).trans ?_
    rw [hlen]
    exact e1
  have st2 : evS T32 FU c__law_along_s2 [some (Wk m), some (.obj l), some wordsU, x3] S' = .rt (Wk m) S' := evS_ret (by simp [ev])
  rw [x__law_along, evSs_cons st0, evSs_cons st1, evSs_rt st2, SR.res]
end K

set_option Elab.async false
set_option linter.all false
set_option maxRecDepth 100000
set_option maxHeartbeats 1600000
set_option exponentiation.threshold 500
namespace K
open PySem PySem.Spec PyProof.Rows L2 Z
theorem Kp.set2 {p q : Nat} {S S' : Sto} {o : SO} (h : Kp p S S') (hq : S.length ≤ q) : Kp p S (S'.set q o) := ⟨by rw [List.length_set]; exact h.1, fun i hi hp => by rw [List.getElem?_set_ne (by omega)]; exact h.2 i hi hp⟩
theorem Kp.at_ {p k : Nat} {S S' : Sto} {o : SO} (h : Kp p S S') (hk : k ≠ p) (e : S[k]? = some o) : S'[k]? = some o := by rw [h.2 k (List.getElem?_eq_some_iff.mp e).1 hk, e]
theorem Pen.set2 {S : Sto} {p c q : Nat} {B : Int} {o : SO} (x : Pen S p c B) (hp : p ≠ q) (hc : c ≠ q) : Pen (S.set q o) p c B := x.keep Kp.set hp hc
theorem sm400 {n : Int} (h0 : 0 ≤ n) (h : n ≤ 1000000000000000) : n.natAbs < 2 ^ 400 := Nat.lt_of_le_of_lt (show n.natAbs ≤ 1000000000000000 by omega) (by decide +kernel)
theorem e_drawn {S : Sto} {p c n : Nat} {B : Int} (hp : Pen S p c B) (hB : B + 8 < 1000000) (hn : n ≤ 8) :
    ∃ (L : List Nat) (S' : Sto), f__law_drawn [.obj p, .int n] S = .ok (.obj S.length) S' ∧ S'[S.length]? = some (.lst (L.map fun v => U.int (v : Nat))) ∧ L.length = n ∧ (∀ v, v ∈ L → v < n) ∧ Pen S' p c (B + n) ∧ Kp p S S' := by
  rw [b__law_drawn, r__law_drawn]
  have hN : N__law_drawn.length - 2 = 2 := rfl
  simp only [hN, List.replicate, List.cons_append, List.nil_append]
  have lt := hp.lt
  have z0 : (0 : Nat) ≤ sizeLine := Nat.zero_le _
  have st0 : evS T23 FU c__law_drawn_s0 [some (.obj p), some (.int n), none, none] S = .nx [some (.obj p), some (.int n), some (.obj S.length), none] (S ++ [SO.lst []]) := by
    simp only [evSs, evS, ev, evs, evB, evO, evN_lst, evN_listOf, evN_cat, evI, Res.bind, Res.toS, SR.andThen, ofO, ofS, asgT, asgTs, List.getElem?_cons_zero, List.getElem?_cons_succ, List.set_cons_zero, List.set_cons_succ, Option.map_some, Option.map_none, Option.bind_some, Option.bind_none, List.length_cons, List.length_nil, if_true, if_false, SR.res, Bool.not_true, Bool.not_false, Bool.false_eq_true, wipeR, List.map_cons, List.map_nil, cmp_eqI, cmp_neI, cmpS_eq, cmpS_ne, cmpI_lt, cmpI_le, cmpI_gt, cmpI_ge, Bool.not_eq_true, decide_true, decide_false, c__law_drawn_s0, z0]
  have hI : evI T23 (.rng1 (.var 1)) [some (.obj p), some (.int n), some (.obj S.length), none] (S ++ [SO.lst []]) = .ok (.rng 0 n) (S ++ [SO.lst []]) := evI_rng1 (by simp [ev]) (by omega)
  obtain ⟨ρ', S', e1, L, x, rfl, e2, e3, e4, e5, e6⟩ := forGo_all (src := .rng 0 n) (t := .name 3) (body := evSs T23 FU c__law_drawn_b1) (items := (List.range n).map fun (i : Nat) => U.int (i : Int))
    (fun i ρ S' => ∃ (L : List Nat) (x : Option U), ρ = [some (.obj p), some (.int n), some (.obj S.length), x] ∧ S'[S.length]? = some (.lst (L.map fun v => U.int (v : Nat))) ∧ L.length = i ∧ (∀ v, v ∈ L → v < n) ∧ Pen S' p c (B + i) ∧ Kp p S S')
    (fun _ _ S' _ => over_rngR (I := fun _ => True) S' trivial _) (n := n) (ρ := [some (.obj p), some (.int n), some (.obj S.length), none]) (S := S ++ [SO.lst []]) (by
      intro i u ρ S' hx ⟨L, x, hρ, h1, h2, h3, h4, h5⟩
      subst hρ
      have hi : i < n := by
        have := (List.getElem?_eq_some_iff.mp hx).1
        simpa using this
      rw [rng_at hi] at hx
      cases hx
      refine ⟨_, rfl, ?_⟩
      obtain ⟨v, S2, t1, t2, t3, t4, t5, t6⟩ := e_take (m := (i : Int) + 1) h4 (by omega) (by omega) (sm400 (by omega) (by omega))
      obtain ⟨k, rfl⟩ := Int.eq_ofNat_of_zero_le t2
      have hq : S2[S.length]? = some (.lst (L.map fun v => U.int (v : Nat))) := t5.at_ (by omega) h1
      refine ⟨[some (.obj p), some (.int n), some (.obj S.length), some (.int i)], S2.set S.length (.lst ((L.map fun v => U.int (v : Nat)).take k ++ [.int i] ++ (L.map fun v => U.int (v : Nat)).drop k)), ?_, L.take k ++ [i] ++ L.drop k, some (.int i), rfl, ?_, ?_, ?_, ?_, ?_⟩
      · refine (evSs_cons (evS_ins (q := S.length) (n := k) (w := .int i) (us := L.map fun v => U.int (v : Nat)) (us0 := L.map fun v => U.int (v : Nat)) (S1 := S') (S2 := S2) (S3 := S2) (by simp [ev]) (lst_obj h1) ?_ (by simp [ev]) hq (by omega) (by simp; omega))).trans evSs_nil
        exact (ev_callF d__law_drawn___law_take t__law_drawn___law_take (us := [.obj p, .int ((i : Int) + 1)]) (S1 := S') (by simp [evs, ev, Res.bind, ofO, binI_add])).trans t1
      · rw [List.getElem?_set_self (List.getElem?_eq_some_iff.mp hq).1]
        simp [List.map_take, List.map_drop]
      · simp; omega
      · intro v hv
        simp only [List.append_assoc, List.mem_append, List.mem_singleton] at hv
        rcases hv with hv | hv | hv
        · exact h3 v (List.mem_of_mem_take hv)
        · omega
        · exact h3 v (List.mem_of_mem_drop hv)
      · exact (t4.mono (by omega)).set2 (by omega) (by omega)
      · exact (h5.trans t5).set2 (Nat.le_refl _)) (by simp) ⟨[], none, rfl, by simp, rfl, by simp, (hp.ke Ke.app).mono (by omega), Ke.app.kp⟩
  have hL : ((List.range n).map fun (i : Nat) => U.int (i : Int)).length = n := by simp
  rw [hL] at e3 e5
  refine ⟨L, S', ?_, e2, e3, e4, e5, e6⟩
  have st1 : evS T23 FU c__law_drawn_s1 [some (.obj p), some (.int n), some (.obj S.length), none] (S ++ [SO.lst []]) = .nx [some (.obj p), some (.int n), some (.obj S.length), x] S' := (evS_for hI).trans e1
  have st2 : evS T23 FU c__law_drawn_s2 [some (.obj p), some (.int n), some (.obj S.length), x] S' = .rt (.obj S.length) S' := evS_ret (by simp [ev])
  rw [x__law_drawn, evSs_cons st0, evSs_cons st1, evSs_rt st2, SR.res]
end K

set_option Elab.async false
set_option linter.all false
set_option maxRecDepth 100000
set_option maxHeartbeats 1600000
set_option exponentiation.threshold 500
namespace K
open PySem PySem.Spec PyProof.Rows L2 Z
theorem ev_tmp {T : Th} {n : CN} {ρ : Rho} {S S1 : Sto} {us : List U} (h : evN T n ρ S = .ok us S1) : ev T (.tmp n) ρ S = .ok (.tl us) S1 := by rw [ev, h]; rfl
theorem evs_cons' {T : Th} {e : CE} {es : CEs} {ρ : Rho} {S S1 S2 : Sto} {u : U} {us : List U} (h : ev T e ρ S = .ok u S1) (h2 : evs T es ρ S1 = .ok us S2) : evs T (.cons e es) ρ S = .ok (u :: us) S2 := by rw [evs, h]; simp only [Res.bind, h2]
theorem evs_nil' {T : Th} {ρ : Rho} {S : Sto} : evs T .nil ρ S = .ok [] S := by rw [evs]
theorem evN_lst' {T : Th} {as : CEs} {ρ : Rho} {S S1 : Sto} {us : List U} (h : evs T as ρ S = .ok us S1) (hl : us.length ≤ 1000) : evN T (.lst as) ρ S = .ok us S1 := by rw [evN_lst, h]; simp only [Res.bind]; rw [if_pos (sz_of (by omega))]
theorem ev_varN {T : Th} {i : Nat} {ρ : Rho} {S : Sto} {u : U} (h : ρ[i]? = some (some u)) : ev T (.var i) ρ S = .ok u S := by rw [ev, h]
theorem ev_intN {T : Th} {i : Int} {ρ : Rho} {S : Sto} : ev T (.int i) ρ S = .ok (.int i) S := by rw [ev]
theorem ev_addI {T : Th} {a b : CE} {ρ : Rho} {S S1 S2 : Sto} {x y : Int} (h : ev T a ρ S = .ok (.int x) S1) (h2 : ev T b ρ S1 = .ok (.int y) S2) : ev T (.bin .add a b) ρ S = .ok (.int (x + y)) S2 := by rw [ev, h]; simp only [Res.bind, h2, binI_add, ofO]
theorem evB_last {T : Th} {an : Bool} {e : CE} {ρ : Rho} {S : Sto} : evB T an (.cons e .nil) ρ S = ev T e ρ S := by rw [evB]
theorem evB_go {T : Th} {an : Bool} {e e2 : CE} {es : CEs} {ρ : Rho} {S S1 : Sto} (h : ev T e ρ S = .ok (.bl an) S1) : evB T an (.cons e (.cons e2 es)) ρ S = evB T an (.cons e2 es) ρ S1 := by
  rw [evB, h]
  · simp only [Res.bind, if_true]
  · intro h; cases h
theorem evB_stop {T : Th} {an b : Bool} {e e2 : CE} {es : CEs} {ρ : Rho} {S S1 : Sto} (h : ev T e ρ S = .ok (.bl b) S1) (hb : b ≠ an) : evB T an (.cons e (.cons e2 es)) ρ S = .ok (.bl b) S1 := by
  rw [evB, h]
  · simp only [Res.bind, if_neg hb]
  · intro h; cases h
theorem ev_bop {T : Th} {an : Bool} {as : CEs} {ρ : Rho} {S : Sto} : ev T (.bop an as) ρ S = evB T an as ρ S := by rw [ev]
section
variable {S : Sto} {p c r : Nat} {B most thin : Int}
/-- a draw in a law's def, below some number -/
theorem lw_tk {m : Int} {e : CE} {ρ : Rho} (hp : Pen S p c B) (hB : B < 1000000) (hm : 1 ≤ m) (hm2 : m ≤ 1000000000000) (h0 : ρ[0]? = some (some (.obj p))) (he : ev T24 e ρ S = .ok (.int m) S) :
    ∃ v S', ev T24 (.call "_law_take" (.cons (.var 0) (.cons e .nil))) ρ S = .ok (.int v) S' ∧ 0 ≤ v ∧ v < m ∧ Pen S' p c (B + 1) ∧ Kp p S S' ∧ S'.length = S.length := by
  obtain ⟨v, S', t1, t2, t3, t4, t5, t6⟩ := e_take hp hB hm (sm400 (by omega) (by omega))
  exact ⟨v, S', (ev_callF d__law_web___law_take t__law_web___law_take (evs_cons' (ev_varN h0) (evs_cons' he evs_nil'))).trans t1, t2, t3, t4, t5, t6⟩
theorem lw_b1 {a1 a3 a5 a6 a8 a9 : Option U} {us : List U} (hp : Pen S p c B) (hB : B + 5 < 1000000) (hr : S[r]? = some (.lst us)) (hl : us.length ≤ 100) (h1 : r ≠ p) (h2 : r ≠ c) (m0 : 0 ≤ most) (m1 : most ≤ 1000) :
    ∃ (x : Int) (nu : U) (S' : Sto), evSs T24 FU c__law_web_b1 [some (.obj p), a1, some (.int most), a3, some (.int thin), a5, a6, some (.obj r), a8, a9] S = .nx [some (.obj p), a1, some (.int most), a3, some (.int thin), a5, a6, some (.obj r), a8, some nu] S' ∧
      0 ≤ x ∧ x ≤ 1000000001000 ∧ S'[r]? = some (.lst (us ++ [.int x])) ∧ Pen S' p c (B + 5) ∧ ∀ S0, Kp p S0 S → S0.length ≤ r → Kp p S0 S' := by
  have hm : ev T24 (.bin .add (.var 2) (.int 1)) [some (.obj p), a1, some (.int most), a3, some (.int thin), a5, a6, some (.obj r), a8, a9] S = .ok (.int (most + 1)) S := ev_addI (ev_varN rfl) ev_intN
  obtain ⟨v1, S1, t1, q1, r1, p1, k1, l1⟩ := lw_tk (ρ := [some (.obj p), a1, some (.int most), a3, some (.int thin), a5, a6, some (.obj r), a8, a9]) hp (by omega) (by omega) (by omega) rfl hm
  obtain ⟨v2, S2, t2, q2, r2, p2, k2, l2⟩ := lw_tk (m := most + 1) (e := .bin .add (.var 2) (.int 1)) (ρ := [some (.obj p), a1, some (.int most), a3, some (.int thin), a5, a6, some (.obj r), a8, a9]) p1 (by omega) (by omega) (by omega) rfl (ev_addI (ev_varN rfl) ev_intN)
  obtain ⟨v3, S3, t3, q3, r3, p3, k3, l3⟩ := lw_tk (m := most + 1) (e := .bin .add (.var 2) (.int 1)) (ρ := [some (.obj p), a1, some (.int most), a3, some (.int thin), a5, a6, some (.obj r), a8, a9]) p2 (by omega) (by omega) (by omega) rfl (ev_addI (ev_varN rfl) ev_intN)
  obtain ⟨nu, S4, t4, q4, p4, k4, l4⟩ := e_one (us := [.int v1, .int v2, .int 0, .int v3]) p3 (by omega) (by simp) (by simp)
  have hx : ∃ x : Int, nu = .int x ∧ 0 ≤ x ∧ x ≤ most := by
    simp only [List.mem_cons, List.not_mem_nil, or_false] at q4
    rcases q4 with q | q | q | q
    · exact ⟨v1, q, by omega, by omega⟩
    · exact ⟨v2, q, by omega, by omega⟩
    · exact ⟨0, q, by omega, by omega⟩
    · exact ⟨v3, q, by omega, by omega⟩
  obtain ⟨x, rfl, x0, x1⟩ := hx
  have st0 : evS T24 FU c__law_web_b1_s0 [some (.obj p), a1, some (.int most), a3, some (.int thin), a5, a6, some (.obj r), a8, a9] S = .nx [some (.obj p), a1, some (.int most), a3, some (.int thin), a5, a6, some (.obj r), a8, some (.int x)] S4 :=
    evS_asgN ((ev_callF d__law_web___law_one t__law_web___law_one (evs_cons' (ev_varN rfl) (evs_cons' (ev_tmp (evN_lst' (evs_cons' t1 (evs_cons' t2 (evs_cons' ev_intN (evs_cons' t3 evs_nil')))) (by simp))) evs_nil'))).trans t4)
  have h4 : S4[r]? = some (.lst us) := k4.at_ h1 (k3.at_ h1 (k2.at_ h1 (k1.at_ h1 hr)))
  -- the number, now and then great
  have key : ∃ (y : Int) (S5 : Sto), ev T24 (.ite (.bop false (.cons (.cmp .gt (.var 4) (.int 0)) (.cons (.cmp .gt (.call "_law_take" (.cons (.var 0) (.cons (.int 9) .nil))) (.int 0)) .nil))) (.var 9) (.bin .add (.bin .pw (.int 10) (.int 12)) (.var 9))) [some (.obj p), a1, some (.int most), a3, some (.int thin), a5, a6, some (.obj r), a8, some (.int x)] S4 = .ok (.int y) S5 ∧ 0 ≤ y ∧ y ≤ 1000000001000 ∧ Pen S5 p c (B + 5) ∧ Kp p S4 S5 := by
    by_cases q : 0 < thin
    · refine ⟨x, S4, (ev_iteT (S1 := S4) (ev_bop.trans (evB_stop (b := true) (by simp only [evSs, evS, ev, evs, evB, evO, evN_lst, evN_listOf, evN_cat, evI, Res.bind, Res.toS, SR.andThen, ofO, ofS, asgT, asgTs, List.getElem?_cons_zero, List.getElem?_cons_succ, List.set_cons_zero, List.set_cons_succ, Option.map_some, Option.map_none, Option.bind_some, Option.bind_none, List.length_cons, List.length_nil, if_true, if_false, SR.res, Bool.not_true, Bool.not_false, Bool.false_eq_true, wipeR, List.map_cons, List.map_nil, cmp_eqI, cmp_neI, cmpS_eq, cmpS_ne, cmpI_lt, cmpI_le, cmpI_gt, cmpI_ge, Bool.not_eq_true, decide_true, decide_false, decide_eq_true q]) (by decide)))).trans (ev_varN rfl), x0, by omega, p4.mono (by omega), Kp.refl⟩
    · obtain ⟨v5, S5, t5, q5, r5, p5, k5, l5⟩ := lw_tk (m := 9) (e := .int 9) (ρ := [some (.obj p), a1, some (.int most), a3, some (.int thin), a5, a6, some (.obj r), a8, some (.int x)]) p4 (by omega) (by omega) (by omega) rfl ev_intN
      have hb : ev T24 (.bop false (.cons (.cmp .gt (.var 4) (.int 0)) (.cons (.cmp .gt (.call "_law_take" (.cons (.var 0) (.cons (.int 9) .nil))) (.int 0)) .nil))) [some (.obj p), a1, some (.int most), a3, some (.int thin), a5, a6, some (.obj r), a8, some (.int x)] S4 = .ok (.bl (decide (0 < v5))) S5 := by
        have e1 : ev T24 (.cmp .gt (.var 4) (.int 0)) [some (.obj p), a1, some (.int most), a3, some (.int thin), a5, a6, some (.obj r), a8, some (.int x)] S4 = .ok (.bl false) S4 := by simp only [evSs, evS, ev, evs, evB, evO, evN_lst, evN_listOf, evN_cat, evI, Res.bind, Res.toS, SR.andThen, ofO, ofS, asgT, asgTs, List.getElem?_cons_zero, List.getElem?_cons_succ, List.set_cons_zero, List.set_cons_succ, Option.map_some, Option.map_none, Option.bind_some, Option.bind_none, List.length_cons, List.length_nil, if_true, if_false, SR.res, Bool.not_true, Bool.not_false, Bool.false_eq_true, wipeR, List.map_cons, List.map_nil, cmp_eqI, cmp_neI, cmpS_eq, cmpS_ne, cmpI_lt, cmpI_le, cmpI_gt, cmpI_ge, Bool.not_eq_true, decide_true, decide_false, decide_eq_false q]
        have e2 : ev T24 (.cmp .gt (.call "_law_take" (.cons (.var 0) (.cons (.int 9) .nil))) (.int 0)) [some (.obj p), a1, some (.int most), a3, some (.int thin), a5, a6, some (.obj r), a8, some (.int x)] S4 = .ok (.bl (decide (0 < v5))) S5 := by
          rw [ev, t5]; simp only [evSs, evS, ev, evs, evB, evO, evN_lst, evN_listOf, evN_cat, evI, Res.bind, Res.toS, SR.andThen, ofO, ofS, asgT, asgTs, List.getElem?_cons_zero, List.getElem?_cons_succ, List.set_cons_zero, List.set_cons_succ, Option.map_some, Option.map_none, Option.bind_some, Option.bind_none, List.length_cons, List.length_nil, if_true, if_false, SR.res, Bool.not_true, Bool.not_false, Bool.false_eq_true, wipeR, List.map_cons, List.map_nil, cmp_eqI, cmp_neI, cmpS_eq, cmpS_ne, cmpI_lt, cmpI_le, cmpI_gt, cmpI_ge, Bool.not_eq_true, decide_true, decide_false]
        exact ev_bop.trans ((evB_go e1).trans (evB_last.trans e2))
      by_cases q2 : 0 < v5
      · rw [decide_eq_true q2] at hb
        exact ⟨x, S5, (ev_iteT hb).trans (ev_varN rfl), x0, by omega, p5.mono (by omega), k5⟩
      · rw [decide_eq_false q2] at hb
        refine ⟨1000000000000 + x, S5, (ev_iteF hb).trans (ev_addI (S1 := S5) ?_ (ev_varN rfl)), by omega, by omega, p5.mono (by omega), k5⟩
        have pw : ∀ S, binE S .pw (.int 10) (.int 12) = some (.int 1000000000000) := fun S => by rw [binI_pw (by decide) (by decide) (by decide)]; rfl
        simp only [evSs, evS, ev, evs, evB, evO, evN_lst, evN_listOf, evN_cat, evI, Res.bind, Res.toS, SR.andThen, ofO, ofS, asgT, asgTs, List.getElem?_cons_zero, List.getElem?_cons_succ, List.set_cons_zero, List.set_cons_succ, Option.map_some, Option.map_none, Option.bind_some, Option.bind_none, List.length_cons, List.length_nil, if_true, if_false, SR.res, Bool.not_true, Bool.not_false, Bool.false_eq_true, wipeR, List.map_cons, List.map_nil, cmp_eqI, cmp_neI, cmpS_eq, cmpS_ne, cmpI_lt, cmpI_le, cmpI_gt, cmpI_ge, Bool.not_eq_true, decide_true, decide_false, pw]
  obtain ⟨y, S5, ey, y0, y1, p5, k5⟩ := key
  have h5 : S5[r]? = some (.lst us) := k5.at_ h1 h4
  have st1 : evS T24 FU c__law_web_b1_s1 [some (.obj p), a1, some (.int most), a3, some (.int thin), a5, a6, some (.obj r), a8, some (.int x)] S4 = .nx [some (.obj p), a1, some (.int most), a3, some (.int thin), a5, a6, some (.obj r), a8, some (.int x)] (S5.set r (.lst (us ++ [.int y]))) :=
    evS_app (ev_varN rfl) (lst_obj h4) ey h5 (by omega)
  have hr5 := (List.getElem?_eq_some_iff.mp h5).1
  refine ⟨y, .int x, S5.set r (.lst (us ++ [.int y])), ?_, y0, y1, List.getElem?_set_self hr5, p5.set2 (Ne.symm h1) (Ne.symm h2), fun S0 k0 hk => Kp.set2 (k0.trans (k1.trans (k2.trans (k3.trans (k4.trans k5))))) hk⟩
  rw [x__law_web_b1, evSs_cons st0, evSs_cons st1, evSs_nil]
end
end K

set_option Elab.async false
set_option linter.all false
set_option maxRecDepth 100000
set_option maxHeartbeats 1600000
set_option exponentiation.threshold 500
namespace K
open PySem PySem.Spec PyProof.Rows L2 Z
theorem mat_bd {n M : Nat} {W : List (List Int)} (hl : W.length = n) (hr : ∀ r, r ∈ W → r.length = n) (hb : ∀ r, r ∈ W → ∀ x, x ∈ r → 0 ≤ x ∧ x ≤ M) : ∃ w, W = mat n w ∧ InB n w M := by
  refine ⟨_, mat_of hl hr, fun a b ha hb' => ?_⟩
  have e1 : W.getD a [] = W[a]'(by omega) := by rw [List.getD_eq_getElem?_getD, List.getElem?_eq_getElem (by omega)]; rfl
  have m1 : W.getD a [] ∈ W := by rw [e1]; exact List.getElem_mem _
  have l1 := hr _ m1
  have e2 : (W.getD a []).getD b 0 = (W.getD a [])[b]'(by omega) := by rw [List.getD_eq_getElem?_getD, List.getElem?_eq_getElem (by omega)]; rfl
  rw [e2]
  exact hb _ m1 _ (List.getElem_mem _)
section
variable {S : Sto} {p c r n : Nat} {B most thin : Int}
theorem lw_row {a1 a5 a6 a8 a9 : Option U} (hp : Pen S p c B) (hB : B + 5 * n < 1000000) (hn : n ≤ 8) (hr : S[r]? = some (.lst [])) (h1 : r ≠ p) (h2 : r ≠ c) (m0 : 0 ≤ most) (m1 : most ≤ 1000) :
    ∃ (xs : List Int) (a8' a9' : Option U) (S' : Sto), evS T24 FU c__law_web_b2_s1 [some (.obj p), a1, some (.int most), some (.int n), some (.int thin), a5, a6, some (.obj r), a8, a9] S = .nx [some (.obj p), a1, some (.int most), some (.int n), some (.int thin), a5, a6, some (.obj r), a8', a9'] S' ∧
      xs.length = n ∧ (∀ x, x ∈ xs → 0 ≤ x ∧ x ≤ 1000000001000) ∧ S'[r]? = some (.lst (xs.map U.int)) ∧ Pen S' p c (B + 5 * n) ∧ ∀ S0, Kp p S0 S → S0.length ≤ r → Kp p S0 S' := by
  have hI : evI T24 (.rng1 (.var 3)) [some (.obj p), a1, some (.int most), some (.int n), some (.int thin), a5, a6, some (.obj r), a8, a9] S = .ok (.rng 0 n) S := evI_rng1 (ev_varN rfl) (by omega)
  obtain ⟨ρ', S', e1, a8', a9', xs, rfl, e2, e3, e4, e5, e6⟩ := forGo_all (src := .rng 0 n) (t := .name 8) (body := evSs T24 FU c__law_web_b1) (items := (List.range n).map fun (i : Nat) => U.int (i : Int))
    (fun i ρ S' => ∃ (a8' a9' : Option U) (xs : List Int), ρ = [some (.obj p), a1, some (.int most), some (.int n), some (.int thin), a5, a6, some (.obj r), a8', a9'] ∧ S'[r]? = some (.lst (xs.map U.int)) ∧ xs.length = i ∧ (∀ x, x ∈ xs → 0 ≤ x ∧ x ≤ 1000000001000) ∧ Pen S' p c (B + 5 * i) ∧ ∀ S0, Kp p S0 S → S0.length ≤ r → Kp p S0 S')
    (fun _ _ S' _ => over_rngR (I := fun _ => True) S' trivial _) (n := n) (ρ := [some (.obj p), a1, some (.int most), some (.int n), some (.int thin), a5, a6, some (.obj r), a8, a9]) (S := S) (by
      intro i u ρ S' hx ⟨x8, x9, xs, hρ, q1, q2, q3, q4, q5⟩
      subst hρ
      have hi : i < n := by
        have := (List.getElem?_eq_some_iff.mp hx).1
        simpa using this
      rw [rng_at hi] at hx
      cases hx
      refine ⟨_, rfl, ?_⟩
      obtain ⟨x, nu, S2, t1, t2, t3, t4, t5, t6⟩ := lw_b1 (a1 := a1) (a3 := some (.int n)) (a5 := a5) (a6 := a6) (a8 := some (.int i)) (a9 := x9) (thin := thin) q4 (by omega) q1 (by simp; omega) h1 h2 m0 m1
      refine ⟨_, S2, t1, some (.int i), some nu, xs ++ [x], rfl, by rw [t4]; simp, by simp [q2], fun y hy => ?_, t5.mono (by omega), fun S0 k0 kl => t6 S0 (q5 S0 k0 kl) kl⟩
      rcases List.mem_append.mp hy with hy | hy
      · exact q3 y hy
      · rw [List.mem_singleton.mp hy]; exact ⟨t2, t3⟩) (by simp) ⟨a8, a9, [], rfl, hr, rfl, by simp, hp.mono (by omega), fun S0 k0 _ => k0⟩
  have hL : ((List.range n).map fun (i : Nat) => U.int (i : Int)).length = n := by simp
  rw [hL] at e3 e5
  exact ⟨xs, a8', a9', S', (evS_for hI).trans e1, e3, e4, e2, e5, e6⟩
theorem lw_b2 {f : Nat} {W : List (List Int)} {a1 a6 a7 a8 a9 : Option U} (hp : Pen S p c B) (hB : B + 5 * n < 1000000) (hn : n ≤ 8) (hf : S[f]? = some (.lst (W.map rowU))) (hW : W.length ≤ 8) (h1 : f ≠ p) (h2 : f ≠ c) (m0 : 0 ≤ most) (m1 : most ≤ 1000) :
    ∃ (xs : List Int) (a7' a8' a9' : Option U) (S' : Sto), evSs T24 FU c__law_web_b2 [some (.obj p), a1, some (.int most), some (.int n), some (.int thin), some (.obj f), a6, a7, a8, a9] S = .nx [some (.obj p), a1, some (.int most), some (.int n), some (.int thin), some (.obj f), a6, a7', a8', a9'] S' ∧
      xs.length = n ∧ (∀ x, x ∈ xs → 0 ≤ x ∧ x ≤ 1000000001000) ∧ S'[f]? = some (.lst ((W ++ [xs]).map rowU)) ∧ Pen S' p c (B + 5 * n) ∧ ∀ S0, Kp p S0 S → S0.length ≤ f → Kp p S0 S' := by
  have lt := hp.lt
  have lf := (List.getElem?_eq_some_iff.mp hf).1
  have z0 : (0 : Nat) ≤ sizeLine := Nat.zero_le _
  have st0 : evS T24 FU c__law_web_b2_s0 [some (.obj p), a1, some (.int most), some (.int n), some (.int thin), some (.obj f), a6, a7, a8, a9] S = .nx [some (.obj p), a1, some (.int most), some (.int n), some (.int thin), some (.obj f), a6, some (.obj S.length), a8, a9] (S ++ [SO.lst []]) := by
    simp only [evSs, evS, ev, evs, evB, evO, evN_lst, evN_listOf, evN_cat, evI, Res.bind, Res.toS, SR.andThen, ofO, ofS, asgT, asgTs, List.getElem?_cons_zero, List.getElem?_cons_succ, List.set_cons_zero, List.set_cons_succ, Option.map_some, Option.map_none, Option.bind_some, Option.bind_none, List.length_cons, List.length_nil, if_true, if_false, SR.res, Bool.not_true, Bool.not_false, Bool.false_eq_true, wipeR, List.map_cons, List.map_nil, cmp_eqI, cmp_neI, cmpS_eq, cmpS_ne, cmpI_lt, cmpI_le, cmpI_gt, cmpI_ge, Bool.not_eq_true, decide_true, decide_false, c__law_web_b2_s0, z0]
  obtain ⟨xs, a8', a9', S', e1, e2, e3, e4, e5, e6⟩ := lw_row (S := S ++ [SO.lst []]) (r := S.length) (a1 := a1) (a5 := some (.obj f)) (a6 := a6) (a8 := a8) (a9 := a9) (thin := thin) (hp.ke Ke.app) hB hn app_at (by omega) (by omega) m0 m1
  have k := e6 S Ke.app.kp (Nat.le_refl _)
  have hf' := k.at_ h1 hf
  have st2 : evS T24 FU c__law_web_b2_s2 [some (.obj p), a1, some (.int most), some (.int n), some (.int thin), some (.obj f), a6, some (.obj S.length), a8', a9'] S' = .nx [some (.obj p), a1, some (.int most), some (.int n), some (.int thin), some (.obj f), a6, some (.obj S.length), a8', a9'] (S'.set f (.lst (W.map rowU ++ [rowU xs]))) :=
    evS_app (ev_varN rfl) (lst_obj hf') (S2 := S') (by rw [ev, evs_cons' (ev_varN rfl) evs_nil']; simp only [Res.bind, bi_tuple_obj e4, ofO]; rfl) hf' (by simp; omega)
  refine ⟨xs, some (.obj S.length), a8', a9', S'.set f (.lst (W.map rowU ++ [rowU xs])), ?_, e2, e3, ?_, e5.set2 (Ne.symm h1) (Ne.symm h2), fun S0 k0 hk => Kp.set2 (k0.trans k) hk⟩
  · rw [x__law_web_b2, evSs_cons st0, evSs_cons e1, evSs_cons st2, evSs_nil]
  · rw [List.getElem?_set_self (List.getElem?_eq_some_iff.mp hf').1]; simp
theorem e_law_web {pl : Int} (hp : Pen S p c B) (hB : B + 400 < 1000000) (hpl : 1 ≤ pl) (hpl8 : pl ≤ 8) (m0 : 0 ≤ most) (m1 : most ≤ 1000) :
    ∃ (n : Nat) (w : Nat → Nat → Int) (S' : Sto), f__law_web [.obj p, .int pl, .int most] S = .ok (webU (mat n w)) S' ∧ 1 ≤ n ∧ n ≤ 8 ∧ InB n w 1000000001000 ∧ Pen S' p c (B + 400) ∧ Kp p S S' := by
  rw [b__law_web, r__law_web]
  have hN : N__law_web.length - 3 = 7 := rfl
  simp only [hN, List.replicate, List.cons_append, List.nil_append]
  obtain ⟨v, S1, t1, q1, r1, p1, k1, l1⟩ := lw_tk (m := pl) (e := .var 1) (ρ := [some (.obj p), some (.int pl), some (.int most), none, none, none, none, none, none, none]) hp (by omega) hpl (by omega) rfl (ev_varN rfl)
  obtain ⟨k, rfl⟩ := Int.eq_ofNat_of_zero_le q1
  have en : (1 : Int) + k = ((1 + k : Nat) : Int) := by omega
  have st0 : evS T24 FU c__law_web_s0 [some (.obj p), some (.int pl), some (.int most), none, none, none, none, none, none, none] S = .nx [some (.obj p), some (.int pl), some (.int most), some (.int ((1 + k : Nat) : Int)), none, none, none, none, none, none] S1 := by
    rw [← en]
    exact evS_asgN (ev_addI ev_intN t1)
  generalize hn : 1 + k = n at st0
  obtain ⟨th, S2, t2, q2, r2, p2, k2, l2⟩ := lw_tk (m := 4) (e := .int 4) (ρ := [some (.obj p), some (.int pl), some (.int most), some (.int n), none, none, none, none, none, none]) p1 (by omega) (by omega) (by omega) rfl ev_intN
  have z0 : (0 : Nat) ≤ sizeLine := Nat.zero_le _
  have st1 : evS T24 FU c__law_web_s1 [some (.obj p), some (.int pl), some (.int most), some (.int n), none, none, none, none, none, none] S1 = .nx [some (.obj p), some (.int pl), some (.int most), some (.int n), some (.int th), some (.obj S2.length), none, none, none, none] (S2 ++ [SO.lst []]) := by
    unfold c__law_web_s1
    rw [evS, t2]
    simp only [evSs, evS, ev, evs, evB, evO, evN_lst, evN_listOf, evN_cat, evI, Res.bind, Res.toS, SR.andThen, ofO, ofS, asgT, asgTs, List.getElem?_cons_zero, List.getElem?_cons_succ, List.set_cons_zero, List.set_cons_succ, Option.map_some, Option.map_none, Option.bind_some, Option.bind_none, List.length_cons, List.length_nil, if_true, if_false, SR.res, Bool.not_true, Bool.not_false, Bool.false_eq_true, wipeR, List.map_cons, List.map_nil, cmp_eqI, cmp_neI, cmpS_eq, cmpS_ne, cmpI_lt, cmpI_le, cmpI_gt, cmpI_ge, Bool.not_eq_true, decide_true, decide_false, z0]
  have lt := p2.lt
  have hI : evI T24 (.rng1 (.var 3)) [some (.obj p), some (.int pl), some (.int most), some (.int n), some (.int th), some (.obj S2.length), none, none, none, none] (S2 ++ [SO.lst []]) = .ok (.rng 0 n) (S2 ++ [SO.lst []]) := evI_rng1 (ev_varN rfl) (by omega)
  obtain ⟨ρ', S', e1, a6, a7, a8, a9, W, rfl, e2, e3, e4, e5, e6⟩ := forGo_all (src := .rng 0 n) (t := .name 6) (body := evSs T24 FU c__law_web_b2) (items := (List.range n).map fun (i : Nat) => U.int (i : Int))
    (fun i ρ S' => ∃ (a6 a7 a8 a9 : Option U) (W : List (List Int)), ρ = [some (.obj p), some (.int pl), some (.int most), some (.int n), some (.int th), some (.obj S2.length), a6, a7, a8, a9] ∧ S'[S2.length]? = some (.lst (W.map rowU)) ∧ W.length = i ∧ (∀ r, r ∈ W → r.length = n ∧ ∀ x, x ∈ r → 0 ≤ x ∧ x ≤ 1000000001000) ∧ Pen S' p c (B + 2 + 40 * i) ∧ Kp p S S')
    (fun _ _ S' _ => over_rngR (I := fun _ => True) S' trivial _) (n := n) (ρ := [some (.obj p), some (.int pl), some (.int most), some (.int n), some (.int th), some (.obj S2.length), none, none, none, none]) (S := S2 ++ [SO.lst []]) (by
      intro i u ρ S' hx ⟨x6, x7, x8, x9, W, hρ, q1, q2, q3, q4, q5⟩
      subst hρ
      have hi : i < n := by
        have := (List.getElem?_eq_some_iff.mp hx).1
        simpa using this
      rw [rng_at hi] at hx
      cases hx
      refine ⟨_, rfl, ?_⟩
      obtain ⟨xs, a7', a8', a9', S3, t1, t2, t3, t4, t5, t6⟩ := lw_b2 (n := n) (f := S2.length) (a1 := some (.int pl)) (a6 := some (.int i)) (a7 := x7) (a8 := x8) (a9 := x9) (thin := th) q4 (by omega) (by omega) q1 (by omega) (by omega) (by omega) m0 m1
      refine ⟨_, S3, t1, some (.int i), a7', a8', a9', W ++ [xs], rfl, t4, by simp [q2], fun r hr => ?_, t5.mono (by omega), t6 S q5 (by omega)⟩
      rcases List.mem_append.mp hr with hr | hr
      · exact q3 r hr
      · rw [List.mem_singleton.mp hr]; exact ⟨t2, t3⟩) (by simp) ⟨none, none, none, none, [], rfl, app_at, rfl, by simp, (p2.ke Ke.app).mono (by omega), (k1.trans k2).trans Ke.app.kp⟩
  have hL : ((List.range n).map fun (i : Nat) => U.int (i : Int)).length = n := by simp
  rw [hL] at e3 e5
  obtain ⟨w, hw, hb⟩ := mat_bd (M := 1000000001000) e3 (fun r hr => (e4 r hr).1) (fun r hr => (e4 r hr).2)
  refine ⟨n, w, S', ?_, by omega, by omega, hb, e5.mono (by omega), e6⟩
  have st2 : evS T24 FU c__law_web_s2 [some (.obj p), some (.int pl), some (.int most), some (.int n), some (.int th), some (.obj S2.length), none, none, none, none] (S2 ++ [SO.lst []]) = .nx [some (.obj p), some (.int pl), some (.int most), some (.int n), some (.int th), some (.obj S2.length), a6, a7, a8, a9] S' := (evS_for hI).trans e1
  have st3 : evS T24 FU c__law_web_s3 [some (.obj p), some (.int pl), some (.int most), some (.int n), some (.int th), some (.obj S2.length), a6, a7, a8, a9] S' = .rt (webU (mat n w)) S' :=
    evS_ret (by rw [ev, evs_cons' (ev_varN rfl) evs_nil']; simp only [Res.bind, bi_tuple_obj e2, ofO, ← hw]; rfl)
  rw [x__law_web, evSs_cons st0, evSs_cons st1, evSs_cons st2, evSs_rt st3, SR.res]
end
end K

set_option Elab.async false
set_option linter.all false
set_option maxRecDepth 100000
set_option maxHeartbeats 1600000
set_option exponentiation.threshold 500
namespace K
open PySem PySem.Spec PyProof.Rows L2 Z
/-! ### a table of things somewhere in the store -/
def TabAt (S : Sto) (b n : Nat) (v : Nat → Nat → Int) : Prop := ∀ a, a < n → S[b + a]? = some (.lst ((List.range n).map fun k => U.int (v a k)))
def upd (v : Nat → Nat → Int) (a k : Nat) (x : Int) : Nat → Nat → Int := fun c d => if c = a then (if d = k then x else v c d) else v c d
def Bd (n : Nat) (v : Nat → Nat → Int) (M : Int) : Prop := ∀ a b, a < n → b < n → 0 ≤ v a b ∧ v a b ≤ M
theorem Bd.mono {n : Nat} {v : Nat → Nat → Int} {M M' : Int} (h : Bd n v M) (hm : M ≤ M') : Bd n v M' := fun a b ha hb => ⟨(h a b ha hb).1, Int.le_trans (h a b ha hb).2 hm⟩
theorem Bd.upd {n a k : Nat} {v : Nat → Nat → Int} {M x : Int} (h : Bd n v M) (h0 : 0 ≤ x) (h1 : x ≤ M) : Bd n (upd v a k x) M := fun c d hc hd => by
  unfold K.upd
  by_cases q : c = a
  · rw [if_pos q]
    by_cases q2 : d = k
    · rw [if_pos q2]; exact ⟨h0, h1⟩
    · rw [if_neg q2]; exact h c d hc hd
  · rw [if_neg q]; exact h c d hc hd
section
variable {S S' : Sto} {b n a k p : Nat} {v : Nat → Nat → Int}
theorem TabAt.kp (h : TabAt S b n v) (q : Kp p S S') (hp : p < b) : TabAt S' b n v := fun a ha => q.at_ (by omega) (h a ha)
theorem TabAt.set (h : TabAt S b n v) (ha : a < n) (hk : k < n) {x : Int} : TabAt (S.set (b + a) (.lst (((List.range n).map fun k => U.int (v a k)).set k (.int x)))) b n (upd v a k x) := fun c hc => by
  have la := (List.getElem?_eq_some_iff.mp (h a ha)).1
  by_cases q : c = a
  · subst q
    rw [List.getElem?_set_self la, rng_set hk]
    congr 2
    refine rng_congr fun d hd => ?_
    unfold upd
    rw [if_pos rfl]
    by_cases q2 : d = k
    · rw [if_pos q2, if_pos q2]
    · rw [if_neg q2, if_neg q2]
  · rw [List.getElem?_set_ne (by omega), h c hc]
    congr 2
    refine rng_congr fun d hd => ?_
    unfold upd
    rw [if_neg q]
theorem TabAt.cell (h : TabAt S b n v) (ha : a < n) (hk : k < n) : idxE S (.obj (b + a)) (.int k) = some (.int (v a k)) := by
  simp only [idxE, seqOf, lstOf, h a ha]
  exact atI_nat (rng_at hk)
theorem ring_at {g i : Nat} {L : List Nat} (h : S[g]? = some (.lst (L.map fun v => U.int (v : Nat)))) (hl : L.length = n) (hb : ∀ v, v ∈ L → v < n) (hi : i < n) : ∃ v, v < n ∧ idxE S (.obj g) (.int (i : Nat)) = some (.int (v : Nat)) := by
  refine ⟨L[i]'(by omega), hb _ (List.getElem_mem _), ?_⟩
  simp only [idxE, seqOf, lstOf, h]
  exact atI_nat (by rw [List.getElem?_map, List.getElem?_eq_getElem (by omega)]; rfl)
theorem ev_idx {T : Th} {a i : CE} {ρ : Rho} {S S1 S2 : Sto} {u x y : U} (h : ev T a ρ S = .ok u S1) (h2 : ev T i ρ S1 = .ok x S2) (h3 : idxE S2 u x = some y) : ev T (.idx a i) ρ S = .ok y S2 := by rw [ev, h]; simp only [Res.bind, h2, h3, ofO]
end
section
variable {S : Sto} {p c n b g : Nat} {B most thin : Int} {L : List Nat}
theorem lr_tk {m : Int} {e : CE} {ρ : Rho} (hp : Pen S p c B) (hB : B < 1000000) (hm : 1 ≤ m) (hm2 : m ≤ 1000000000000) (h0 : ρ[0]? = some (some (.obj p))) (he : ev T25 e ρ S = .ok (.int m) S) :
    ∃ v S', ev T25 (.call "_law_take" (.cons (.var 0) (.cons e .nil))) ρ S = .ok (.int v) S' ∧ 0 ≤ v ∧ v < m ∧ Pen S' p c (B + 1) ∧ Kp p S S' ∧ S'.length = S.length := by
  obtain ⟨v, S', t1, t2, t3, t4, t5, t6⟩ := e_take hp hB hm (sm400 (by omega) (by omega))
  exact ⟨v, S', (ev_callF d__law_rich___law_take t__law_rich___law_take (evs_cons' (ev_varN h0) (evs_cons' he evs_nil'))).trans t1, t2, t3, t4, t5, t6⟩
abbrev lrR (p : Nat) (pl most : Int) (n g : Nat) (thin : Int) (b : Nat) (a7 a8 a9 a10 : Option U) : Rho := [some (.obj p), some (.int pl), some (.int most), some (.int n), some (.obj g), some (.int thin), some (tabU b n), a7, a8, a9, a10]
/-- the ring's roads -/
theorem lr_ring {pl : Int} {v : Nat → Nat → Int} {a7 a8 a9 a10 : Option U} (hn : n ≤ 8) (ht : TabAt S b n v) (hv : Bd n v 1) (hL : S[g]? = some (.lst (L.map fun v => U.int (v : Nat)))) (hl : L.length = n) (hb : ∀ v, v ∈ L → v < n) (hg : g < b) (hp : Pen S p c B) (hpb : p < b) (hcb : c < b) :
    ∃ (x : Option U) (v' : Nat → Nat → Int) (S' : Sto), evS T25 FU c__law_rich_s3 (lrR p pl most n g thin b a7 a8 a9 a10) S = .nx (lrR p pl most n g thin b x a8 a9 a10) S' ∧ TabAt S' b n v' ∧ Bd n v' 1 ∧ Pen S' p c B ∧ ∀ S0, Kp p S0 S → S0.length ≤ b → Kp p S0 S' := by
  have hI : evI T25 (.rng1 (.var 3)) (lrR p pl most n g thin b a7 a8 a9 a10) S = .ok (.rng 0 n) S := evI_rng1 (ev_varN rfl) (by omega)
  obtain ⟨ρ', S', e1, x, v', rfl, e2, e3, e4, e5, e6⟩ := forGo_all (src := .rng 0 n) (t := .name 7) (body := evSs T25 FU c__law_rich_b1) (items := (List.range n).map fun (i : Nat) => U.int (i : Int))
    (fun i ρ S' => ∃ (x : Option U) (v' : Nat → Nat → Int), ρ = lrR p pl most n g thin b x a8 a9 a10 ∧ TabAt S' b n v' ∧ Bd n v' 1 ∧ S'[g]? = some (.lst (L.map fun v => U.int (v : Nat))) ∧ Pen S' p c B ∧ ∀ S0, Kp p S0 S → S0.length ≤ b → Kp p S0 S')
    (fun _ _ S' _ => over_rngR (I := fun _ => True) S' trivial _) (n := n) (ρ := lrR p pl most n g thin b a7 a8 a9 a10) (S := S) (by
      intro i u ρ S' hx ⟨x, v', hρ, q1, q2, q3, q4, q5⟩
      subst hρ
      have hi : i < n := by
        have := (List.getElem?_eq_some_iff.mp hx).1
        simpa using this
      rw [rng_at hi] at hx
      cases hx
      refine ⟨_, rfl, ?_⟩
      obtain ⟨r1, r1n, r1e⟩ := ring_at q3 hl hb hi
      have hmd : ((i : Int) + 1).fmod n = (((i + 1) % n : Nat) : Int) := by
        have : ((i : Int) + 1) = ((i + 1 : Nat) : Int) := by omega
        rw [this, Int.fmod_eq_emod_of_nonneg _ (by omega)]
        exact (Int.natCast_emod _ _).symm
      obtain ⟨r2, r2n, r2e⟩ := ring_at q3 hl hb (Nat.mod_lt (i + 1) (by omega : n > 0))
      have hn0 : (n : Int) ≠ 0 := by omega
      refine ⟨lrR p pl most n g thin b (some (.int i)) a8 a9 a10, S'.set (b + r1) (.lst (((List.range n).map fun k => U.int (v' r1 k)).set r2 (.int 1))), ?_, some (.int i), upd v' r1 r2 1, rfl, q1.set r1n r2n, q2.upd (by decide) (by decide), ?_, q4.set2 (by omega) (by omega), fun S0 k0 kb => Kp.set2 (q5 S0 k0 kb) (by omega)⟩
      · refine (evSs_cons (evS_setI (m := r2) (k := b + r1) (S1 := S') (S2 := S') (S3 := S') ev_intN ?_ ?_ (q1 r1 r1n) (by simpa using r2n))).trans evSs_nil
        · exact ev_idx (ev_varN rfl) (ev_idx (ev_varN rfl) (ev_varN rfl) r1e) (idx_tab r1n)
        · refine ev_idx (ev_varN rfl) (x := .int (((i + 1) % n : Nat) : Int)) ?_ r2e
          rw [ev, ev_addI (ev_varN rfl) ev_intN]
          simp only [Res.bind]
          rw [ev_varN rfl]
          simp only [binI_md hn0, hmd, ofO]
      · rw [List.getElem?_set_ne (by omega)]; exact q3) (by simp) ⟨a7, v, rfl, ht, hv, hL, hp, fun S0 k0 _ => k0⟩
  exact ⟨x, v', S', (evS_for hI).trans e1, e2, e3, e5, e6⟩
/-- a cell -/
theorem lr_b2 {pl : Int} {v : Nat → Nat → Int} {a7 a10 : Option U} {i j : Nat} {M : Int} (hi : i < n) (hj : j < n) (ht : TabAt S b n v) (hv : Bd n v M) (m0 : 0 ≤ most) (m1 : most ≤ 1000) (h0 : 0 ≤ thin) (h4 : thin < 4) (hp : Pen S p c B) (hB : B + 2 < 1000000) (hpb : p < b) (hcb : c < b) :
    ∃ (v' : Nat → Nat → Int) (S' : Sto), evSs T25 FU c__law_rich_b2 (lrR p pl most n g thin b a7 (some (.int i)) (some (.int j)) a10) S = .nx (lrR p pl most n g thin b a7 (some (.int i)) (some (.int j)) a10) S' ∧ TabAt S' b n v' ∧ Bd n v' (M + most) ∧ Pen S' p c (B + 2) ∧ ∀ S0, Kp p S0 S → S0.length ≤ b → Kp p S0 S' := by
  obtain ⟨z, S1, t1, q1, r1, p1, k1, l1⟩ := lr_tk (m := 1 + thin) (e := .bin .add (.int 1) (.var 5)) (ρ := lrR p pl most n g thin b a7 (some (.int i)) (some (.int j)) a10) hp (by omega) (by omega) (by omega) rfl (ev_addI ev_intN (ev_varN rfl))
  have et : ev T25 (.cmp .eq (.call "_law_take" (.cons (.var 0) (.cons (.bin .add (.int 1) (.var 5)) .nil))) (.int 0)) (lrR p pl most n g thin b a7 (some (.int i)) (some (.int j)) a10) S = .ok (.bl (decide (z = 0))) S1 := by
    rw [ev, t1]; simp only [evSs, evS, ev, evs, evB, evO, evN_lst, evN_listOf, evN_cat, evI, Res.bind, Res.toS, SR.andThen, ofO, ofS, asgT, asgTs, List.getElem?_cons_zero, List.getElem?_cons_succ, List.set_cons_zero, List.set_cons_succ, Option.map_some, Option.map_none, Option.bind_some, Option.bind_none, List.length_cons, List.length_nil, if_true, if_false, SR.res, Bool.not_true, Bool.not_false, Bool.false_eq_true, wipeR, List.map_cons, List.map_nil, cmp_eqI, cmp_neI, cmpS_eq, cmpS_ne, cmpI_lt, cmpI_le, cmpI_gt, cmpI_ge, Bool.not_eq_true, decide_true, decide_false]
  have ht1 := ht.kp k1 hpb
  by_cases q : z = 0
  · rw [decide_eq_true q] at et
    obtain ⟨y, S2, t2, q2, r2, p2, k2, l2⟩ := lr_tk (m := most + 1) (e := .bin .add (.var 2) (.int 1)) (ρ := lrR p pl most n g thin b a7 (some (.int i)) (some (.int j)) a10) p1 (by omega) (by omega) (by omega) rfl (ev_addI (ev_varN rfl) ev_intN)
    have ht2 := ht1.kp k2 hpb
    have bv := hv i j hi hj
    refine ⟨upd v i j (v i j + y), S2.set (b + i) (.lst (((List.range n).map fun k => U.int (v i k)).set j (.int (v i j + y)))), ?_, ht2.set hi hj, (hv.mono (by omega)).upd (by omega) (by omega), (p2.mono (by omega)).set2 (by omega) (by omega), fun S0 k0 kb => Kp.set2 ((k0.trans k1).trans k2) (by omega)⟩
    have st : evS T25 FU (.setI (.idx (.var 6) (.var 8)) (.var 9) (.bin .add (.idx (.idx (.var 6) (.var 8)) (.var 9)) (.call "_law_take" (.cons (.var 0) (.cons (.bin .add (.var 2) (.int 1)) .nil))))) (lrR p pl most n g thin b a7 (some (.int i)) (some (.int j)) a10) S1 = .nx (lrR p pl most n g thin b a7 (some (.int i)) (some (.int j)) a10) (S2.set (b + i) (.lst (((List.range n).map fun k => U.int (v i k)).set j (.int (v i j + y))))) :=
      evS_setI (m := j) (k := b + i) (S1 := S2) (S2 := S2) (S3 := S2) (ev_addI (ev_idx (ev_idx (ev_varN rfl) (ev_varN rfl) (idx_tab hi)) (ev_varN rfl) (ht1.cell hi hj)) t2) (ev_idx (ev_varN rfl) (ev_varN rfl) (idx_tab hi)) (ev_varN rfl) (ht2 i hi) (by simpa using hj)
    exact (evSs_cons ((evS_iteT et).trans ((evSs_cons st).trans evSs_nil))).trans evSs_nil
  · rw [decide_eq_false q] at et
    exact ⟨v, S1, (evSs_cons ((evS_iteF et).trans evSs_nil)).trans evSs_nil, ht1, hv.mono (by omega), p1.mono (by omega), fun S0 k0 kb => k0.trans k1⟩
theorem lr_for2 {pl : Int} {v : Nat → Nat → Int} {a7 a9 a10 : Option U} {i : Nat} {M : Int} (hn : n ≤ 8) (hi : i < n) (ht : TabAt S b n v) (hv : Bd n v M) (m0 : 0 ≤ most) (m1 : most ≤ 1000) (h0 : 0 ≤ thin) (h4 : thin < 4) (hp : Pen S p c B) (hB : B + 2 * n < 1000000) (hpb : p < b) (hcb : c < b) :
    ∃ (x : Option U) (v' : Nat → Nat → Int) (S' : Sto), evSs T25 FU c__law_rich_b3 (lrR p pl most n g thin b a7 (some (.int i)) a9 a10) S = .nx (lrR p pl most n g thin b a7 (some (.int i)) x a10) S' ∧ TabAt S' b n v' ∧ Bd n v' (M + most * n) ∧ Pen S' p c (B + 2 * n) ∧ ∀ S0, Kp p S0 S → S0.length ≤ b → Kp p S0 S' := by
  have hI : evI T25 (.rng1 (.var 3)) (lrR p pl most n g thin b a7 (some (.int i)) a9 a10) S = .ok (.rng 0 n) S := evI_rng1 (ev_varN rfl) (by omega)
  obtain ⟨ρ', S', e1, x, v', rfl, e2, e3, e5, e6⟩ := forGo_all (src := .rng 0 n) (t := .name 9) (body := evSs T25 FU c__law_rich_b2) (items := (List.range n).map fun (i : Nat) => U.int (i : Int))
    (fun j ρ S' => ∃ (x : Option U) (v' : Nat → Nat → Int), ρ = lrR p pl most n g thin b a7 (some (.int i)) x a10 ∧ TabAt S' b n v' ∧ Bd n v' (M + most * j) ∧ Pen S' p c (B + 2 * j) ∧ ∀ S0, Kp p S0 S → S0.length ≤ b → Kp p S0 S')
    (fun _ _ S' _ => over_rngR (I := fun _ => True) S' trivial _) (n := n) (ρ := lrR p pl most n g thin b a7 (some (.int i)) a9 a10) (S := S) (by
      intro j u ρ S' hx ⟨x, v', hρ, q1, q2, q4, q5⟩
      subst hρ
      have hj : j < n := by
        have := (List.getElem?_eq_some_iff.mp hx).1
        simpa using this
      rw [rng_at hj] at hx
      cases hx
      refine ⟨_, rfl, ?_⟩
      obtain ⟨v2, S2, t1, t2, t3, t4, t5⟩ := lr_b2 (pl := pl) (g := g) (a7 := a7) (a10 := a10) hi hj q1 q2 m0 m1 h0 h4 q4 (by omega) hpb hcb
      refine ⟨_, S2, t1, some (.int j), v2, rfl, t2, t3.mono ?_, t4.mono (by omega), fun S0 k0 kb => t5 S0 (q5 S0 k0 kb) kb⟩
      have : most * ((j + 1 : Nat) : Int) = most * j + most := by rw [Int.natCast_add, Int.mul_add]; simp
      rw [this]; omega) (by simp) ⟨a9, v, rfl, ht, hv.mono (by simp), hp.mono (by omega), fun S0 k0 _ => k0⟩
  have hL : ((List.range n).map fun (i : Nat) => U.int (i : Int)).length = n := by simp
  rw [hL] at e3 e5
  exact ⟨x, v', S', (evSs_cons ((evS_for hI).trans e1)).trans evSs_nil, e2, e3, e5, e6⟩
theorem lr_for3 {pl : Int} {v : Nat → Nat → Int} {a7 a8 a9 a10 : Option U} (hn : n ≤ 8) (ht : TabAt S b n v) (hv : Bd n v 1) (m0 : 0 ≤ most) (m1 : most ≤ 1000) (h0 : 0 ≤ thin) (h4 : thin < 4) (hp : Pen S p c B) (hB : B + 128 < 1000000) (hpb : p < b) (hcb : c < b) :
    ∃ (x y : Option U) (v' : Nat → Nat → Int) (S' : Sto), evS T25 FU c__law_rich_s4 (lrR p pl most n g thin b a7 a8 a9 a10) S = .nx (lrR p pl most n g thin b a7 x y a10) S' ∧ TabAt S' b n v' ∧ Bd n v' 100000 ∧ Pen S' p c (B + 128) ∧ ∀ S0, Kp p S0 S → S0.length ≤ b → Kp p S0 S' := by
  have hI : evI T25 (.rng1 (.var 3)) (lrR p pl most n g thin b a7 a8 a9 a10) S = .ok (.rng 0 n) S := evI_rng1 (ev_varN rfl) (by omega)
  obtain ⟨ρ', S', e1, x, y, v', rfl, e2, e3, e5, e6⟩ := forGo_all (src := .rng 0 n) (t := .name 8) (body := evSs T25 FU c__law_rich_b3) (items := (List.range n).map fun (i : Nat) => U.int (i : Int))
    (fun j ρ S' => ∃ (x y : Option U) (v' : Nat → Nat → Int), ρ = lrR p pl most n g thin b a7 x y a10 ∧ TabAt S' b n v' ∧ Bd n v' (1 + 8000 * j) ∧ Pen S' p c (B + 16 * j) ∧ ∀ S0, Kp p S0 S → S0.length ≤ b → Kp p S0 S')
    (fun _ _ S' _ => over_rngR (I := fun _ => True) S' trivial _) (n := n) (ρ := lrR p pl most n g thin b a7 a8 a9 a10) (S := S) (by
      intro j u ρ S' hx ⟨x, y, v', hρ, q1, q2, q4, q5⟩
      subst hρ
      have hj : j < n := by
        have := (List.getElem?_eq_some_iff.mp hx).1
        simpa using this
      rw [rng_at hj] at hx
      cases hx
      refine ⟨_, rfl, ?_⟩
      obtain ⟨x2, v2, S2, t1, t2, t3, t4, t5⟩ := lr_for2 (pl := pl) (g := g) (a7 := a7) (a9 := y) (a10 := a10) hn hj q1 q2 m0 m1 h0 h4 q4 (by omega) hpb hcb
      refine ⟨_, S2, t1, some (.int j), x2, v2, rfl, t2, t3.mono ?_, t4.mono (by omega), fun S0 k0 kb => t5 S0 (q5 S0 k0 kb) kb⟩
      have : most * (n : Int) ≤ 1000 * 8 := Int.mul_le_mul (by omega) (by omega) (by omega) (by decide)
      omega) (by simp) ⟨a8, a9, v, rfl, ht, hv.mono (by simp), hp.mono (by omega), fun S0 k0 _ => k0⟩
  have hL : ((List.range n).map fun (i : Nat) => U.int (i : Int)).length = n := by simp
  rw [hL] at e3 e5
  exact ⟨x, y, v', S', (evS_for hI).trans e1, e2, e3.mono (by omega), e5.mono (by omega), e6⟩
theorem e_law_rich {pl : Int} (hp : Pen S p c B) (hB : B + 400 < 1000000) (hpl : 1 ≤ pl) (hpl8 : pl ≤ 8) (m0 : 0 ≤ most) (m1 : most ≤ 1000) :
    ∃ (n : Nat) (w : Nat → Nat → Int) (S' : Sto), f__law_rich [.obj p, .int pl, .int most] S = .ok (webU (mat n w)) S' ∧ 1 ≤ n ∧ n ≤ 8 ∧ InB n w 1000000001000 ∧ Pen S' p c (B + 400) ∧ Kp p S S' := by
  rw [b__law_rich, r__law_rich]
  have hN : N__law_rich.length - 3 = 8 := rfl
  simp only [hN, List.replicate, List.cons_append, List.nil_append]
  obtain ⟨v, S1, t1, q1, r1, p1, k1, l1⟩ := lr_tk (m := pl) (e := .var 1) (ρ := [some (.obj p), some (.int pl), some (.int most), none, none, none, none, none, none, none, none]) hp (by omega) hpl (by omega) rfl (ev_varN rfl)
  obtain ⟨k, rfl⟩ := Int.eq_ofNat_of_zero_le q1
  have en : (1 : Int) + k = ((1 + k : Nat) : Int) := by omega
  have st0 : evS T25 FU c__law_rich_s0 [some (.obj p), some (.int pl), some (.int most), none, none, none, none, none, none, none, none] S = .nx [some (.obj p), some (.int pl), some (.int most), some (.int ((1 + k : Nat) : Int)), none, none, none, none, none, none, none] S1 := by
    rw [← en]
    exact evS_asgN (ev_addI ev_intN t1)
  have hn1 : 1 ≤ 1 + k := by omega
  have hn8 : 1 + k ≤ 8 := by omega
  generalize 1 + k = n at st0 hn1 hn8
  obtain ⟨L, S2, d1, d2, d3, d4, d5, d6⟩ := e_drawn (n := n) p1 (by omega) hn8
  have lt1 := p1.lt
  obtain ⟨th, S3, t2, q2, r2, p2, k2, l2⟩ := lr_tk (m := 4) (e := .int 4) (ρ := [some (.obj p), some (.int pl), some (.int most), some (.int n), none, none, none, none, none, none, none]) d5 (by omega) (by omega) (by omega) rfl ev_intN
  have st1 : evS T25 FU c__law_rich_s1 [some (.obj p), some (.int pl), some (.int most), some (.int n), none, none, none, none, none, none, none] S1 = .nx [some (.obj p), some (.int pl), some (.int most), some (.int n), some (.obj S1.length), some (.int th), none, none, none, none, none] S3 := by
    have e1 : ev T25 (.call "_law_drawn" (.cons (.var 0) (.cons (.var 3) .nil))) [some (.obj p), some (.int pl), some (.int most), some (.int n), none, none, none, none, none, none, none] S1 = .ok (.obj S1.length) S2 :=
      (ev_callF d__law_rich___law_drawn t__law_rich___law_drawn (evs_cons' (ev_varN rfl) (evs_cons' (ev_varN rfl) evs_nil'))).trans d1
    unfold c__law_rich_s1
    rw [evS, e1]
    simp only [Res.toS, t2]
    rfl
  have hg3 := k2.at_ (k := S1.length) (by omega) d2
  have lg3 := (List.getElem?_eq_some_iff.mp hg3).1
  -- the table
  have l1t : evN T25 c__law_rich_l1 [some (.obj p), some (.int pl), some (.int most), some (.int n), some (.obj S1.length), some (.int th), none, none, none, none, none] S3 = .ok ((List.range n).map fun i => .obj (S3.length + i)) (S3 ++ (List.range n).map fun i => SO.lst ((List.range n).map fun _ => .int 0)) := by
    refine evN_tab (src := .rng 0 n) (fun (i : Nat) => U.int (i : Int)) (fun _ => (List.range n).map fun _ => .int 0) (evI_rng1 (ev_varN rfl) (by omega)) over_rngR (by simp [Src.len]) (sz1 hn8) fun i S' hi hk => ⟨_, rfl, ?_⟩
    have h0 : (0 : Int) ≤ (n : Int) ∧ (n : Int) ≤ 1000 ∧ [U.int 0].length ≤ 1000 := ⟨by omega, by omega, by simp⟩
    have er : (List.replicate n [U.int 0]).flatten = (List.range n).map fun _ => U.int 0 := by
      rw [show (List.range n).map (fun _ => U.int 0) = List.replicate n (U.int 0) by simp [List.map_const'] , List.flatten_replicate_singleton]
    have hr : evN T25 (.rep (.tmp (.lst (.cons (.int 0) .nil))) (.var 3)) [some (.obj p), some (.int pl), some (.int most), some (.int n), some (.obj S1.length), some (.int th), none, some (.int i), none, none, none] S' = .ok ((List.range n).map fun _ => U.int 0) S' := by
      rw [evN, ev_tmp (evN_lst' (evs_cons' ev_intN evs_nil') (by simp))]
      simp only [Res.bind]
      rw [ev_varN rfl]
      simp only [lstH]
      rw [if_pos h0, Int.toNat_natCast, er]
    show ev T25 (.mk (.rep (.tmp (.lst (.cons (.int 0) .nil))) (.var 3))) _ S' = _
    rw [ev]
    show (evN T25 (.rep (.tmp (.lst (.cons (.int 0) .nil))) (.var 3)) [some (.obj p), some (.int pl), some (.int most), some (.int n), some (.obj S1.length), some (.int th), none, some (.int i), none, none, none] S').bind _ = _
    rw [hr]
    rfl
  have st2 : evS T25 FU c__law_rich_s2 [some (.obj p), some (.int pl), some (.int most), some (.int n), some (.obj S1.length), some (.int th), none, none, none, none, none] S3 = .nx (lrR p pl most n S1.length th S3.length none none none none) (S3 ++ (List.range n).map fun i => SO.lst ((List.range n).map fun _ => .int 0)) :=
    evS_asgN (ev_tmp l1t)
  have tb : TabAt (S3 ++ (List.range n).map fun i => SO.lst ((List.range n).map fun _ => .int 0)) S3.length n (fun _ _ => 0) := fun a ha => by
    rw [List.getElem?_append_right (by omega), show S3.length + a - S3.length = a by omega, rng_at ha]
  have lt3 := p2.lt
  obtain ⟨x3, v3, S4, e3, tb3, bd3, pn3, kp3⟩ := lr_ring (pl := pl) (most := most) (thin := th) (a7 := none) (a8 := none) (a9 := none) (a10 := none) (v := fun _ _ => 0) hn8 tb (fun _ _ _ _ => ⟨by simp, by simp⟩) (Ke.at_ Ke.app hg3) d3 d4 lg3 (p2.ke Ke.app) lt3.1 lt3.2
  obtain ⟨x4, y4, v4, S5, e4, tb4, bd4, pn4, kp4⟩ := lr_for3 (pl := pl) (most := most) (g := S1.length) (thin := th) (a7 := x3) (a8 := none) (a9 := none) (a10 := none) hn8 tb3 bd3 m0 m1 q2 r2 pn3 (by omega) lt3.1 lt3.2
  have k5 : Kp p S S5 := kp4 S (kp3 S (((k1.trans d6).trans k2).trans Ke.app.kp) (Nat.le_of_lt (Nat.lt_of_le_of_lt (by omega : S.length ≤ S1.length) lg3))) (Nat.le_of_lt (Nat.lt_of_le_of_lt (by omega : S.length ≤ S1.length) lg3))
  -- a road more
  obtain ⟨i5, S6, t6, q6, r6, p6, k6, l6⟩ := lr_tk (m := n) (e := .var 3) (ρ := lrR p pl most n S1.length th S3.length x3 x4 y4 none) pn4 (by omega) (by omega) (by omega) rfl (ev_varN rfl)
  obtain ⟨i, rfl⟩ := Int.eq_ofNat_of_zero_le q6
  obtain ⟨j5, S7, t7, q7, r7, p7, k7, l7⟩ := lr_tk (m := n) (e := .var 3) (ρ := lrR p pl most n S1.length th S3.length x3 x4 y4 none) p6 (by omega) (by omega) (by omega) rfl (ev_varN rfl)
  obtain ⟨j, rfl⟩ := Int.eq_ofNat_of_zero_le q7
  have st5 : evS T25 FU c__law_rich_s5 (lrR p pl most n S1.length th S3.length x3 x4 y4 none) S5 = .nx (lrR p pl most n S1.length th S3.length x3 (some (.int i)) (some (.int j)) none) S7 := by
    unfold c__law_rich_s5
    rw [evS, t6]
    simp only [Res.toS, t7]
    rfl
  have hi : i < n := by omega
  have hj : j < n := by omega
  have tb7 := (tb4.kp k6 lt3.1).kp k7 lt3.1
  have b4 := bd4 i j hi hj
  have st6 : evS T25 FU c__law_rich_s6 (lrR p pl most n S1.length th S3.length x3 (some (.int i)) (some (.int j)) none) S7 = .nx (lrR p pl most n S1.length th S3.length x3 (some (.int i)) (some (.int j)) none) (S7.set (S3.length + i) (.lst (((List.range n).map fun k => U.int (v4 i k)).set j (.int (v4 i j + 1))))) :=
    evS_setI (m := j) (k := S3.length + i) (S1 := S7) (S2 := S7) (S3 := S7) (ev_addI (ev_idx (ev_idx (ev_varN rfl) (ev_varN rfl) (idx_tab hi)) (ev_varN rfl) (tb7.cell hi hj)) ev_intN) (ev_idx (ev_varN rfl) (ev_varN rfl) (idx_tab hi)) (ev_varN rfl) (tb7 i hi) (by simpa using hj)
  have tb8 := tb7.set hi hj (x := v4 i j + 1)
  have bd8 : Bd n (upd v4 i j (v4 i j + 1)) 1000000001000 := (bd4.mono (by omega)).upd (by omega) (by omega)
  have pn8 := p7.set2 (q := S3.length + i) (o := .lst (((List.range n).map fun k => U.int (v4 i k)).set j (.int (v4 i j + 1)))) (by omega) (by omega)
  have hk8 : Kp p S (S7.set (S3.length + i) (.lst (((List.range n).map fun k => U.int (v4 i k)).set j (.int (v4 i j + 1))))) := Kp.set2 ((k5.trans k6).trans k7) (by omega)
  generalize S7.set (S3.length + i) (.lst (((List.range n).map fun k => U.int (v4 i k)).set j (.int (v4 i j + 1)))) = S8 at st6 tb8 pn8 hk8
  have l2 : evN T25 c__law_rich_l2 (lrR p pl most n S1.length th S3.length x3 (some (.int i)) (some (.int j)) none) S8 = .ok ((List.range n).map fun a => rowU (rw_ n (upd v4 i j (v4 i j + 1) a))) S8 := by
    refine evN_rng (src := .seq (tabU S3.length n)) (fun i => .obj (S3.length + i)) _ ?_ (by unfold tabU; exact Over.tl) (by simp [Src.len, tabU, seqOf, lstOf]) (sz1 hn8) fun a ha => ⟨lrR p pl most n S1.length th S3.length x3 (some (.int i)) (some (.int j)) (some (.obj (S3.length + a))), rfl, ?_⟩
    · simp [evSs, evS, ev, evs, evB, evO, evN_lst, evN_listOf, evN_cat, evI, Res.bind, Res.toS, SR.andThen, ofO, ofS, asgT, asgTs, List.getElem?_cons_zero, List.getElem?_cons_succ, List.set_cons_zero, List.set_cons_succ, Option.map_some, Option.map_none, Option.bind_some, Option.bind_none, List.length_cons, List.length_nil, if_true, if_false, SR.res, Bool.not_true, Bool.not_false, Bool.false_eq_true, wipeR, List.map_cons, List.map_nil, cmp_eqI, cmp_neI, cmpS_eq, cmpS_ne, cmpI_lt, cmpI_le, cmpI_gt, cmpI_ge, Bool.not_eq_true, decide_true, decide_false, tabU, seqOf, lstOf]
    · rw [ev, evs_cons' (ev_varN rfl) evs_nil']
      simp only [Res.bind, bi_tuple_obj (tb8 a ha), ofO, rowU_rw]
  have st7 : evS T25 FU c__law_rich_s7 (lrR p pl most n S1.length th S3.length x3 (some (.int i)) (some (.int j)) none) S8 = .rt (webU (mat n (upd v4 i j (v4 i j + 1)))) S8 := by
    refine evS_ret ?_
    rw [ev, evs_cons' (ev_tmp l2) evs_nil', webU_mat]
    simp only [Res.bind, bi_tuple_tl, ofO]
  have hl1 : S.length ≤ S1.length := by omega
  refine ⟨n, upd v4 i j (v4 i j + 1), S8, ?_, hn1, hn8, fun a b ha hb => bd8 a b ha hb, pn8.mono (by omega), hk8⟩
  rw [x__law_rich, evSs_cons st0, evSs_cons st1, evSs_cons st2, evSs_cons e3, evSs_cons e4, evSs_cons st5, evSs_cons st6, evSs_rt st7, SR.res]
end
end K

set_option Elab.async false
set_option linter.all false
set_option maxRecDepth 100000
set_option maxHeartbeats 1600000
set_option exponentiation.threshold 500
namespace K
open PySem PySem.Spec PyProof.Rows L2 Z
/-- a comprehension whose turns change the store -/
theorem evN_inv {T : Th} {tg : CT} {it : CI} {elt : CE} {own : List (Str × Nat)} {ρ : Rho} {S S1 : Sto} {src : Src} {items : List U} (Inv : Nat → List U → Sto → Prop) (h1 : evI T it ρ S = .ok src S1) (ov : ∀ i acc S, Inv i acc S → i ≤ items.length → src.at_ S i = some items[i]?) (hl : src.len S1 = items.length) (hz : items.length ≤ 10000)
    (step : ∀ i x acc S, items[i]? = some x → Inv i acc S → ∃ ρ' u S', asgT tg x (wipeR ρ (own.map (·.2))) = some ρ' ∧ ev T elt ρ' S = .ok u S' ∧ Inv (i + 1) (acc ++ [u]) S') (h0 : Inv 0 [] S1) : ∃ acc S', evN T (.lc tg it .nil elt own) ρ S = .ok acc S' ∧ Inv items.length acc S' := by
  simp only [evN, h1, Res.bind]
  refine lcGo_inv Inv ov (fun i x acc S hx hi => ?_) (sz_of hz) _ 0 [] S1 (by rw [hl]; omega) (Nat.le_refl 0) h0
  obtain ⟨ρ', u, S', h2, h3, h4⟩ := step i x acc S hx hi
  exact ⟨some u, S', by simp only [h2, h3], h4⟩
/-! ### full, looked at by the law -/
theorem e_law_is_full {n : Nat} {w : Nat → Nat → Int} {S : Sto} (h0 : 1 ≤ n) (hn : n ≤ 8) : f__law_is_full [webU (mat n w)] S = .ok (.bl (fullB n w)) S := by
  rw [b__law_is_full, r__law_is_full]
  have hN : N__law_is_full.length - 1 = 5 := rfl
  simp only [hN, List.replicate, List.cons_append, List.nil_append]
  have l2 : evN T34 c__law_is_full_l2 [some (webU (mat n w)), none, none, none, none, none] S = .ok ((List.range n).map fun i => .tl ((List.range n).map fun k => .int (w i k - one_ i k))) S := by
    refine evN_rng (src := .enum (webU (mat n w))) (fun (i : Nat) => U.tup [.int (i : Int), rowU (rw_ n (w i))]) _ ?_ (by rw [webU_mat]; exact over_enumR) (by rw [webU_mat]; simp [Src.len, seqOf]) (sz1 hn) fun i hi => ⟨[some (webU (mat n w)), none, some (.int i), some (rowU (rw_ n (w i))), none, none], rfl, ev_tmp ?_⟩
    · simp [evSs, evS, ev, evs, evB, evO, evN_lst, evN_listOf, evN_cat, evI, Res.bind, Res.toS, SR.andThen, ofO, ofS, asgT, asgTs, List.getElem?_cons_zero, List.getElem?_cons_succ, List.set_cons_zero, List.set_cons_succ, Option.map_some, Option.map_none, Option.bind_some, Option.bind_none, List.length_cons, List.length_nil, if_true, if_false, SR.res, Bool.not_true, Bool.not_false, Bool.false_eq_true, wipeR, List.map_cons, List.map_nil, cmp_eqI, cmp_neI, cmpS_eq, cmpS_ne, cmpI_lt, cmpI_le, cmpI_gt, cmpI_ge, Bool.not_eq_true, decide_true, decide_false, webU, seqOf]
    · refine evN_rng (src := .enum (rowU (rw_ n (w i)))) (fun (k : Nat) => U.tup [.int (k : Int), .int (w i k)]) _ ?_ (by rw [rowU_rw]; exact over_enumR) (by rw [rowU_rw]; simp [Src.len, seqOf]) (sz1 hn) fun k hk => ⟨[some (webU (mat n w)), none, some (.int i), some (rowU (rw_ n (w i))), some (.int k), some (.int (w i k))], rfl, ?_⟩
      · simp [evSs, evS, ev, evs, evB, evO, evN_lst, evN_listOf, evN_cat, evI, Res.bind, Res.toS, SR.andThen, ofO, ofS, asgT, asgTs, List.getElem?_cons_zero, List.getElem?_cons_succ, List.set_cons_zero, List.set_cons_succ, Option.map_some, Option.map_none, Option.bind_some, Option.bind_none, List.length_cons, List.length_nil, if_true, if_false, SR.res, Bool.not_true, Bool.not_false, Bool.false_eq_true, wipeR, List.map_cons, List.map_nil, cmp_eqI, cmp_neI, cmpS_eq, cmpS_ne, cmpI_lt, cmpI_le, cmpI_gt, cmpI_ge, Bool.not_eq_true, decide_true, decide_false, rowU, seqOf]
      · simp only [evSs, evS, ev, evs, evB, evO, evN_lst, evN_listOf, evN_cat, evI, Res.bind, Res.toS, SR.andThen, ofO, ofS, asgT, asgTs, List.getElem?_cons_zero, List.getElem?_cons_succ, List.set_cons_zero, List.set_cons_succ, Option.map_some, Option.map_none, Option.bind_some, Option.bind_none, List.length_cons, List.length_nil, if_true, if_false, SR.res, Bool.not_true, Bool.not_false, Bool.false_eq_true, wipeR, List.map_cons, List.map_nil, cmp_eqI, cmp_neI, cmpS_eq, cmpS_ne, cmpI_lt, cmpI_le, cmpI_gt, cmpI_ge, Bool.not_eq_true, decide_true, decide_false, int_eqB, binE]
  have l3 : ∀ us : U, us = .tl ((List.range n).map fun i => U.tl ((List.range n).map fun k => .int (w i k - one_ i k))) → evN T34 c__law_is_full_l3 [some (webU (mat n w)), some us, none, none, none, none] S = .ok ((List.range n).map fun i => .int (minL ((List.range n).map fun k => w i k - one_ i k))) S := fun us hu => by
    subst hu
    refine evN_rng (src := .seq (.tl ((List.range n).map fun i => U.tl ((List.range n).map fun k => .int (w i k - one_ i k))))) (fun i => .tl ((List.range n).map fun k => .int (w i k - one_ i k))) _ ?_ Over.tl (by simp [Src.len, seqOf, lstOf]) (sz1 hn) fun i hi => ⟨[some (webU (mat n w)), some (.tl ((List.range n).map fun i => U.tl ((List.range n).map fun k => .int (w i k - one_ i k)))), none, some (.tl ((List.range n).map fun k => .int (w i k - one_ i k))), none, none], rfl, ?_⟩
    · simp [evSs, evS, ev, evs, evB, evO, evN_lst, evN_listOf, evN_cat, evI, Res.bind, Res.toS, SR.andThen, ofO, ofS, asgT, asgTs, List.getElem?_cons_zero, List.getElem?_cons_succ, List.set_cons_zero, List.set_cons_succ, Option.map_some, Option.map_none, Option.bind_some, Option.bind_none, List.length_cons, List.length_nil, if_true, if_false, SR.res, Bool.not_true, Bool.not_false, Bool.false_eq_true, wipeR, List.map_cons, List.map_nil, cmp_eqI, cmp_neI, cmpS_eq, cmpS_ne, cmpI_lt, cmpI_le, cmpI_gt, cmpI_ge, Bool.not_eq_true, decide_true, decide_false, seqOf, lstOf]
    · rw [ev, evs_cons' (ev_varN rfl) evs_nil']
      simp only [Res.bind, min_rng h0, ofO]
  have st0 : evS T34 FU c__law_is_full_s0 [some (webU (mat n w)), none, none, none, none, none] S = .nx [some (webU (mat n w)), some (.tl ((List.range n).map fun i => U.tl ((List.range n).map fun k => .int (w i k - one_ i k)))), none, none, none, none] S := evS_asgN (ev_tmp l2)
  have st1 : evS T34 FU c__law_is_full_s1 [some (webU (mat n w)), some (.tl ((List.range n).map fun i => U.tl ((List.range n).map fun k => .int (w i k - one_ i k)))), none, none, none, none] S = .rt (.bl (fullB n w)) S := by
    refine evS_ret ?_
    have e1 : ev T34 (.bi .min (.cons (.tmp c__law_is_full_l3) .nil)) [some (webU (mat n w)), some (.tl ((List.range n).map fun i => U.tl ((List.range n).map fun k => .int (w i k - one_ i k)))), none, none, none, none] S = .ok (.int (minL ((List.range n).map fun i => minL ((List.range n).map fun k => w i k - one_ i k)))) S := by
      rw [ev, evs_cons' (ev_tmp (l3 _ rfl)) evs_nil']
      simp only [Res.bind, min_rng h0, ofO]
    rw [ev, e1]
    simp only [Res.bind]
    rw [ev_intN]
    simp only [cmpI_ge, Option.map_some, ofO, min_mat h0]
  rw [x__law_is_full, evSs_cons st0, evSs_rt st1, SR.res]
/-! ### a full web drawn -/
section
variable {S : Sto} {p c n : Nat} {B most : Int}
theorem lf_tk {m : Int} {e : CE} {ρ : Rho} (hp : Pen S p c B) (hB : B < 1000000) (hm : 1 ≤ m) (hm2 : m ≤ 1000000000000) (h0 : ρ[0]? = some (some (.obj p))) (he : ev T26 e ρ S = .ok (.int m) S) :
    ∃ v S', ev T26 (.call "_law_take" (.cons (.var 0) (.cons e .nil))) ρ S = .ok (.int v) S' ∧ 0 ≤ v ∧ v < m ∧ Pen S' p c (B + 1) ∧ Kp p S S' ∧ S'.length = S.length := by
  obtain ⟨v, S', t1, t2, t3, t4, t5, t6⟩ := e_take hp hB hm (sm400 (by omega) (by omega))
  exact ⟨v, S', (ev_callF d__law_full___law_take t__law_full___law_take (evs_cons' (ev_varN h0) (evs_cons' he evs_nil'))).trans t1, t2, t3, t4, t5, t6⟩
/-- row i of a full web -/
def FRow (n i : Nat) (M : Int) (xs : List Int) : Prop := xs.length = n ∧ ∀ k x, xs[k]? = some x → 1 + one_ i k ≤ x ∧ x ≤ M
theorem lf_l1 {a1 a4 : Option U} {i : Nat} (hp : Pen S p c B) (hB : B + n < 1000000) (hn : n ≤ 8) (m0 : 1 ≤ most) (m1 : most ≤ 1000000000) :
    ∃ (xs : List Int) (S' : Sto), evN T26 c__law_full_l1 [some (.obj p), a1, some (.int most), some (.int n), a4, some (.int i), none] S = .ok (xs.map U.int) S' ∧ FRow n i (1 + most) xs ∧ Pen S' p c (B + n) ∧ Kp p S S' := by
  obtain ⟨acc, S', e1, xs, rfl, e2, e3, e4, e5⟩ := evN_inv (T := T26) (tg := .name 6) (it := .rng1 (.var 3)) (elt := .bin .add (.bin .add (.int 1) (.bi .int (.cons (.cmp .eq (.var 5) (.var 6)) .nil))) (.call "_law_take" (.cons (.var 0) (.cons (.var 2) .nil)))) (own := [("_law_j", 6)]) (ρ := [some (.obj p), a1, some (.int most), some (.int n), a4, some (.int i), none]) (S := S) (S1 := S) (src := .rng 0 n) (items := (List.range n).map fun (i : Nat) => U.int (i : Int))
    (fun j acc S' => ∃ xs : List Int, acc = xs.map U.int ∧ xs.length = j ∧ (∀ k x, xs[k]? = some x → 1 + one_ i k ≤ x ∧ x ≤ 1 + most) ∧ Pen S' p c (B + j) ∧ Kp p S S') (evI_rng1 (ev_varN rfl) (by omega)) (fun _ _ S' _ => over_rngR (I := fun _ => True) S' trivial _) (by simp [Src.len]) (by simp; omega) (by
      intro j u acc S' hx ⟨xs, ha, h1, h2, h3, h4⟩
      have hj : j < n := by
        have := (List.getElem?_eq_some_iff.mp hx).1
        simpa using this
      rw [rng_at hj] at hx
      cases hx
      obtain ⟨v, S2, t1, q1, r1, p1, k1, l1⟩ := lf_tk (m := most) (e := .var 2) (ρ := [some (.obj p), a1, some (.int most), some (.int n), a4, some (.int i), some (.int j)]) h3 (by omega) (by omega) (by omega) rfl (ev_varN rfl)
      have o := one_01 i j
      refine ⟨_, .int (1 + one_ i j + v), S2, rfl, ev_addI (ev_addI ev_intN ?_) t1, xs ++ [1 + one_ i j + v], by rw [ha]; simp, by simp [h1], ?_, p1.mono (by omega), h4.trans k1⟩
      · simp only [evSs, evS, ev, evs, evB, evO, evN_lst, evN_listOf, evN_cat, evI, Res.bind, Res.toS, SR.andThen, ofO, ofS, asgT, asgTs, List.getElem?_cons_zero, List.getElem?_cons_succ, List.set_cons_zero, List.set_cons_succ, Option.map_some, Option.map_none, Option.bind_some, Option.bind_none, List.length_cons, List.length_nil, if_true, if_false, SR.res, Bool.not_true, Bool.not_false, Bool.false_eq_true, wipeR, List.map_cons, List.map_nil, cmp_eqI, cmp_neI, cmpS_eq, cmpS_ne, cmpI_lt, cmpI_le, cmpI_gt, cmpI_ge, Bool.not_eq_true, decide_true, decide_false, int_eqB]
      · intro k x hk
        by_cases q : k < xs.length
        · rw [List.getElem?_append_left q] at hk; exact h2 k x hk
        · rw [List.getElem?_append_right (by omega)] at hk
          have hk0 : k - xs.length = 0 := by
            have := (List.getElem?_eq_some_iff.mp hk).1
            simp at this; omega
          rw [hk0] at hk
          cases hk
          have : k = j := by omega
          subst this
          have o' := one_01 i k
          unfold one_ at o' ⊢
          by_cases qq : i = k
          · rw [if_pos qq]; omega
          · rw [if_neg qq]; omega) ⟨[], rfl, rfl, by simp, hp.mono (by omega), Kp.refl⟩
  have hL : ((List.range n).map fun (i : Nat) => U.int (i : Int)).length = n := by simp
  rw [hL] at e2 e4
  exact ⟨xs, S', e1, ⟨e2, e3⟩, e4, e5⟩
end
end K

set_option Elab.async false
set_option linter.all false
set_option maxRecDepth 100000
set_option maxHeartbeats 1600000
set_option exponentiation.threshold 500
namespace K
open PySem PySem.Spec PyProof.Rows L2 Z
def FWeb (n m : Nat) (M : Int) (W : List (List Int)) : Prop := W.length = m ∧ ∀ i r, W[i]? = some r → FRow n i M r
theorem FWeb.nil {n : Nat} {M : Int} : FWeb n 0 M [] := ⟨rfl, fun i r h => by cases h⟩
theorem FWeb.snoc {n m : Nat} {M : Int} {W : List (List Int)} {r : List Int} (h : FWeb n m M W) (hr : FRow n m M r) : FWeb n (m + 1) M (W ++ [r]) := ⟨by simp [h.1], fun i x hi => by
  by_cases q : i < W.length
  · rw [List.getElem?_append_left q] at hi; exact h.2 i x hi
  · rw [List.getElem?_append_right (by omega)] at hi
    have hk0 : i - W.length = 0 := by
      have := (List.getElem?_eq_some_iff.mp hi).1
      simp at this; omega
    rw [hk0] at hi
    cases hi
    have : i = m := by have := h.1; omega
    subst this; exact hr⟩
theorem FWeb.mat {n : Nat} {M : Nat} {W : List (List Int)} (h : FWeb n n M W) : ∃ w, W = K.mat n w ∧ fullB n w = true ∧ InB n w M := by
  have hl : ∀ r, r ∈ W → r.length = n := fun r hr => by
    obtain ⟨i, hi, e⟩ := List.mem_iff_getElem.mp hr
    exact (h.2 i r (by rw [List.getElem?_eq_getElem hi, e])).1
  have key : ∀ a b, a < n → b < n → 1 + one_ a b ≤ (W.getD a []).getD b 0 ∧ (W.getD a []).getD b 0 ≤ M := fun a b ha hb => by
    have e1 : W.getD a [] = W[a]'(by have := h.1; omega) := by rw [List.getD_eq_getElem?_getD, List.getElem?_eq_getElem (by have := h.1; omega)]; rfl
    have fr := h.2 a (W.getD a []) (by rw [e1, List.getElem?_eq_getElem])
    have e2 : (W.getD a []).getD b 0 = (W.getD a [])[b]'(by have := fr.1; omega) := by rw [List.getD_eq_getElem?_getD, List.getElem?_eq_getElem (by have := fr.1; omega)]; rfl
    rw [e2]
    exact fr.2 b _ (by rw [List.getElem?_eq_getElem])
  refine ⟨_, mat_of h.1 hl, fullB_iff.mpr fun a b ha hb => ?_, fun a b ha hb => ?_⟩
  · have k := (key a b ha hb).1
    show 1 ≤ (W.getD a []).getD b 0 - one_ a b
    omega
  · have k := key a b ha hb
    have o := one_01 a b
    exact ⟨Int.le_trans (by omega) k.1, k.2⟩
section
variable {S : Sto} {p c n : Nat} {B most : Int}
theorem lf_b1 {a1 : Option U} {f i : Nat} {W : List (List Int)} (hp : Pen S p c B) (hB : B + n < 1000000) (hn : n ≤ 8) (hf : S[f]? = some (.lst (W.map rowU))) (hW : W.length ≤ 8) (h1 : f ≠ p) (h2 : f ≠ c) (m0 : 1 ≤ most) (m1 : most ≤ 1000000000) :
    ∃ (xs : List Int) (S' : Sto), evSs T26 FU c__law_full_b1 [some (.obj p), a1, some (.int most), some (.int n), some (.obj f), some (.int i), none] S = .nx [some (.obj p), a1, some (.int most), some (.int n), some (.obj f), some (.int i), none] S' ∧ FRow n i (1 + most) xs ∧ S'[f]? = some (.lst ((W ++ [xs]).map rowU)) ∧ Pen S' p c (B + n) ∧ ∀ S0, Kp p S0 S → S0.length ≤ f → Kp p S0 S' := by
  obtain ⟨xs, S', e1, e2, e3, e4⟩ := lf_l1 (a1 := a1) (a4 := some (.obj f)) (i := i) hp hB hn m0 m1
  have hf' := e4.at_ h1 hf
  have st : evS T26 FU (.app (.var 4) (.bi .tuple (.cons (.tmp c__law_full_l1) .nil))) [some (.obj p), a1, some (.int most), some (.int n), some (.obj f), some (.int i), none] S = .nx [some (.obj p), a1, some (.int most), some (.int n), some (.obj f), some (.int i), none] (S'.set f (.lst (W.map rowU ++ [rowU xs]))) :=
    evS_app (ev_varN rfl) (lst_obj hf) (S2 := S') (by rw [ev, evs_cons' (ev_tmp e1) evs_nil']; simp only [Res.bind, bi_tuple_tl, ofO]; rfl) hf' (by simp; omega)
  refine ⟨xs, S'.set f (.lst (W.map rowU ++ [rowU xs])), (evSs_cons st).trans evSs_nil, e2, ?_, e3.set2 (Ne.symm h1) (Ne.symm h2), fun S0 k0 hk => Kp.set2 (k0.trans e4) hk⟩
  rw [List.getElem?_set_self (List.getElem?_eq_some_iff.mp hf').1]; simp
theorem e_law_full {pl : Int} (hp : Pen S p c B) (hB : B + 400 < 1000000) (hpl : 1 ≤ pl) (hpl8 : pl ≤ 7) (m0 : 1 ≤ most) (m1 : most ≤ 1000000000) :
    ∃ (n : Nat) (w : Nat → Nat → Int) (S' : Sto), f__law_full [.obj p, .int pl, .int most] S = .ok (webU (mat n w)) S' ∧ 1 ≤ n ∧ n ≤ 7 ∧ fullB n w = true ∧ InB n w 1000000001000 ∧ Pen S' p c (B + 400) ∧ Kp p S S' := by
  rw [b__law_full, r__law_full]
  have hN : N__law_full.length - 3 = 4 := rfl
  simp only [hN, List.replicate, List.cons_append, List.nil_append]
  obtain ⟨v, S1, t1, q1, r1, p1, k1, l1⟩ := lf_tk (m := pl) (e := .var 1) (ρ := [some (.obj p), some (.int pl), some (.int most), none, none, none, none]) hp (by omega) hpl (by omega) rfl (ev_varN rfl)
  obtain ⟨k, rfl⟩ := Int.eq_ofNat_of_zero_le q1
  have en : (1 : Int) + k = ((1 + k : Nat) : Int) := by omega
  have st0 : evS T26 FU c__law_full_s0 [some (.obj p), some (.int pl), some (.int most), none, none, none, none] S = .nx [some (.obj p), some (.int pl), some (.int most), some (.int ((1 + k : Nat) : Int)), none, none, none] S1 := by
    rw [← en]
    exact evS_asgN (ev_addI ev_intN t1)
  have hn1 : 1 ≤ 1 + k := by omega
  have hn8 : 1 + k ≤ 7 := by omega
  generalize 1 + k = n at st0 hn1 hn8
  have z0 : (0 : Nat) ≤ sizeLine := Nat.zero_le _
  have st1 : evS T26 FU c__law_full_s1 [some (.obj p), some (.int pl), some (.int most), some (.int n), none, none, none] S1 = .nx [some (.obj p), some (.int pl), some (.int most), some (.int n), some (.obj S1.length), none, none] (S1 ++ [SO.lst []]) := by
    simp only [evSs, evS, ev, evs, evB, evO, evN_lst, evN_listOf, evN_cat, evI, Res.bind, Res.toS, SR.andThen, ofO, ofS, asgT, asgTs, List.getElem?_cons_zero, List.getElem?_cons_succ, List.set_cons_zero, List.set_cons_succ, Option.map_some, Option.map_none, Option.bind_some, Option.bind_none, List.length_cons, List.length_nil, if_true, if_false, SR.res, Bool.not_true, Bool.not_false, Bool.false_eq_true, wipeR, List.map_cons, List.map_nil, cmp_eqI, cmp_neI, cmpS_eq, cmpS_ne, cmpI_lt, cmpI_le, cmpI_gt, cmpI_ge, Bool.not_eq_true, decide_true, decide_false, c__law_full_s1, z0]
  have lt := p1.lt
  have hI : evI T26 (.rng1 (.var 3)) [some (.obj p), some (.int pl), some (.int most), some (.int n), some (.obj S1.length), none, none] (S1 ++ [SO.lst []]) = .ok (.rng 0 n) (S1 ++ [SO.lst []]) := evI_rng1 (ev_varN rfl) (by omega)
  obtain ⟨ρ', S', e1, x, W, rfl, e2, e3, e5, e6⟩ := forGo_all (src := .rng 0 n) (t := .name 5) (body := evSs T26 FU c__law_full_b1) (items := (List.range n).map fun (i : Nat) => U.int (i : Int))
    (fun i ρ S' => ∃ (x : Option U) (W : List (List Int)), ρ = [some (.obj p), some (.int pl), some (.int most), some (.int n), some (.obj S1.length), x, none] ∧ S'[S1.length]? = some (.lst (W.map rowU)) ∧ FWeb n i (1 + most) W ∧ Pen S' p c (B + 1 + 8 * i) ∧ Kp p S S')
    (fun _ _ S' _ => over_rngR (I := fun _ => True) S' trivial _) (n := n) (ρ := [some (.obj p), some (.int pl), some (.int most), some (.int n), some (.obj S1.length), none, none]) (S := S1 ++ [SO.lst []]) (by
      intro i u ρ S' hx ⟨x, W, hρ, q1, q2, q4, q5⟩
      subst hρ
      have hi : i < n := by
        have := (List.getElem?_eq_some_iff.mp hx).1
        simpa using this
      rw [rng_at hi] at hx
      cases hx
      refine ⟨_, rfl, ?_⟩
      obtain ⟨xs, S3, t1, t2, t4, t5, t6⟩ := lf_b1 (n := n) (f := S1.length) (a1 := some (.int pl)) (i := i) q4 (by omega) (by omega) q1 (by have := q2.1; omega) (by omega) (by omega) m0 m1
      exact ⟨_, S3, t1, some (.int i), W ++ [xs], rfl, t4, q2.snoc t2, t5.mono (by omega), t6 S q5 (by omega)⟩) (by simp) ⟨none, [], rfl, app_at, FWeb.nil, (p1.ke Ke.app).mono (by omega), k1.trans Ke.app.kp⟩
  have hL : ((List.range n).map fun (i : Nat) => U.int (i : Int)).length = n := by simp
  rw [hL] at e3 e5
  have e3' : FWeb n n ((1 + most.toNat : Nat) : Int) W := by
    have : ((1 + most.toNat : Nat) : Int) = 1 + most := by omega
    rw [this]; exact e3
  obtain ⟨w, hw, hf, hb⟩ := e3'.mat
  refine ⟨n, w, S', ?_, by omega, by omega, hf, fun a b ha hb' => ⟨(hb a b ha hb').1, Int.le_trans (hb a b ha hb').2 (by omega)⟩, e5.mono (by omega), e6⟩
  have st2 : evS T26 FU c__law_full_s2 [some (.obj p), some (.int pl), some (.int most), some (.int n), some (.obj S1.length), none, none] (S1 ++ [SO.lst []]) = .nx [some (.obj p), some (.int pl), some (.int most), some (.int n), some (.obj S1.length), x, none] S' := (evS_for hI).trans e1
  have st3 : evS T26 FU c__law_full_s3 [some (.obj p), some (.int pl), some (.int most), some (.int n), some (.obj S1.length), x, none] S' = .rt (webU (mat n w)) S' :=
    evS_ret (by rw [ev, evs_cons' (ev_varN rfl) evs_nil']; simp only [Res.bind, bi_tuple_obj e2, ofO, ← hw]; rfl)
  rw [x__law_full, evSs_cons st0, evSs_cons st1, evSs_cons st2, evSs_rt st3, SR.res]
end
end K

set_option Elab.async false
set_option linter.all false
set_option maxRecDepth 100000
set_option maxHeartbeats 1600000
set_option exponentiation.threshold 500
namespace K
open PySem PySem.Spec PyProof.Rows L2 Z
theorem c_road : T33.clsB "RoadError" = true := by decide +kernel
theorem s_nf_road : T33.sub "NotFull" "RoadError" = some true := by kernel_rfl
theorem s_tg_road : T33.sub "TooGreat" "RoadError" = some true := by kernel_rfl
theorem c_odd : ((["NoDeed", "NoWeb", "NotRich", "NotLevel", "TooMany"] : List Str).all T33.clsB && decide (0 < (["NoDeed", "NoWeb", "NotRich", "NotLevel", "TooMany"] : List Str).length ∧ (["NoDeed", "NoWeb", "NotRich", "NotLevel", "TooMany"] : List Str).length < 100)) = true := by decide +kernel
theorem s_nf_odd : subAny T33 "NotFull" ["NoDeed", "NoWeb", "NotRich", "NotLevel", "TooMany"] = some false := by kernel_rfl
theorem s_tg_odd : subAny T33 "TooGreat" ["NoDeed", "NoWeb", "NotRich", "NotLevel", "TooMany"] = some false := by kernel_rfl
theorem c_nf : T33.clsB "NotFull" = true := by decide +kernel
theorem c_tg : T33.clsB "TooGreat" = true := by decide +kernel
theorem s_nf_nf : T33.sub "NotFull" "NotFull" = some true := by kernel_rfl
theorem s_nf_tg : T33.sub "NotFull" "TooGreat" = some false := by kernel_rfl
theorem s_tg_nf : T33.sub "TooGreat" "NotFull" = some false := by kernel_rfl
theorem s_tg_tg : T33.sub "TooGreat" "TooGreat" = some true := by kernel_rfl
theorem to_s0 {W : U} {S : Sto} : evS T33 FU c__law_told_s0 [some W, none, none, none, none] S = .nx [some W, some .non, some .non, none, none] S := by
  have z2 : (2 : Nat) ≤ sizeLine := sz_of (by omega)
  simp only [evSs, evS, ev, evs, evB, evO, evN_lst, evN_listOf, evN_cat, evI, Res.bind, Res.toS, SR.andThen, ofO, ofS, asgT, asgTs, List.getElem?_cons_zero, List.getElem?_cons_succ, List.set_cons_zero, List.set_cons_succ, Option.map_some, Option.map_none, Option.bind_some, Option.bind_none, List.length_cons, List.length_nil, if_true, if_false, SR.res, Bool.not_true, Bool.not_false, Bool.false_eq_true, wipeR, List.map_cons, List.map_nil, cmp_eqI, cmp_neI, cmpS_eq, cmpS_ne, cmpI_lt, cmpI_le, cmpI_gt, cmpI_ge, Bool.not_eq_true, decide_true, decide_false, c__law_told_s0, Nat.zero_add, Nat.reduceAdd, z2]
theorem e_told_found {W : U} {S S' : Sto} {l : Nat} (h : f_more [W] S = .ok (.obj l) S') : f__law_told [W] S = .ok (.obj l) S' := by
  rw [b__law_told, r__law_told]
  have hN : N__law_told.length - 1 = 4 := rfl
  simp only [hN, List.replicate, List.cons_append, List.nil_append]
  have st1 : evS T33 FU c__law_told_s1 [some W, some .non, some .non, none, none] S = .nx [some W, some .non, some (.obj l), none, none] S' := by
    have e1 : evSs T33 FU (.cons (.asg (.name 2) (.call "more" (.cons (.var 0) .nil))) .nil) [some W, some .non, some .non, none, none] S = .nx [some W, some .non, some (.obj l), none, none] S' :=
      (evSs_cons (evS_asgN ((ev_callF d__law_told__more t__law_told__more (evs_cons' (ev_varN rfl) evs_nil')).trans h))).trans evSs_nil
    unfold c__law_told_s1
    rw [evS, if_pos c_road, e1]
  have st2 : evS T33 FU c__law_told_s2 [some W, some .non, some (.obj l), none, none] S' = .rt (.obj l) S' := by
    refine (evS_iteT (S1 := S') ?_).trans (evSs_rt (evS_ret (ev_varN rfl)))
    simp only [evSs, evS, ev, evs, evB, evO, evN_lst, evN_listOf, evN_cat, evI, Res.bind, Res.toS, SR.andThen, ofO, ofS, asgT, asgTs, List.getElem?_cons_zero, List.getElem?_cons_succ, List.set_cons_zero, List.set_cons_succ, Option.map_some, Option.map_none, Option.bind_some, Option.bind_none, List.length_cons, List.length_nil, if_true, if_false, SR.res, Bool.not_true, Bool.not_false, Bool.false_eq_true, wipeR, List.map_cons, List.map_nil, cmp_eqI, cmp_neI, cmpS_eq, cmpS_ne, cmpI_lt, cmpI_le, cmpI_gt, cmpI_ge, Bool.not_eq_true, decide_true, decide_false, U.isNon]
  rw [x__law_told, evSs_cons to_s0, evSs_cons st1, evSs_rt st2, SR.res]
theorem e_told_ex {W : U} {S S' : Sto} {C : Str} {b1 b2 : Bool} {v : Str} (h : f_more [W] S = .ex (C, none) S') (r1 : T33.sub C "RoadError" = some true) (r2 : subAny T33 C ["NoDeed", "NoWeb", "NotRich", "NotLevel", "TooMany"] = some false) (r3 : T33.sub C "NotFull" = some b1) (r4 : T33.sub C "TooGreat" = some b2)
    (r5 : (b1, b2, v) = (true, false, ("not full" : Str)) ∨ (b1, b2, v) = (false, true, ("too great" : Str))) : f__law_told [W] S = .ok (.str v) S' := by
  rw [b__law_told, r__law_told]
  have hN : N__law_told.length - 1 = 4 := rfl
  simp only [hN, List.replicate, List.cons_append, List.nil_append]
  have st1 : evS T33 FU c__law_told_s1 [some W, some .non, some .non, none, none] S = .nx [some W, some (.exc C), some .non, none, none] S' := by
    have e0 : evS T33 FU (.asg (.name 2) (.call "more" (.cons (.var 0) .nil))) [some W, some .non, some .non, none, none] S = .ex (C, none) [some W, some .non, some .non, none, none] S' := by
      rw [evS, (ev_callF d__law_told__more t__law_told__more (us := [W]) (S1 := S) (evs_cons' (ev_varN rfl) evs_nil')).trans h]
      rfl
    have e1 : evSs T33 FU (.cons (.asg (.name 2) (.call "more" (.cons (.var 0) .nil))) .nil) [some W, some .non, some .non, none, none] S = .ex (C, none) [some W, some .non, some .non, none, none] S' := evSs_ex e0
    unfold c__law_told_s1
    rw [evS, if_pos c_road, e1]
    simp only [r1, if_true, List.set_cons_zero, List.set_cons_succ]
  have st2 : evS T33 FU c__law_told_s2 [some W, some (.exc C), some .non, none, none] S' = .nx [some W, some (.exc C), some .non, none, none] S' := by
    refine (evS_iteF (S1 := S') ?_).trans evSs_nil
    simp only [evSs, evS, ev, evs, evB, evO, evN_lst, evN_listOf, evN_cat, evI, Res.bind, Res.toS, SR.andThen, ofO, ofS, asgT, asgTs, List.getElem?_cons_zero, List.getElem?_cons_succ, List.set_cons_zero, List.set_cons_succ, Option.map_some, Option.map_none, Option.bind_some, Option.bind_none, List.length_cons, List.length_nil, if_true, if_false, SR.res, Bool.not_true, Bool.not_false, Bool.false_eq_true, wipeR, List.map_cons, List.map_nil, cmp_eqI, cmp_neI, cmpS_eq, cmpS_ne, cmpI_lt, cmpI_le, cmpI_gt, cmpI_ge, Bool.not_eq_true, decide_true, decide_false, U.isNon]
  have st3 : evS T33 FU c__law_told_s3 [some W, some (.exc C), some .non, none, none] S' = .nx [some W, some (.exc C), some .non, none, none] S' := by
    refine (evS_iteF (S1 := S') ?_).trans evSs_nil
    rw [ev, if_pos c_odd, ev_varN rfl]
    simp only [Res.bind, r2, Option.map_some, ofO]
  have st4 : evS T33 FU c__law_told_s4 [some W, some (.exc C), some .non, none, none] S' = .nx [some W, some (.exc C), some .non, none, some (.tl [.bl b1, .bl b2])] S' := by
    refine evS_asgN (ev_tmp (evN_lst' (evs_cons' (S1 := S') ?_ (evs_cons' (S1 := S') ?_ evs_nil')) (by simp)))
    · rw [ev, if_pos c_nf, ev_varN rfl]; simp only [Res.bind, r3, Option.map_some, ofO]
    · rw [ev, if_pos c_tg, ev_varN rfl]; simp only [Res.bind, r4, Option.map_some, ofO]
  have st5 : evS T33 FU c__law_told_s5 [some W, some (.exc C), some .non, none, some (.tl [.bl b1, .bl b2])] S' = .rt (.str v) S' := by
    rcases r5 with r5 | r5 <;> cases r5
    · refine evS_ret ((ev_iteT (S1 := S') ?_).trans (ev_idx (u := .tl [.str "not full", .str "too great"]) (x := .int 0) (S1 := S') (ev_tmp (evN_lst' (evs_cons' (by rw [ev]) (evs_cons' (by rw [ev]) evs_nil')) (by simp))) ?_ rfl))
      · rw [ev]
        have : ev T33 (.cntB (.var 4) true) [some W, some (.exc C), some .non, none, some (.tl [.bl true, .bl false])] S' = .ok (.int 1) S' := by rw [ev, ev_varN rfl]; rfl
        rw [this]; simp only [evSs, evS, ev, evs, evB, evO, evN_lst, evN_listOf, evN_cat, evI, Res.bind, Res.toS, SR.andThen, ofO, ofS, asgT, asgTs, List.getElem?_cons_zero, List.getElem?_cons_succ, List.set_cons_zero, List.set_cons_succ, Option.map_some, Option.map_none, Option.bind_some, Option.bind_none, List.length_cons, List.length_nil, if_true, if_false, SR.res, Bool.not_true, Bool.not_false, Bool.false_eq_true, wipeR, List.map_cons, List.map_nil, cmp_eqI, cmp_neI, cmpS_eq, cmpS_ne, cmpI_lt, cmpI_le, cmpI_gt, cmpI_ge, Bool.not_eq_true, decide_true, decide_false]
      · rw [ev, ev_varN rfl]
        simp only [Res.bind, lstOf, Option.isSome, if_true]
        rw [ev]; rfl
    · refine evS_ret ((ev_iteT (S1 := S') ?_).trans (ev_idx (u := .tl [.str "not full", .str "too great"]) (x := .int 1) (S1 := S') (ev_tmp (evN_lst' (evs_cons' (by rw [ev]) (evs_cons' (by rw [ev]) evs_nil')) (by simp))) ?_ rfl))
      · rw [ev]
        have : ev T33 (.cntB (.var 4) true) [some W, some (.exc C), some .non, none, some (.tl [.bl false, .bl true])] S' = .ok (.int 1) S' := by rw [ev, ev_varN rfl]; rfl
        rw [this]; simp only [evSs, evS, ev, evs, evB, evO, evN_lst, evN_listOf, evN_cat, evI, Res.bind, Res.toS, SR.andThen, ofO, ofS, asgT, asgTs, List.getElem?_cons_zero, List.getElem?_cons_succ, List.set_cons_zero, List.set_cons_succ, Option.map_some, Option.map_none, Option.bind_some, Option.bind_none, List.length_cons, List.length_nil, if_true, if_false, SR.res, Bool.not_true, Bool.not_false, Bool.false_eq_true, wipeR, List.map_cons, List.map_nil, cmp_eqI, cmp_neI, cmpS_eq, cmpS_ne, cmpI_lt, cmpI_le, cmpI_gt, cmpI_ge, Bool.not_eq_true, decide_true, decide_false]
      · rw [ev, ev_varN rfl]
        simp only [Res.bind, lstOf, Option.isSome, if_true]
        rw [ev]; rfl
  rw [x__law_told, evSs_cons to_s0, evSs_cons st1, evSs_cons st2, evSs_cons st3, evSs_cons st4, evSs_rt st5, SR.res]
theorem e_told_no {n : Nat} {w : Nat → Nat → Int} {S : Sto} (h : MOk n w) (f : fullB n w = false) : f__law_told [webU (mat n w)] S = .ok (.str "not full") S :=
  e_told_ex (e_more_no h f) s_nf_road s_nf_odd s_nf_nf s_nf_tg (.inl rfl)
theorem e_told_great {n : Nat} {w : Nat → Nat → Int} {S : Sto} (h : MOk n w) (f : fullB n w = true) (hn : n = 8) : f__law_told [webU (mat n w)] S = .ok (.str "too great") S :=
  e_told_ex (e_more_great h f hn) s_tg_road s_tg_odd s_tg_nf s_tg_tg (.inr rfl)
end K

set_option Elab.async false
set_option linter.all false
set_option maxRecDepth 100000
set_option maxHeartbeats 1600000
set_option exponentiation.threshold 500
namespace K
open PySem PySem.Spec PyProof.Rows L2 Z
section
variable (n : Nat) (w : Nat → Nat → Int)
def Wk (p : Nat) : U := if p = 0 then webU (mat n w) else if p = 1 then webU (mat (n + 1) (w1 n w)) else if p ≤ n + 1 then webU (mat (n + 1) (wL n w (p - 2))) else webU (mat (n + 1) (w4 n w))
def Dk_ (p : Nat) : U := if p = 0 then D3 "put" 0 0 n else if p = 1 then D3 "lead" n 0 2 else if p ≤ n then D3 "lead" ((p - 1 : Nat) : Int) 0 1 else D3 "lead" 0 n 1
end
theorem growL_rng {n : Nat} (h : 1 ≤ n) : growL n = (List.range (n + 2)).map (Dk_ n) := by
  apply List.ext_getElem?
  intro i
  unfold growL
  by_cases h1 : i < n + 2
  · rw [rng_at h1]
    unfold Dk_
    by_cases q0 : i = 0
    · subst q0; rw [if_pos rfl]; rfl
    · rw [if_neg q0]
      by_cases q1 : i = 1
      · subst q1; rw [if_pos rfl]; rfl
      · rw [if_neg q1]
        obtain ⟨d, rfl⟩ : ∃ d, i = d + 2 := ⟨i - 2, by omega⟩
        rw [List.append_assoc, List.cons_append, List.getElem?_cons_succ, List.cons_append, List.getElem?_cons_succ, List.nil_append]
        by_cases q2 : d + 2 ≤ n
        · rw [if_pos q2, List.getElem?_append_left (by simp; omega), rng_at (by omega)]; rfl
        · rw [if_neg q2, List.getElem?_append_right (by simp; omega)]
          have : d - ((List.range (n - 1)).map fun (p : Nat) => D3 "lead" ((p + 1 : Nat) : Int) 0 1).length = 0 := by simp; omega
          rw [this]; rfl
  · rw [List.getElem?_eq_none (by simp; omega), List.getElem?_eq_none (by simp; omega)]
section
variable {n : Nat} {w : Nat → Nat → Int}
theorem Wk_0 : Wk n w 0 = webU (mat n w) := if_pos rfl
theorem Wk_1 : Wk n w 1 = webU (mat (n + 1) (w1 n w)) := by unfold Wk; rw [if_neg (by decide), if_pos rfl]
theorem Wk_L {p : Nat} (h : p + 2 ≤ n + 1) : Wk n w (p + 2) = webU (mat (n + 1) (wL n w p)) := by unfold Wk; rw [if_neg (by omega), if_neg (by omega), if_pos h]; rfl
theorem Wk_4 : Wk n w (n + 2) = webU (mat (n + 1) (w4 n w)) := by unfold Wk; rw [if_neg (by omega), if_neg (by omega), if_neg (by omega)]
theorem Wk_non {p : Nat} : (Wk n w p).isNon = false := by
  unfold Wk
  by_cases q0 : p = 0
  · rw [if_pos q0]; rfl
  · rw [if_neg q0]
    by_cases q1 : p = 1
    · rw [if_pos q1]; rfl
    · rw [if_neg q1]
      by_cases q2 : p ≤ n + 1
      · rw [if_pos q2]; rfl
      · rw [if_neg q2]; rfl
theorem led_at {v : Nat → Nat → Int} {i j : Nat} {s : Int} : ledF v i j s i j = v i j + s * (v j j - 1) := by
  unfold ledF setRow
  rw [if_pos rfl]
  dsimp only
  rw [one_eq]
theorem grow_along {S : Sto} {l : Nat} {B : Int} (F : FOk n w B) (hn : n < 8) (hl : S[l]? = some (.lst (growL n))) : ∃ S', f__law_along [webU (mat n w), .obj l, wordsU] S = .ok (webU (mat (n + 1) (w4 n w))) S' ∧ Ke S S' := by
  have hp := F.pos
  rw [growL_rng hp] at hl
  have d0 := F.diag (a := 0) (by omega)
  have := e_along (S := S) (m := n + 2) (l := l) (Wk n w) (Dk_ n) (by omega) hl (fun p hp => by
    unfold Dk_
    by_cases q0 : p = 0
    · rw [if_pos q0]; exact ⟨_, _, _, _, rfl, iw_put⟩
    · rw [if_neg q0]
      by_cases q1 : p = 1
      · rw [if_pos q1]; exact ⟨_, _, _, _, rfl, iw_lead⟩
      · rw [if_neg q1]
        by_cases q2 : p ≤ n
        · rw [if_pos q2]; exact ⟨_, _, _, _, rfl, iw_lead⟩
        · rw [if_neg q2]; exact ⟨_, _, _, _, rfl, iw_lead⟩) (fun p => Wk_non) (fun p hp2 S => by
    match p, hp2 with
    | 0, _ =>
      rw [Wk_0, Wk_1]
      exact e_lb_put (S := S) (w := w) (n := n) (i := 0) (j := 0) (k := n) hp hn (by omega) (by omega) (Nat.le_refl _) (by omega)
    | 1, _ =>
      have e := e_lb_lead (S := S) (n := n + 1) (i := n) (j := 0) (w := w1 n w) (t := 2) (by omega) (by omega) (by omega) (by omega) (by omega) (by omega) (by omega) (fun s hs => by
        rw [led_at, w1_row (by omega), one_eq, w1_00 F]
        match s, hs with
        | 0, _ => simp
        | 1, _ => simp; omega)
      rw [Wk_1, Wk_L (p := 0) (by omega), wL_zero]
      exact e
    | p + 2, hp2 =>
      by_cases q : p + 2 ≤ n
      · have e := e_lb_lead (S := S) (n := n + 1) (i := p + 1) (j := 0) (w := wL n w p) (t := 1) (by omega) (by omega) (by omega) (by omega) (by omega) (by omega) (by omega) (fun s hs => by
          have h0 : s = 0 := by omega
          subst h0
          rw [led_at, wL_hi (by omega) (by omega), w1_in (by omega) (by omega), if_pos rfl, one_ne (by omega)]
          have := F.ge (a := p + 1) (b := 0) (by omega) (by omega)
          simp; omega)
        have es : ledF (wL n w p) (p + 1) 0 ((1 : Nat) : Int) = wL n w (p + 1) := wL_succ hp (by omega)
        rw [es] at e
        rw [Wk_L (by omega), show p + 2 + 1 = (p + 1) + 2 by omega, Wk_L (by omega)]
        have ed : Dk_ n (p + 2) = D3 "lead" ((p + 1 : Nat) : Int) ((0 : Nat) : Int) ((1 : Nat) : Int) := by
          unfold Dk_; rw [if_neg (by omega), if_neg (by omega), if_pos q]; rfl
        rw [ed]; exact e
      · have ep : p + 1 = n := by omega
        have e := e_lb_lead (S := S) (n := n + 1) (i := 0) (j := n) (w := wL n w (n - 1)) (t := 1) (by omega) (by omega) (by omega) (by omega) (by omega) (by omega) (by omega) (fun s hs => by
          have h0 : s = 0 := by omega
          subst h0
          rw [led_at, wL_0 hp, w1_col (by omega), one_eq]
          simp)
        rw [Wk_L (by omega), show p + 2 + 1 = n + 2 by omega, Wk_4]
        have ed : Dk_ n (p + 2) = D3 "lead" ((0 : Nat) : Int) (n : Int) ((1 : Nat) : Int) := by
          unfold Dk_; rw [if_neg (by omega), if_neg (by omega), if_neg q]; rfl
        have e1 : p = n - 1 := by omega
        rw [ed, e1]; exact e)
  rw [Wk_0, Wk_4] at this
  exact this
/-- the told list is small data -/
theorem growL_dk (h : 1 ≤ n) (hn : n < 8) : Dk 2 (.tl (growL n)) := by
  have dl : ∀ (a b c : Int) (x : Str), PyData.strOk x = true → (reprText x).length ≤ 60 → a.natAbs < 10 ^ 40 → b.natAbs < 10 ^ 40 → c.natAbs < 10 ^ 40 → Dk 1 (D3 x a b c) := fun a b c x h1 h2 ha hb hc => Dk.tup (h := 0) (fun u hu => by
    simp only [List.mem_cons, List.not_mem_nil, or_false] at hu
    rcases hu with rfl | rfl | rfl | rfl
    · exact .str h1 h2
    · exact .int ha
    · exact .int hb
    · exact .int hc) (by simp)
  have sm : ∀ k : Nat, k ≤ 8 → ((k : Int)).natAbs < 10 ^ 40 := fun k hk => Nat.lt_of_le_of_lt (show ((k : Int)).natAbs ≤ 8 by omega) (by decide)
  have sl : PyData.strOk "lead" = true ∧ (reprText "lead").length ≤ 60 := ⟨by decide +kernel, by decide +kernel⟩
  have sp : PyData.strOk "put" = true ∧ (reprText "put").length ≤ 60 := ⟨by decide +kernel, by decide +kernel⟩
  refine Dk.tl (h := 1) (fun u hu => ?_) (by unfold growL; simp; omega)
  unfold growL at hu
  simp only [List.mem_append, List.mem_cons, List.mem_map, List.mem_range, List.not_mem_nil, or_false] at hu
  rcases hu with (hu | hu) | hu
  · rcases hu with rfl | rfl
    · exact dl _ _ _ _ sp.1 sp.2 (by decide) (by decide) (sm n (by omega))
    · exact dl _ _ _ _ sl.1 sl.2 (sm n (by omega)) (by decide) (by decide)
  · obtain ⟨p, hp, rfl⟩ := hu
    exact dl _ _ _ _ sl.1 sl.2 (sm (p + 1) (by omega)) (by decide) (by decide)
  · subst hu
    exact dl _ _ _ _ sl.1 sl.2 (by decide) (sm n (by omega)) (by decide)
theorem ne_self {S : Sto} {l h : Nat} {us : List U} (x : Dk h (.tl us)) (hh : h ≤ 10) (hl : S[l]? = some (.lst us)) : cmpE S .ne (.obj l) (.tl us) = some false := by
  obtain ⟨d, x⟩ := x
  have hs := Dk.shaped x (by omega)
  have hd := x.1 S 12 (by omega)
  have hd2 : dat S 12 (.obj l) = some d := by
    rw [← hd]
    simp only [dat, hl]
  show (match dat S 12 (.obj l), dat S 12 (.tl us) with
      | some d, some e => if (SeqAt.shaped d && SeqAt.shaped e) = true then some (!PyData.eqv d e) else none
      | _, _ => none) = _
  rw [hd, hd2]
  dsimp only
  rw [hs, SeqAt.eqv_refl d x.2.1]
  rfl
end
end K

set_option Elab.async false
set_option linter.all false
set_option maxRecDepth 100000
set_option maxHeartbeats 3200000
set_option exponentiation.threshold 500
namespace K
open PySem PySem.Spec PyProof.Rows L2 Z
theorem InB.mok {n : Nat} {w : Nat → Nat → Int} {B : Nat} (h1 : 1 ≤ n) (h8 : n ≤ 8) (h : InB n w B) : MOk n w := ⟨h1, h8, fun a b ha hb => (h a b ha hb).1⟩
theorem web11 : webU (mat 1 fun _ _ => 1) = .tup [.tup [.int 1]] := by rfl
section
variable {S : Sto} {p c : Nat} {B : Int} {sc : U}
abbrev lwR (sc : U) (p : Nat) (a3 a4 a5 a6 a7 a8 : Option U) : Rho := [some sc, some (.obj p), some wordsU, a3, a4, a5, a6, a7, a8, none, none, none, none]
theorem lb_s7 {a3 a4 a5 a6 a7 a8 : Option U} (hp : Pen S p c B) (hB : B + 1300 < 1000000) :
    ∃ (n : Nat) (w : Nat → Nat → Int) (S' : Sto), evS T35 FU c_law_b1_s7 (lwR sc p a3 a4 a5 a6 a7 a8) S = .nx (lwR sc p a3 a4 a5 a6 a7 (some (webU (mat n w)))) S' ∧ 1 ≤ n ∧ n ≤ 8 ∧ InB n w 1000000001000 ∧ Pen S' p c (B + 1300) := by
  obtain ⟨n1, u1, S1, x1, x2, x3, x4, x5, x6⟩ := e_law_web (pl := 8) (most := 3) hp (by omega) (by decide) (by decide) (by decide) (by decide)
  obtain ⟨n2, u2, S2, y1, y2, y3, y4, y5, y6⟩ := e_law_rich (pl := 8) (most := 2) x5 (by omega) (by decide) (by decide) (by decide) (by decide)
  obtain ⟨n3, u3, S3, z1, z2, z3, z4, z5, z6⟩ := e_law_web (pl := 4) (most := 3) y5 (by omega) (by decide) (by decide) (by decide) (by decide)
  obtain ⟨v, S4, t1, t2, t3, t4, t5⟩ := e_one (us := [webU (mat n1 u1), webU (mat n2 u2), webU (mat n3 u3), .tup [.tup [.int 1]]]) z5 (by omega) (by simp) (by simp)
  have key : ∃ n w, v = webU (mat n w) ∧ 1 ≤ n ∧ n ≤ 8 ∧ InB n w 1000000001000 := by
    simp only [List.mem_cons, List.not_mem_nil, or_false] at t2
    rcases t2 with q | q | q | q
    · exact ⟨n1, u1, q, x2, x3, x4⟩
    · exact ⟨n2, u2, q, y2, y3, y4⟩
    · exact ⟨n3, u3, q, z2, z3, z4⟩
    · exact ⟨1, fun _ _ => 1, q.trans web11.symm, by decide, by decide, fun a b _ _ => ⟨by simp, by simp⟩⟩
  obtain ⟨n, w, rfl, h1, h2, h3⟩ := key
  refine ⟨n, w, S4, ?_, h1, h2, h3, t3.mono (by omega)⟩
  have c1 : ∀ S S', f__law_web [.obj p, .int 8, .int 3] S = .ok (webU (mat n1 u1)) S' → ev T35 (.call "_law_web" (.cons (.var 1) (.cons (.int 8) (.cons (.int 3) .nil)))) (lwR sc p a3 a4 a5 a6 a7 a8) S = .ok (webU (mat n1 u1)) S' := fun S S' h =>
    (ev_callF d_law___law_web t_law___law_web (evs_cons' (ev_varN rfl) (evs_cons' ev_intN (evs_cons' ev_intN evs_nil')))).trans h
  have c2 : ∀ S S', f__law_rich [.obj p, .int 8, .int 2] S = .ok (webU (mat n2 u2)) S' → ev T35 (.call "_law_rich" (.cons (.var 1) (.cons (.int 8) (.cons (.int 2) .nil)))) (lwR sc p a3 a4 a5 a6 a7 a8) S = .ok (webU (mat n2 u2)) S' := fun S S' h =>
    (ev_callF d_law___law_rich t_law___law_rich (evs_cons' (ev_varN rfl) (evs_cons' ev_intN (evs_cons' ev_intN evs_nil')))).trans h
  have c3 : ∀ S S', f__law_web [.obj p, .int 4, .int 3] S = .ok (webU (mat n3 u3)) S' → ev T35 (.call "_law_web" (.cons (.var 1) (.cons (.int 4) (.cons (.int 3) .nil)))) (lwR sc p a3 a4 a5 a6 a7 a8) S = .ok (webU (mat n3 u3)) S' := fun S S' h =>
    (ev_callF d_law___law_web t_law___law_web (evs_cons' (ev_varN rfl) (evs_cons' ev_intN (evs_cons' ev_intN evs_nil')))).trans h
  have c4 : ev T35 (.tup (.cons (.tup (.cons (.int 1) .nil)) .nil)) (lwR sc p a3 a4 a5 a6 a7 a8) S3 = .ok (.tup [.tup [.int 1]]) S3 := by
    have z1 : (1 : Nat) ≤ sizeLine := sz_of (by omega)
    simp only [evSs, evS, ev, evs, evB, evO, evN_lst, evN_listOf, evN_cat, evI, Res.bind, Res.toS, SR.andThen, ofO, ofS, asgT, asgTs, List.getElem?_cons_zero, List.getElem?_cons_succ, List.set_cons_zero, List.set_cons_succ, Option.map_some, Option.map_none, Option.bind_some, Option.bind_none, List.length_cons, List.length_nil, if_true, if_false, SR.res, Bool.not_true, Bool.not_false, Bool.false_eq_true, wipeR, List.map_cons, List.map_nil, cmp_eqI, cmp_neI, cmpS_eq, cmpS_ne, cmpI_lt, cmpI_le, cmpI_gt, cmpI_ge, Bool.not_eq_true, decide_true, decide_false, Nat.zero_add, z1]
  exact evS_asgN ((ev_callF d_law___law_one t_law___law_one (evs_cons' (ev_varN rfl) (evs_cons' (ev_tmp (evN_lst' (evs_cons' (c1 _ _ x1) (evs_cons' (c2 _ _ y1) (evs_cons' (c3 _ _ z1) (evs_cons' c4 evs_nil')))) (by simp))) evs_nil'))).trans t1)
theorem lb_s8 {n : Nat} {w : Nat → Nat → Int} {a3 a4 a5 a6 a7 : Option U} (h1 : 1 ≤ n) (h8 : n ≤ 8) (h : InB n w 1000000001000) :
    evS T35 FU c_law_b1_s8 (lwR sc p a3 a4 a5 a6 a7 (some (webU (mat n w)))) S = .nx (lwR sc p a3 a4 a5 a6 a7 (some (webU (mat n w)))) S := by
  refine (evS_iteF (S1 := S) ?_).trans evSs_nil
  have e1 : ev T35 (.not (.call "_law_is_full" (.cons (.var 8) .nil))) (lwR sc p a3 a4 a5 a6 a7 (some (webU (mat n w)))) S = .ok (.bl (!fullB n w)) S :=
    ev_nots ((ev_callF d_law___law_is_full t_law___law_is_full (evs_cons' (ev_varN rfl) evs_nil')).trans (e_law_is_full h1 h8))
  cases q : fullB n w with
  | true =>
    rw [q] at e1
    exact ev_bop.trans (evB_stop e1 (by decide))
  | false =>
    rw [q] at e1
    refine ev_bop.trans ((evB_go e1).trans (evB_last.trans ?_))
    rw [ev, (ev_callF d_law___law_told t_law___law_told (evs_cons' (ev_varN rfl) evs_nil')).trans (e_told_no (h.mok h1 h8) q)]
    simp only [Res.bind]
    rw [ev]
    rfl
theorem lb_all {a3 a4 a5 a6 a7 a8 : Option U} (hp : Pen S p c B) (hB : B + 2000 < 1000000) :
    ∃ (b4 b5 b6 b7 b8 : Option U) (S' : Sto), evSs T35 FU c_law_b1 (lwR sc p a3 a4 a5 a6 a7 a8) S = .nx (lwR sc p a3 b4 b5 b6 b7 b8) S' ∧ Pen S' p c (B + 2000) := by
  obtain ⟨S1, a1', a2', a3', a4'⟩ := e_anew hp
  obtain ⟨m, S2, o1, o2, o3, o4, o5⟩ := e_one (us := [.int 1, .int 3, .int 1000000000]) a2' (by omega) (by simp) (by simp)
  have hm : ∃ x : Int, m = .int x ∧ 1 ≤ x ∧ x ≤ 1000000000 := by
    simp only [List.mem_cons, List.not_mem_nil, or_false] at o2
    rcases o2 with q | q | q
    · exact ⟨1, q, by decide, by decide⟩
    · exact ⟨3, q, by decide, by decide⟩
    · exact ⟨_, q, by decide, by decide⟩
  obtain ⟨x, rfl, x0, x1⟩ := hm
  obtain ⟨n, w, S3, f1, f2, f3, f4, f5, f6, f7⟩ := e_law_full (pl := 7) (most := x) o3 (by omega) (by decide) (by decide) x0 x1
  have pw : ∀ S, binE S .pw (.int 10) (.int 9) = some (.int 1000000000) := fun S => by rw [binI_pw (by decide) (by decide) (by decide)]; rfl
  have st0 : evS T35 FU c_law_b1_s0 (lwR sc p a3 a4 a5 a6 a7 a8) S = .nx (lwR sc p a3 (some (webU (mat n w))) a5 a6 a7 a8) S3 := by
    have e1 : ev T35 (.call "_law_anew" (.cons (.var 1) .nil)) (lwR sc p a3 a4 a5 a6 a7 a8) S = .ok (.obj p) S1 := (ev_callF d_law___law_anew t_law___law_anew (evs_cons' (ev_varN rfl) evs_nil')).trans a1'
    have e2 : ev T35 (.bin .pw (.int 10) (.int 9)) (lwR sc p a3 a4 a5 a6 a7 a8) S1 = .ok (.int 1000000000) S1 := by simp only [evSs, evS, ev, evs, evB, evO, evN_lst, evN_listOf, evN_cat, evI, Res.bind, Res.toS, SR.andThen, ofO, ofS, asgT, asgTs, List.getElem?_cons_zero, List.getElem?_cons_succ, List.set_cons_zero, List.set_cons_succ, Option.map_some, Option.map_none, Option.bind_some, Option.bind_none, List.length_cons, List.length_nil, if_true, if_false, SR.res, Bool.not_true, Bool.not_false, Bool.false_eq_true, wipeR, List.map_cons, List.map_nil, cmp_eqI, cmp_neI, cmpS_eq, cmpS_ne, cmpI_lt, cmpI_le, cmpI_gt, cmpI_ge, Bool.not_eq_true, decide_true, decide_false, pw]
    exact evS_asgN ((ev_callF d_law___law_full t_law___law_full (evs_cons' e1 (evs_cons' ev_intN (evs_cons' ((ev_callF d_law___law_one t_law___law_one (evs_cons' (ev_varN rfl) (evs_cons' (ev_tmp (evN_lst' (evs_cons' ev_intN (evs_cons' ev_intN (evs_cons' e2 evs_nil'))) (by simp))) evs_nil'))).trans o1) evs_nil')))).trans f1)
  have M := f5.mok f2 (by omega)
  have F := FOk.of M f5 f4
  obtain ⟨S4, l, g1, g2, g3, g4⟩ := e_more (S := S3) M f5 (by decide) (by decide +kernel) f4 (by omega)
  have told : ∀ S S' l, f_more [webU (mat n w)] S = .ok (.obj l) S' → ∀ b5 b6 b7 b8, ev T35 (.call "_law_told" (.cons (.var 4) .nil)) (lwR sc p a3 (some (webU (mat n w))) b5 b6 b7 b8) S = .ok (.obj l) S' := fun S S' l h b5 b6 b7 b8 =>
    (ev_callF d_law___law_told t_law___law_told (evs_cons' (ev_varN rfl) evs_nil')).trans (e_told_found h)
  have st1 : evS T35 FU c_law_b1_s1 (lwR sc p a3 (some (webU (mat n w))) a5 a6 a7 a8) S3 = .nx (lwR sc p a3 (some (webU (mat n w))) (some (.obj l)) a6 a7 a8) S4 := evS_asgN (told _ _ _ g1 _ _ _ _)
  obtain ⟨S5, h1, h2⟩ := grow_along F (by omega) g2
  have st2 : evS T35 FU c_law_b1_s2 (lwR sc p a3 (some (webU (mat n w))) (some (.obj l)) a6 a7 a8) S4 = .nx (lwR sc p a3 (some (webU (mat n w))) (some (.obj l)) (some (webU (mat (n + 1) (w4 n w)))) a7 a8) S5 :=
    evS_asgN ((ev_callF d_law___law_along t_law___law_along (evs_cons' (ev_varN rfl) (evs_cons' (ev_varN rfl) (evs_cons' (ev_varN rfl) evs_nil')))).trans h1)
  have hf : fullB (n + 1) (w4 n w) = true := fullB_iff.mpr fun a b ha hb => w4_full F a b ha hb
  have st3 : evS T35 FU c_law_b1_s3 (lwR sc p a3 (some (webU (mat n w))) (some (.obj l)) (some (webU (mat (n + 1) (w4 n w)))) a7 a8) S5 = .nx (lwR sc p a3 (some (webU (mat n w))) (some (.obj l)) (some (webU (mat (n + 1) (w4 n w)))) a7 a8) S5 := by
    refine (evS_iteF (S1 := S5) (ev_bop.trans ((evB_go (S1 := S5) ?_).trans ((evB_go (S1 := S5) ?_).trans (evB_last.trans ?_))))).trans evSs_nil
    · rw [ev, ev_varN rfl]; rfl
    · have hd : (!decide (((n + 1 : Nat) : Int) = (n : Int) + 1)) = false := by simp
      simp only [evSs, evS, ev, evs, evB, evO, evN_lst, evN_listOf, evN_cat, evI, Res.bind, Res.toS, SR.andThen, ofO, ofS, asgT, asgTs, List.getElem?_cons_zero, List.getElem?_cons_succ, List.set_cons_zero, List.set_cons_succ, Option.map_some, Option.map_none, Option.bind_some, Option.bind_none, List.length_cons, List.length_nil, if_true, if_false, SR.res, Bool.not_true, Bool.not_false, Bool.false_eq_true, wipeR, List.map_cons, List.map_nil, cmp_eqI, cmp_neI, cmpS_eq, cmpS_ne, cmpI_lt, cmpI_le, cmpI_gt, cmpI_ge, Bool.not_eq_true, decide_true, decide_false, len_mat, binI_add, hd]
    · have e := ev_nots (T := T35) (a := .call "_law_is_full" (.cons (.var 6) .nil)) (ρ := lwR sc p a3 (some (webU (mat n w))) (some (.obj l)) (some (webU (mat (n + 1) (w4 n w)))) a7 a8) ((ev_callF d_law___law_is_full t_law___law_is_full (evs_cons' (ev_varN rfl) evs_nil')).trans (e_law_is_full (n := n + 1) (w := w4 n w) (S := S5) (by omega) (by omega)))
      rw [hf] at e
      exact e
  have gl5 := h2.at_ g2
  have st4 : evS T35 FU c_law_b1_s4 (lwR sc p a3 (some (webU (mat n w))) (some (.obj l)) (some (webU (mat (n + 1) (w4 n w)))) a7 a8) S5 = .nx (lwR sc p a3 (some (webU (mat n w))) (some (.obj l)) (some (webU (mat (n + 1) (w4 n w)))) (some (.tl (growL n))) a8) S5 := by
    refine evS_asgN (ev_tmp ?_)
    rw [evN_listOf, ev_varN rfl]
    simp only [Res.bind, seq_obj gl5, ofO]
  have gln : (growL n).length ≤ 1000 := by unfold growL; simp; omega
  have st5 : evS T35 FU c_law_b1_s5 (lwR sc p a3 (some (webU (mat n w))) (some (.obj l)) (some (webU (mat (n + 1) (w4 n w)))) (some (.tl (growL n))) a8) S5 = .nx (lwR sc p a3 (some (webU (mat n w))) (some (.obj l)) (some (webU (mat (n + 1) (w4 n w)))) (some (.tl (growL n))) a8) (S5.set l (.lst (growL n ++ [.int 0]))) :=
    evS_app (ev_varN rfl) (lst_obj gl5) ev_intN gl5 gln
  have p3 := f6.lt
  have p5 : Pen (S5.set l (.lst (growL n ++ [.int 0]))) p c (B + 500) := (((f6.mono (by omega)).ke g3).ke h2).set2 (by omega) (by omega)
  generalize S5.set l (.lst (growL n ++ [.int 0])) = S6 at st5 p5
  obtain ⟨S7, l2, i1, i2, i3, i4⟩ := e_more (S := S6) M f5 (by decide) (by decide +kernel) f4 (by omega)
  have st6 : evS T35 FU c_law_b1_s6 (lwR sc p a3 (some (webU (mat n w))) (some (.obj l)) (some (webU (mat (n + 1) (w4 n w)))) (some (.tl (growL n))) a8) S6 = .nx (lwR sc p a3 (some (webU (mat n w))) (some (.obj l)) (some (webU (mat (n + 1) (w4 n w)))) (some (.tl (growL n))) a8) S7 := by
    refine (evS_iteF (S1 := S7) ?_).trans evSs_nil
    rw [ev, told _ _ _ i1]
    simp only [Res.bind]
    rw [ev_varN rfl]
    simp only [ne_self (growL_dk f2 (by omega)) (by decide) i2, Option.map_some, ofO]
  obtain ⟨n2, w2, S8, j1, j2, j3, j4, j5⟩ := lb_s7 (sc := sc) (a3 := a3) (a4 := some (webU (mat n w))) (a5 := some (.obj l)) (a6 := some (webU (mat (n + 1) (w4 n w)))) (a7 := some (.tl (growL n))) (a8 := a8) (p5.ke i3) (by omega)
  refine ⟨some (webU (mat n w)), some (.obj l), some (webU (mat (n + 1) (w4 n w))), some (.tl (growL n)), some (webU (mat n2 w2)), S8, ?_, j5.mono (by omega)⟩
  rw [x_law_b1, evSs_cons st0, evSs_cons st1, evSs_cons st2, evSs_cons st3, evSs_cons st4, evSs_cons st5, evSs_cons st6, evSs_cons j1, evSs_cons (lb_s8 j2 j3 j4), evSs_nil]
end
end K

set_option Elab.async false
set_option linter.all false
set_option maxRecDepth 100000
set_option maxHeartbeats 3200000
set_option exponentiation.threshold 500
namespace K
open PySem PySem.Spec PyProof.Rows L2 Z
section
variable {S : Sto} {p c : Nat} {B : Int} {sc : U}
theorem lt_tk {m : Int} {e : CE} {ρ : Rho} (hp : Pen S p c B) (hB : B < 1000000) (hm : 1 ≤ m) (hm2 : m ≤ 1000000000000) (h0 : ρ[1]? = some (some (.obj p))) (he : ev T35 e ρ S = .ok (.int m) S) :
    ∃ v S', ev T35 (.call "_law_take" (.cons (.var 1) (.cons e .nil))) ρ S = .ok (.int v) S' ∧ 0 ≤ v ∧ v < m ∧ Pen S' p c (B + 1) ∧ Kp p S S' ∧ S'.length = S.length := by
  obtain ⟨v, S', t1, t2, t3, t4, t5, t6⟩ := e_take hp hB hm (sm400 (by omega) (by omega))
  exact ⟨v, S', (ev_callF d_law___law_take t_law___law_take (evs_cons' (ev_varN h0) (evs_cons' he evs_nil'))).trans t1, t2, t3, t4, t5, t6⟩
abbrev lgR (sc : U) (p : Nat) (a3 a4 a5 a6 a7 a8 a11 a12 : Option U) : Rho := [some sc, some (.obj p), some wordsU, a3, a4, a5, a6, a7, a8, none, none, a11, a12]
theorem lg_l1 {a3 a4 a5 a6 a7 a8 : Option U} {i : Nat} (hp : Pen S p c B) (hB : B + 8 < 1000000) :
    ∃ (xs : List Int) (S' : Sto), evN T35 c_law_l1 (lgR sc p a3 a4 a5 a6 a7 a8 (some (.int i)) none) S = .ok (xs.map U.int) S' ∧ FRow 8 i (1 + 3) xs ∧ Pen S' p c (B + 8) := by
  obtain ⟨acc, S', e1, xs, rfl, e2, e3, e4⟩ := evN_inv (T := T35) (tg := .name 12) (it := .rng1 (.int 8)) (elt := .bin .add (.bin .add (.int 1) (.bi .int (.cons (.cmp .eq (.var 11) (.var 12)) .nil))) (.call "_law_take" (.cons (.var 1) (.cons (.int 3) .nil)))) (own := [("_law_j", 12)]) (ρ := lgR sc p a3 a4 a5 a6 a7 a8 (some (.int i)) none) (S := S) (S1 := S) (src := .rng 0 8) (items := (List.range 8).map fun (i : Nat) => U.int (i : Int))
    (fun j acc S' => ∃ xs : List Int, acc = xs.map U.int ∧ xs.length = j ∧ (∀ k x, xs[k]? = some x → 1 + one_ i k ≤ x ∧ x ≤ 1 + 3) ∧ Pen S' p c (B + j)) (evI_rng1 (n := 8) ev_intN (by decide)) (fun _ _ S' _ => over_rngR (I := fun _ => True) S' trivial _) (by simp [Src.len]) (by simp) (by
      intro j u acc S' hx ⟨xs, ha, h1, h2, h3⟩
      have hj : j < 8 := by
        have := (List.getElem?_eq_some_iff.mp hx).1
        simpa using this
      rw [rng_at hj] at hx
      cases hx
      obtain ⟨v, S2, t1, q1, r1, p1, k1, l1⟩ := lt_tk (m := 3) (e := .int 3) (ρ := lgR sc p a3 a4 a5 a6 a7 a8 (some (.int i)) (some (.int j))) h3 (by omega) (by omega) (by omega) rfl ev_intN
      refine ⟨_, .int (1 + one_ i j + v), S2, rfl, ev_addI (ev_addI ev_intN ?_) t1, xs ++ [1 + one_ i j + v], by rw [ha]; simp, by simp [h1], ?_, p1.mono (by omega)⟩
      · simp only [evSs, evS, ev, evs, evB, evO, evN_lst, evN_listOf, evN_cat, evI, Res.bind, Res.toS, SR.andThen, ofO, ofS, asgT, asgTs, List.getElem?_cons_zero, List.getElem?_cons_succ, List.set_cons_zero, List.set_cons_succ, Option.map_some, Option.map_none, Option.bind_some, Option.bind_none, List.length_cons, List.length_nil, if_true, if_false, SR.res, Bool.not_true, Bool.not_false, Bool.false_eq_true, wipeR, List.map_cons, List.map_nil, cmp_eqI, cmp_neI, cmpS_eq, cmpS_ne, cmpI_lt, cmpI_le, cmpI_gt, cmpI_ge, Bool.not_eq_true, decide_true, decide_false, int_eqB]
      · intro k x hk
        by_cases q : k < xs.length
        · rw [List.getElem?_append_left q] at hk; exact h2 k x hk
        · rw [List.getElem?_append_right (by omega)] at hk
          have hk0 : k - xs.length = 0 := by
            have := (List.getElem?_eq_some_iff.mp hk).1
            simp at this; omega
          rw [hk0] at hk
          cases hk
          have : k = j := by omega
          subst this
          have o' := one_01 i k
          unfold one_ at o' ⊢
          by_cases qq : i = k
          · rw [if_pos qq]; omega
          · rw [if_neg qq]; omega) ⟨[], rfl, rfl, by simp, hp.mono (by omega)⟩
  have hL : ((List.range 8).map fun (i : Nat) => U.int (i : Int)).length = 8 := by simp
  rw [hL] at e2 e4
  exact ⟨xs, S', e1, ⟨e2, e3⟩, e4⟩
theorem lg_l2 {a3 a4 a5 a6 a7 a8 : Option U} (hp : Pen S p c B) (hB : B + 64 < 1000000) :
    ∃ (w : Nat → Nat → Int) (S' : Sto), evN T35 c_law_l2 (lgR sc p a3 a4 a5 a6 a7 a8 none none) S = .ok ((mat 8 w).map rowU) S' ∧ fullB 8 w = true ∧ InB 8 w 4 := by
  obtain ⟨acc, S', e1, W, rfl, e2, e3⟩ := evN_inv (T := T35) (tg := .name 11) (it := .rng1 (.int 8)) (elt := .bi .tuple (.cons (.tmp c_law_l1) .nil)) (own := [("_law_i", 11)]) (ρ := lgR sc p a3 a4 a5 a6 a7 a8 none none) (S := S) (S1 := S) (src := .rng 0 8) (items := (List.range 8).map fun (i : Nat) => U.int (i : Int))
    (fun j acc S' => ∃ W : List (List Int), acc = W.map rowU ∧ FWeb 8 j (1 + 3) W ∧ Pen S' p c (B + 8 * j)) (evI_rng1 (n := 8) ev_intN (by decide)) (fun _ _ S' _ => over_rngR (I := fun _ => True) S' trivial _) (by simp [Src.len]) (by simp) (by
      intro j u acc S' hx ⟨W, ha, h1, h3⟩
      have hj : j < 8 := by
        have := (List.getElem?_eq_some_iff.mp hx).1
        simpa using this
      rw [rng_at hj] at hx
      cases hx
      obtain ⟨xs, S2, t1, t2, t3⟩ := lg_l1 (sc := sc) (a3 := a3) (a4 := a4) (a5 := a5) (a6 := a6) (a7 := a7) (a8 := a8) (i := j) h3 (by omega)
      refine ⟨_, rowU xs, S2, rfl, ?_, W ++ [xs], by rw [ha]; simp, h1.snoc t2, t3.mono (by omega)⟩
      have e : evs T35 (.cons (.tmp c_law_l1) .nil) (lgR sc p a3 a4 a5 a6 a7 a8 (some (.int j)) none) S' = .ok [.tl (xs.map U.int)] S2 := evs_cons' (ev_tmp t1) evs_nil'
      show ev T35 (.bi .tuple (.cons (.tmp c_law_l1) .nil)) (lgR sc p a3 a4 a5 a6 a7 a8 (some (.int j)) none) S' = _
      rw [ev, e]
      simp only [Res.bind, bi_tuple_tl, ofO]
      rfl) ⟨[], rfl, FWeb.nil, hp.mono (by omega)⟩
  have hL : ((List.range 8).map fun (i : Nat) => U.int (i : Int)).length = 8 := by simp
  rw [hL] at e2
  have e2' : FWeb 8 8 ((4 : Nat) : Int) W := e2
  obtain ⟨w, hw, hf, hb⟩ := e2'.mat
  exact ⟨w, S', by rw [← hw]; exact e1, hf, hb⟩
def thinF (w : Nat → Nat → Int) : Nat → Nat → Int := fun a b => if a = 7 then 0 else w a b
theorem thin_no {w : Nat → Nat → Int} : fullB 8 (thinF w) = false := by
  cases q : fullB 8 (thinF w) with
  | false => rfl
  | true =>
    have := fullB_iff.mp q 7 0 (by decide) (by decide)
    have e : thinF w 7 0 = 0 := if_pos rfl
    rw [e, one_ne (by decide)] at this
    omega
theorem thin_eq {S : Sto} {w : Nat → Nat → Int} : slE S (webU (mat 8 w)) none (some 7) = some (.tup ((List.range 7).map fun i => rowU (rw_ 8 (w i)))) := by
  rw [webU_mat]
  rfl
theorem thin_bin {S : Sto} {w : Nat → Nat → Int} : binE S .add (.tup ((List.range 7).map fun i => rowU (rw_ 8 (w i)))) (.tup [.tup [.int 0, .int 0, .int 0, .int 0, .int 0, .int 0, .int 0, .int 0]]) = some (webU (mat 8 (thinF w))) := by
  rw [binT_add (by simp; exact sz_of (by decide)), webU_mat]
  rfl
theorem zero8 {S : Sto} : binE S .mul (.tup [.int 0]) (.int 8) = some (.tup [.int 0, .int 0, .int 0, .int 0, .int 0, .int 0, .int 0, .int 0]) := by kernel_rfl
theorem e_law {ns : List Int} {S : Sto} : ∃ S', f_law [.rl (ns.map U.int)] S = .ok (.bl true) S' := by
  rw [b_law, r_law]
  have hN : N_law.length - 1 = 12 := rfl
  simp only [hN, List.replicate, List.cons_append, List.nil_append]
  obtain ⟨S1, a1, a2, a3, a4⟩ := e_open (ns := ns) (S := S)
  have st0 : evS T35 FU c_law_s0 [some (.rl (ns.map U.int)), none, none, none, none, none, none, none, none, none, none, none, none] S = .nx [some (.rl (ns.map U.int)), some (.obj (S.length + 1)), none, none, none, none, none, none, none, none, none, none, none] S1 :=
    evS_asgN ((ev_callF d_law___law_open t_law___law_open (evs_cons' (ev_varN rfl) evs_nil')).trans a1)
  have st1 : evS T35 FU c_law_s1 [some (.rl (ns.map U.int)), some (.obj (S.length + 1)), none, none, none, none, none, none, none, none, none, none, none] S1 = .nx (lgR (.rl (ns.map U.int)) (S.length + 1) none none none none none none none none) S1 := by
    refine evS_asgN (u := wordsU) ?_
    have z6 : (6 : Nat) ≤ sizeLine := sz_of (by omega)
    simp only [evSs, evS, ev, evs, evB, evO, evN_lst, evN_listOf, evN_cat, evI, Res.bind, Res.toS, SR.andThen, ofO, ofS, asgT, asgTs, List.getElem?_cons_zero, List.getElem?_cons_succ, List.set_cons_zero, List.set_cons_succ, Option.map_some, Option.map_none, Option.bind_some, Option.bind_none, List.length_cons, List.length_nil, if_true, if_false, SR.res, Bool.not_true, Bool.not_false, Bool.false_eq_true, wipeR, List.map_cons, List.map_nil, cmp_eqI, cmp_neI, cmpS_eq, cmpS_ne, cmpI_lt, cmpI_le, cmpI_gt, cmpI_ge, Bool.not_eq_true, decide_true, decide_false, Nat.zero_add, Nat.reduceAdd, z6, wordsU]
  obtain ⟨ρ', S2, f1, r3, r4, r5, r6, r7, r8, rfl, f2⟩ := forGo_all (src := .rng 0 3) (t := .name 3) (body := evSs T35 FU c_law_b1) (items := (List.range 3).map fun (i : Nat) => U.int (i : Int))
    (fun i ρ S' => ∃ r3 r4 r5 r6 r7 r8, ρ = lgR (.rl (ns.map U.int)) (S.length + 1) r3 r4 r5 r6 r7 r8 none none ∧ Pen S' (S.length + 1) S.length (2000 * i)) (fun _ _ S' _ => over_rngR (I := fun _ => True) S' trivial _) (by
      intro i x ρ S' hx ⟨r3, r4, r5, r6, r7, r8, h1, h2⟩
      subst h1
      have hi : i < 3 := by
        have := (List.getElem?_eq_some_iff.mp hx).1
        simpa using this
      refine ⟨_, rfl, ?_⟩
      obtain ⟨q4, q5, q6, q7, q8, S3, k1, k2⟩ := lb_all (sc := .rl (ns.map U.int)) (a3 := some x) (a4 := r4) (a5 := r5) (a6 := r6) (a7 := r7) (a8 := r8) h2 (by omega)
      exact ⟨_, S3, k1, some x, q4, q5, q6, q7, q8, rfl, k2.mono (by omega)⟩) (n := 3) (ρ := lgR (.rl (ns.map U.int)) (S.length + 1) none none none none none none none none) (S := S1) rfl ⟨_, _, _, _, _, _, rfl, a2.mono (by simp)⟩
  have st2 : evS T35 FU c_law_s2 (lgR (.rl (ns.map U.int)) (S.length + 1) none none none none none none none none) S1 = .nx (lgR (.rl (ns.map U.int)) (S.length + 1) r3 r4 r5 r6 r7 r8 none none) S2 :=
    (evS_for (evI_rng1 (n := 3) ev_intN (by decide))).trans f1
  obtain ⟨w, S3, g1, g2, g3⟩ := lg_l2 (sc := .rl (ns.map U.int)) (a3 := r3) (a4 := r4) (a5 := r5) (a6 := r6) (a7 := r7) (a8 := r8) f2 (by simp)
  have gw : (U.tup ((mat 8 w).map rowU)) = webU (mat 8 w) := rfl
  have st3 : evS T35 FU c_law_s3 (lgR (.rl (ns.map U.int)) (S.length + 1) r3 r4 r5 r6 r7 r8 none none) S2 = .nx [some (.rl (ns.map U.int)), some (.obj (S.length + 1)), some wordsU, r3, r4, r5, r6, r7, r8, some (webU (mat 8 w)), none, none, none] S3 := by
    refine evS_asgN (u := webU (mat 8 w)) ?_
    rw [ev, evs_cons' (ev_tmp g1) evs_nil']
    simp only [Res.bind, bi_tuple_tl, ofO, gw]
  have st4 : evS T35 FU c_law_s4 [some (.rl (ns.map U.int)), some (.obj (S.length + 1)), some wordsU, r3, r4, r5, r6, r7, r8, some (webU (mat 8 w)), none, none, none] S3 = .nx [some (.rl (ns.map U.int)), some (.obj (S.length + 1)), some wordsU, r3, r4, r5, r6, r7, r8, some (webU (mat 8 w)), some (webU (mat 8 (thinF w))), none, none] S3 := by
    have z1 : (1 : Nat) ≤ sizeLine := sz_of (by omega)
    refine evS_asgN (u := webU (mat 8 (thinF w))) ?_
    simp only [evSs, evS, ev, evs, evB, evO, evN_lst, evN_listOf, evN_cat, evI, Res.bind, Res.toS, SR.andThen, ofO, ofS, asgT, asgTs, List.getElem?_cons_zero, List.getElem?_cons_succ, List.set_cons_zero, List.set_cons_succ, Option.map_some, Option.map_none, Option.bind_some, Option.bind_none, List.length_cons, List.length_nil, if_true, if_false, SR.res, Bool.not_true, Bool.not_false, Bool.false_eq_true, wipeR, List.map_cons, List.map_nil, cmp_eqI, cmp_neI, cmpS_eq, cmpS_ne, cmpI_lt, cmpI_le, cmpI_gt, cmpI_ge, Bool.not_eq_true, decide_true, decide_false, Nat.zero_add, z1, thin_eq, zero8, thin_bin]
  have M := g3.mok (by decide) (by decide)
  have M2 : MOk 8 (thinF w) := ⟨by decide, by decide, fun a b ha hb => by
    unfold thinF
    by_cases q : a = 7
    · rw [if_pos q]; exact Int.le_refl 0
    · rw [if_neg q]; exact M.nn a b ha hb⟩
  refine ⟨S3, ?_⟩
  have st5 : evS T35 FU c_law_s5 [some (.rl (ns.map U.int)), some (.obj (S.length + 1)), some wordsU, r3, r4, r5, r6, r7, r8, some (webU (mat 8 w)), some (webU (mat 8 (thinF w))), none, none] S3 = .rt (.bl true) S3 := by
    refine evS_ret (ev_bop.trans ((evB_go (S1 := S3) ?_).trans (evB_last.trans ?_)))
    · rw [ev, (ev_callF d_law___law_told t_law___law_told (evs_cons' (ev_varN rfl) evs_nil')).trans (e_told_great M g2 rfl)]
      simp only [Res.bind]
      rw [ev]
      rfl
    · rw [ev, (ev_callF d_law___law_told t_law___law_told (evs_cons' (ev_varN rfl) evs_nil')).trans (e_told_no M2 thin_no)]
      simp only [Res.bind]
      rw [ev]
      rfl
  rw [x_law, evSs_cons st0, evSs_cons st1, evSs_cons st2, evSs_cons st3, evSs_cons st4, evSs_rt st5, SR.res]
end
end K

set_option Elab.async false
set_option linter.all false
set_option maxRecDepth 100000
set_option maxHeartbeats 0
namespace HdX
open PySem PySem.Spec PyProof.Rows L2
def top (i : Nat) : Stmt := PySem.Challenge.pw_laidroads_k49_one_place_more.main.body.getD i (.Pass ⟨0, 0, 0, 0⟩)
def dOf (i : Nat) (x : Str) : He.DefD := ⟨(x, none), x, x, defArgs (top i), defBody (top i), defScope (top i), [], []⟩
def inC (s : Stmt) (j : Nat) : Stmt := match s with
  | .ClassDef _ _ _ b _ _ _ _ _ _ _ => b.getD j (.Pass ⟨0, 0, 0, 0⟩)
  | _ => .Pass ⟨0, 0, 0, 0⟩
def dMe (i j : Nat) (C m q : Str) : He.DefD := ⟨(C, some m), m, q, defArgs (inC (top i) j), defBody (inC (top i) j), defScope (inC (top i) j), [], []⟩
def fn : List He.DefD := [dOf 10 "is_whole", dOf 11 "is_from", dOf 12 "is_square", dOf 14 "less_ones", dOf 15 "set_row", dOf 18 "is_web", dOf 19 "need_web", dOf 23 "led", dOf 25 "is_pair", dOf 26 "turned_over", dOf 27 "put_in", dOf 30 "behind", dMe 32 0 "Bench" "__init__" "Bench.__init__", dMe 32 1 "Bench" "do" "Bench.do", dOf 33 "is_full_by", dOf 34 "need_full", dOf 35 "grow_bench", dOf 36 "more", dOf 38 "_law_spread", dOf 39 "_law_open", dOf 40 "_law_anew", dOf 41 "_law_take", dOf 42 "_law_one", dOf 43 "_law_drawn", dOf 44 "_law_web", dOf 45 "_law_rich", dOf 46 "_law_full", dOf 48 "_law_lead", dOf 50 "_law_put", dOf 52 "_law_whole", dOf 53 "_law_four", dOf 54 "_law_behind", dOf 55 "_law_along", dOf 56 "_law_told", dOf 57 "_law_is_full", dOf 58 "law"]
def fa : List He.Fa := [.glo "is_whole", .glo "is_from", .glo "is_square", .glo "less_ones", .glo "set_row", .glo "is_web", .glo "need_web", .glo "led", .glo "is_pair", .glo "turned_over", .glo "put_in", .glo "behind", .glo "is_full_by", .glo "need_full", .glo "grow_bench", .glo "more", .glo "_law_spread", .glo "_law_open", .glo "_law_anew", .glo "_law_take", .glo "_law_one", .glo "_law_drawn", .glo "_law_web", .glo "_law_rich", .glo "_law_full", .glo "_law_lead", .glo "_law_put", .glo "_law_whole", .glo "_law_four", .glo "_law_behind", .glo "_law_along", .glo "_law_told", .glo "_law_is_full", .glo "law", .free "len", .free "tuple", .free "int", .free "abs", .free "all", .free "any", .free "sum", .free "isinstance", .free "bool", .free "str", .free "list", .free "dict", .free "range", .free "enumerate", .free "zip", .free "min", .free "repr", .int "MOST_PLACES_webs" 8, .int "MOST_PLACES_deeds" 8, .glo "WORDS", .glo "Bench", .cls "Bench", .mkr "Bench", .meth "Bench" "do"]
def ts : List He.Tab := []
def ex (K : PySem.W.Frag) : Bool := Z.errB K _root_.K.ERow _root_.K.ERra _root_.K.ERra [] _root_.K.ERfl _root_.K.ERb && He.tupB K "WORDS" [.str "lead", .str "bring", .str "unlead", .str "unbring"]
def names_0 : List PySem.Str := ["RoadError", "NoWeb", "NotRich", "NotFull", "NotLevel", "TooMany", "TooGreat", "NoDeed", "is_whole", "is_from", "is_square", "flipped", "less_ones", "set_row", "MOST_PLACES_webs", "is_web", "need_web", "MOST_PLACES_deeds", "WORDS", "led", "unled", "is_pair", "turned_over", "put_in", "ends_of", "taken_out", "behind", "Bench", "is_full_by", "need_full"]
def names_1 : List PySem.Str := ["grow_bench", "more", "_law_spread", "_law_open", "_law_anew", "_law_take", "_law_one", "_law_drawn", "_law_web", "_law_rich", "_law_full", "_law_flip", "_law_lead", "_law_unlead", "_law_put", "_law_out", "_law_whole", "_law_four", "_law_behind", "_law_along", "_law_told", "_law_is_full"]
def names : List PySem.Str := names_0 ++ names_1
abbrev R : PySem.W.OpenRow := PySem.W.OpenLaw.row PySem.Challenge.rw_laidroads_k49_one_place_more
abbrev hk : PySem.W.Hook := He.hookX 5 fa fn ts [] ex
def ob (s : PySem.W.SharedT) : He.AlX := He.obsX 5 fa fn ts [] ex (HandSHeadRun.getT s)
theorem ob_eq (s : PySem.W.SharedT) : ob s = hk.obs s.abs := He.obsX_eq (HandSHeadRun.getT_eq s)
theorem run (w : World) : HandSHeadRun.RunEq R (PySem.W.view R.prog [58]) hk ob 20000 names w := by
  intro os
  kernel_rfl
end HdX


set_option maxHeartbeats 0
namespace K
open PySem PySem.Spec PyProof.Rows L2 Z
section
variable {w : World} {h : Heap} {K : PySem.W.Frag} {mg : Str → Option Value}
theorem free_ok (X : K.In h) (G : h.Ns mainGlobals mg) (c : He.SaysX HdX.fa HdX.fn HdX.ts [] HdX.ex w h K) : ∀ x, x ∈ bnames → mg x = none := by
  intro x hx
  simp only [bnames, List.mem_cons, List.not_mem_nil, or_false] at hx
  rcases hx with rfl | rfl | rfl | rfl | rfl | rfl | rfl | rfl | rfl | rfl | rfl | rfl | rfl | rfl | rfl | rfl | rfl
  · exact He.free_ok X G (c.t.d.fact 34 (f := .free "len") rfl)
  · exact He.free_ok X G (c.t.d.fact 35 (f := .free "tuple") rfl)
  · exact He.free_ok X G (c.t.d.fact 36 (f := .free "int") rfl)
  · exact He.free_ok X G (c.t.d.fact 37 (f := .free "abs") rfl)
  · exact He.free_ok X G (c.t.d.fact 38 (f := .free "all") rfl)
  · exact He.free_ok X G (c.t.d.fact 39 (f := .free "any") rfl)
  · exact He.free_ok X G (c.t.d.fact 40 (f := .free "sum") rfl)
  · exact He.free_ok X G (c.t.d.fact 41 (f := .free "isinstance") rfl)
  · exact He.free_ok X G (c.t.d.fact 42 (f := .free "bool") rfl)
  · exact He.free_ok X G (c.t.d.fact 43 (f := .free "str") rfl)
  · exact He.free_ok X G (c.t.d.fact 44 (f := .free "list") rfl)
  · exact He.free_ok X G (c.t.d.fact 45 (f := .free "dict") rfl)
  · exact He.free_ok X G (c.t.d.fact 46 (f := .free "range") rfl)
  · exact He.free_ok X G (c.t.d.fact 47 (f := .free "enumerate") rfl)
  · exact He.free_ok X G (c.t.d.fact 48 (f := .free "zip") rfl)
  · exact He.free_ok X G (c.t.d.fact 49 (f := .free "min") rfl)
  · exact He.free_ok X G (c.t.d.fact 50 (f := .free "repr") rfl)
theorem glo0 (X : K.In h) (G : h.Ns mainGlobals mg) (c : He.SaysX HdX.fa HdX.fn HdX.ts [] HdX.ex w h K) : Glo w K mg T0 := by
  have ex := c.more
  unfold HdX.ex at ex
  obtain ⟨x1, x2⟩ := He.ba ex
  refine ⟨free_ok X G c, fun x u hx => ?_, fun x d hx => (by cases hx), ?_⟩
  · replace hx : (if x = "MOST_PLACES_webs" then some (U.int 8) else if x = "MOST_PLACES_deeds" then some (U.int 8) else if x = "WORDS" then some (.tup [.str "lead", .str "bring", .str "unlead", .str "unbring"]) else none) = some u := hx
    by_cases q : x = "MOST_PLACES_webs"
    · subst q
      rw [if_pos rfl] at hx
      cases hx
      obtain ⟨t, e⟩ := He.int_ok X G (c.t.d.fact 51 (f := .int "MOST_PLACES_webs" 8) rfl)
      exact ⟨.int 8, _, e, ⟨t, rfl⟩, fun _ _ _ _ => .int 8⟩
    · rw [if_neg q] at hx
      by_cases q1 : x = "MOST_PLACES_deeds"
      · subst q1
        rw [if_pos rfl] at hx
        cases hx
        obtain ⟨t, e⟩ := He.int_ok X G (c.t.d.fact 52 (f := .int "MOST_PLACES_deeds" 8) rfl)
        exact ⟨.int 8, _, e, ⟨t, rfl⟩, fun _ _ _ _ => .int 8⟩
      · rw [if_neg q1] at hx
        by_cases q2 : x = "WORDS"
        · subst q2
          rw [if_pos rfl] at hx
          cases hx
          exact ⟨.ref (He.ga K "WORDS"), _, He.glo_ok X G (c.t.d.fact 53 (f := .glo "WORDS") rfl), rfl, fun _ _ _ H => .tup (He.tupB_ok x2 H) (.cons (.str _) (.cons (.str _) (.cons (.str _) (.cons (.str _) .nil))))⟩
        · rw [if_neg q2] at hx; cases hx
  · exact errIn_of X G x1 (fun p hp => by cases hp) (fun C _ => rfl) (fun p hp => by cases hp) (by decide +kernel) (by decide +kernel)
      (fun C hC => by simpa [T0] using hC) (fun D C v hv => by
        replace hv : (if D ∈ ERra ∧ C ∈ ERow then some (ERb D C) else none) = some v := hv
        by_cases q : D ∈ ERra ∧ C ∈ ERow
        · rw [if_pos q] at hv
          cases hv
          exact ⟨q.1, by simpa using q.2, rfl⟩
        · rw [if_neg q] at hv; cases hv) (fun C hC => of_decide_eq_true hC) (fun C g hC => of_decide_eq_true hC)
theorem law_ok (X : K.In h) (G : h.Ns mainGlobals mg) (c : He.SaysX HdX.fa HdX.fn HdX.ts [] HdX.ex w h K) {P : Program} : ∃ fd : FuncData, (∀ (s : Shared) (u : Value), BindsTo s fd ⟨[u], []⟩ [("_law_script", u)]) ∧
    ∀ base : Heap, K.In base → base.Ns mainGlobals mg → ZG.FnG P w K mg base 38 (He.ga K "law") fd ["_law_script"] (SpF K mg f_law) := by
  obtain ⟨e0, F0⟩ := c.t.d.def_ 0 (d := HdX.dOf 10 "is_whole") rfl
  replace F0 : FunD K "is_whole" "is_whole" (defArgs (top 10)) (defBody (top 10)) (defScope (top 10)) [] [] (He.ga K "is_whole") e0 := F0
  obtain ⟨e1, F1⟩ := c.t.d.def_ 1 (d := HdX.dOf 11 "is_from") rfl
  replace F1 : FunD K "is_from" "is_from" (defArgs (top 11)) (defBody (top 11)) (defScope (top 11)) [] [] (He.ga K "is_from") e1 := F1
  obtain ⟨e2, F2⟩ := c.t.d.def_ 2 (d := HdX.dOf 12 "is_square") rfl
  replace F2 : FunD K "is_square" "is_square" (defArgs (top 12)) (defBody (top 12)) (defScope (top 12)) [] [] (He.ga K "is_square") e2 := F2
  obtain ⟨e3, F3⟩ := c.t.d.def_ 3 (d := HdX.dOf 14 "less_ones") rfl
  replace F3 : FunD K "less_ones" "less_ones" (defArgs (top 14)) (defBody (top 14)) (defScope (top 14)) [] [] (He.ga K "less_ones") e3 := F3
  obtain ⟨e4, F4⟩ := c.t.d.def_ 4 (d := HdX.dOf 15 "set_row") rfl
  replace F4 : FunD K "set_row" "set_row" (defArgs (top 15)) (defBody (top 15)) (defScope (top 15)) [] [] (He.ga K "set_row") e4 := F4
  obtain ⟨e5, F5⟩ := c.t.d.def_ 5 (d := HdX.dOf 18 "is_web") rfl
  replace F5 : FunD K "is_web" "is_web" (defArgs (top 18)) (defBody (top 18)) (defScope (top 18)) [] [] (He.ga K "is_web") e5 := F5
  obtain ⟨e6, F6⟩ := c.t.d.def_ 6 (d := HdX.dOf 19 "need_web") rfl
  replace F6 : FunD K "need_web" "need_web" (defArgs (top 19)) (defBody (top 19)) (defScope (top 19)) [] [] (He.ga K "need_web") e6 := F6
  obtain ⟨e7, F7⟩ := c.t.d.def_ 7 (d := HdX.dOf 23 "led") rfl
  replace F7 : FunD K "led" "led" (defArgs (top 23)) (defBody (top 23)) (defScope (top 23)) [] [] (He.ga K "led") e7 := F7
  obtain ⟨e8, F8⟩ := c.t.d.def_ 8 (d := HdX.dOf 25 "is_pair") rfl
  replace F8 : FunD K "is_pair" "is_pair" (defArgs (top 25)) (defBody (top 25)) (defScope (top 25)) [] [] (He.ga K "is_pair") e8 := F8
  obtain ⟨e9, F9⟩ := c.t.d.def_ 9 (d := HdX.dOf 26 "turned_over") rfl
  replace F9 : FunD K "turned_over" "turned_over" (defArgs (top 26)) (defBody (top 26)) (defScope (top 26)) [] [] (He.ga K "turned_over") e9 := F9
  obtain ⟨e10, F10⟩ := c.t.d.def_ 10 (d := HdX.dOf 27 "put_in") rfl
  replace F10 : FunD K "put_in" "put_in" (defArgs (top 27)) (defBody (top 27)) (defScope (top 27)) [] [] (He.ga K "put_in") e10 := F10
  obtain ⟨e11, F11⟩ := c.t.d.def_ 11 (d := HdX.dOf 30 "behind") rfl
  replace F11 : FunD K "behind" "behind" (defArgs (top 30)) (defBody (top 30)) (defScope (top 30)) [] [] (He.ga K "behind") e11 := F11
  obtain ⟨e12, F12⟩ := c.t.d.def_ 12 (d := HdX.dMe 32 0 "Bench" "__init__" "Bench.__init__") rfl
  replace F12 : FunD K "__init__" "Bench.__init__" (defArgs (inC (top 32) 0)) (defBody (inC (top 32) 0)) (defScope (inC (top 32) 0)) [] [] (He.ma K (He.ga K "Bench") "__init__") e12 := F12
  obtain ⟨e13, F13⟩ := c.t.d.def_ 13 (d := HdX.dMe 32 1 "Bench" "do" "Bench.do") rfl
  replace F13 : FunD K "do" "Bench.do" (defArgs (inC (top 32) 1)) (defBody (inC (top 32) 1)) (defScope (inC (top 32) 1)) [] [] (He.ma K (He.ga K "Bench") "do") e13 := F13
  obtain ⟨e14, F14⟩ := c.t.d.def_ 14 (d := HdX.dOf 33 "is_full_by") rfl
  replace F14 : FunD K "is_full_by" "is_full_by" (defArgs (top 33)) (defBody (top 33)) (defScope (top 33)) [] [] (He.ga K "is_full_by") e14 := F14
  obtain ⟨e15, F15⟩ := c.t.d.def_ 15 (d := HdX.dOf 34 "need_full") rfl
  replace F15 : FunD K "need_full" "need_full" (defArgs (top 34)) (defBody (top 34)) (defScope (top 34)) [] [] (He.ga K "need_full") e15 := F15
  obtain ⟨e16, F16⟩ := c.t.d.def_ 16 (d := HdX.dOf 35 "grow_bench") rfl
  replace F16 : FunD K "grow_bench" "grow_bench" (defArgs (top 35)) (defBody (top 35)) (defScope (top 35)) [] [] (He.ga K "grow_bench") e16 := F16
  obtain ⟨e17, F17⟩ := c.t.d.def_ 17 (d := HdX.dOf 36 "more") rfl
  replace F17 : FunD K "more" "more" (defArgs (top 36)) (defBody (top 36)) (defScope (top 36)) [] [] (He.ga K "more") e17 := F17
  obtain ⟨e18, F18⟩ := c.t.d.def_ 18 (d := HdX.dOf 38 "_law_spread") rfl
  replace F18 : FunD K "_law_spread" "_law_spread" (defArgs (top 38)) (defBody (top 38)) (defScope (top 38)) [] [] (He.ga K "_law_spread") e18 := F18
  obtain ⟨e19, F19⟩ := c.t.d.def_ 19 (d := HdX.dOf 39 "_law_open") rfl
  replace F19 : FunD K "_law_open" "_law_open" (defArgs (top 39)) (defBody (top 39)) (defScope (top 39)) [] [] (He.ga K "_law_open") e19 := F19
  obtain ⟨e20, F20⟩ := c.t.d.def_ 20 (d := HdX.dOf 40 "_law_anew") rfl
  replace F20 : FunD K "_law_anew" "_law_anew" (defArgs (top 40)) (defBody (top 40)) (defScope (top 40)) [] [] (He.ga K "_law_anew") e20 := F20
  obtain ⟨e21, F21⟩ := c.t.d.def_ 21 (d := HdX.dOf 41 "_law_take") rfl
  replace F21 : FunD K "_law_take" "_law_take" (defArgs (top 41)) (defBody (top 41)) (defScope (top 41)) [] [] (He.ga K "_law_take") e21 := F21
  obtain ⟨e22, F22⟩ := c.t.d.def_ 22 (d := HdX.dOf 42 "_law_one") rfl
  replace F22 : FunD K "_law_one" "_law_one" (defArgs (top 42)) (defBody (top 42)) (defScope (top 42)) [] [] (He.ga K "_law_one") e22 := F22
  obtain ⟨e23, F23⟩ := c.t.d.def_ 23 (d := HdX.dOf 43 "_law_drawn") rfl
  replace F23 : FunD K "_law_drawn" "_law_drawn" (defArgs (top 43)) (defBody (top 43)) (defScope (top 43)) [] [] (He.ga K "_law_drawn") e23 := F23
  obtain ⟨e24, F24⟩ := c.t.d.def_ 24 (d := HdX.dOf 44 "_law_web") rfl
  replace F24 : FunD K "_law_web" "_law_web" (defArgs (top 44)) (defBody (top 44)) (defScope (top 44)) [] [] (He.ga K "_law_web") e24 := F24
  obtain ⟨e25, F25⟩ := c.t.d.def_ 25 (d := HdX.dOf 45 "_law_rich") rfl
  replace F25 : FunD K "_law_rich" "_law_rich" (defArgs (top 45)) (defBody (top 45)) (defScope (top 45)) [] [] (He.ga K "_law_rich") e25 := F25
  obtain ⟨e26, F26⟩ := c.t.d.def_ 26 (d := HdX.dOf 46 "_law_full") rfl
  replace F26 : FunD K "_law_full" "_law_full" (defArgs (top 46)) (defBody (top 46)) (defScope (top 46)) [] [] (He.ga K "_law_full") e26 := F26
  obtain ⟨e27, F27⟩ := c.t.d.def_ 27 (d := HdX.dOf 48 "_law_lead") rfl
  replace F27 : FunD K "_law_lead" "_law_lead" (defArgs (top 48)) (defBody (top 48)) (defScope (top 48)) [] [] (He.ga K "_law_lead") e27 := F27
  obtain ⟨e28, F28⟩ := c.t.d.def_ 28 (d := HdX.dOf 50 "_law_put") rfl
  replace F28 : FunD K "_law_put" "_law_put" (defArgs (top 50)) (defBody (top 50)) (defScope (top 50)) [] [] (He.ga K "_law_put") e28 := F28
  obtain ⟨e29, F29⟩ := c.t.d.def_ 29 (d := HdX.dOf 52 "_law_whole") rfl
  replace F29 : FunD K "_law_whole" "_law_whole" (defArgs (top 52)) (defBody (top 52)) (defScope (top 52)) [] [] (He.ga K "_law_whole") e29 := F29
  obtain ⟨e30, F30⟩ := c.t.d.def_ 30 (d := HdX.dOf 53 "_law_four") rfl
  replace F30 : FunD K "_law_four" "_law_four" (defArgs (top 53)) (defBody (top 53)) (defScope (top 53)) [] [] (He.ga K "_law_four") e30 := F30
  obtain ⟨e31, F31⟩ := c.t.d.def_ 31 (d := HdX.dOf 54 "_law_behind") rfl
  replace F31 : FunD K "_law_behind" "_law_behind" (defArgs (top 54)) (defBody (top 54)) (defScope (top 54)) [] [] (He.ga K "_law_behind") e31 := F31
  obtain ⟨e32, F32⟩ := c.t.d.def_ 32 (d := HdX.dOf 55 "_law_along") rfl
  replace F32 : FunD K "_law_along" "_law_along" (defArgs (top 55)) (defBody (top 55)) (defScope (top 55)) [] [] (He.ga K "_law_along") e32 := F32
  obtain ⟨e33, F33⟩ := c.t.d.def_ 33 (d := HdX.dOf 56 "_law_told") rfl
  replace F33 : FunD K "_law_told" "_law_told" (defArgs (top 56)) (defBody (top 56)) (defScope (top 56)) [] [] (He.ga K "_law_told") e33 := F33
  obtain ⟨e34, F34⟩ := c.t.d.def_ 34 (d := HdX.dOf 57 "_law_is_full") rfl
  replace F34 : FunD K "_law_is_full" "_law_is_full" (defArgs (top 57)) (defBody (top 57)) (defScope (top 57)) [] [] (He.ga K "_law_is_full") e34 := F34
  obtain ⟨e35, F35⟩ := c.t.d.def_ 35 (d := HdX.dOf 58 "law") rfl
  replace F35 : FunD K "law" "law" (defArgs (top 58)) (defBody (top 58)) (defScope (top 58)) [] [] (He.ga K "law") e35 := F35
  refine ⟨e35, fun s u => (FunD.bindsA (ps := ["_law_script"]) F35 fun _ _ _ _ _ _ us hl => match us, hl with | [_], _ => rfl) s [u] rfl, fun base hb hn => ?_⟩
  have g0 : Glo w K mg T0 := glo0 X G c
  have t0 : Tab P w K mg base 0 T0 := ⟨fun f hf => (by cases hf), fun C m hf => (by cases hf)⟩
  have d0 : DefIn P w K mg base 1 "is_whole" f_is_whole := defInE (F := FU) F0 (He.glo_ok X G (c.t.d.fact 0 (f := .glo "is_whole") rfl)) (F0.bindsN fun _ _ _ _ _ _ us hl => match us, hl with | [_], _ => rfl) s_is_whole g0 t0 m_is_whole
  have t1 : Tab P w K mg base 1 T1 := t0.add d0
  have g1 : Glo w K mg T1 := g0.add
  have d1 : DefIn P w K mg base 2 "is_from" f_is_from := defInE (F := FU) F1 (He.glo_ok X G (c.t.d.fact 1 (f := .glo "is_from") rfl)) (F1.bindsN fun _ _ _ _ _ _ us hl => match us, hl with | [_, _], _ => rfl) s_is_from g1 t1 m_is_from
  have t2 : Tab P w K mg base 2 T2 := t1.add d1
  have g2 : Glo w K mg T2 := g1.add
  have d2 : DefIn P w K mg base 3 "is_square" f_is_square := defInE (F := FU) F2 (He.glo_ok X G (c.t.d.fact 2 (f := .glo "is_square") rfl)) (F2.bindsN fun _ _ _ _ _ _ us hl => match us, hl with | [_, _], _ => rfl) s_is_square g2 t2 m_is_square
  have t3 : Tab P w K mg base 3 T3 := t2.add d2
  have g3 : Glo w K mg T3 := g2.add
  have d3 : DefIn P w K mg base 4 "less_ones" f_less_ones := defInE (F := FU) F3 (He.glo_ok X G (c.t.d.fact 3 (f := .glo "less_ones") rfl)) (F3.bindsN fun _ _ _ _ _ _ us hl => match us, hl with | [_], _ => rfl) s_less_ones g3 t3 m_less_ones
  have t4 : Tab P w K mg base 4 T4 := t3.add d3
  have g4 : Glo w K mg T4 := g3.add
  have d4 : DefIn P w K mg base 5 "set_row" f_set_row := defInE (F := FU) F4 (He.glo_ok X G (c.t.d.fact 4 (f := .glo "set_row") rfl)) (F4.bindsN fun _ _ _ _ _ _ us hl => match us, hl with | [_, _, _], _ => rfl) s_set_row g4 t4 m_set_row
  have t5 : Tab P w K mg base 5 T5 := t4.add d4
  have g5 : Glo w K mg T5 := g4.add
  have d5 : DefIn P w K mg base 6 "is_web" f_is_web := defInE (F := FU) F5 (He.glo_ok X G (c.t.d.fact 5 (f := .glo "is_web") rfl)) (F5.bindsN fun _ _ _ _ _ _ us hl => match us, hl with | [_], _ => rfl) s_is_web g5 t5 m_is_web
  have t6 : Tab P w K mg base 6 T6 := t5.add d5
  have g6 : Glo w K mg T6 := g5.add
  have d6 : DefIn P w K mg base 7 "need_web" f_need_web := defInE (F := FU) F6 (He.glo_ok X G (c.t.d.fact 6 (f := .glo "need_web") rfl)) (F6.bindsN fun _ _ _ _ _ _ us hl => match us, hl with | [_], _ => rfl) s_need_web g6 t6 m_need_web
  have t7 : Tab P w K mg base 7 T7 := t6.add d6
  have g7 : Glo w K mg T7 := g6.add
  have d7 : DefIn P w K mg base 8 "led" f_led := defInE (F := FU) F7 (He.glo_ok X G (c.t.d.fact 7 (f := .glo "led") rfl)) (F7.bindsN fun _ _ _ _ _ _ us hl => match us, hl with | [_, _, _, _], _ => rfl) s_led g7 t7 m_led
  have t8 : Tab P w K mg base 8 T8 := t7.add d7
  have g8 : Glo w K mg T8 := g7.add
  have d8 : DefIn P w K mg base 9 "is_pair" f_is_pair := defInE (F := FU) F8 (He.glo_ok X G (c.t.d.fact 8 (f := .glo "is_pair") rfl)) (F8.bindsN fun _ _ _ _ _ _ us hl => match us, hl with | [_, _, _], _ => rfl) s_is_pair g8 t8 m_is_pair
  have t9 : Tab P w K mg base 9 T9 := t8.add d8
  have g9 : Glo w K mg T9 := g8.add
  have d9 : DefIn P w K mg base 10 "turned_over" f_turned_over := defInE (F := FU) F9 (He.glo_ok X G (c.t.d.fact 9 (f := .glo "turned_over") rfl)) (F9.bindsN fun _ _ _ _ _ _ us hl => match us, hl with | [_, _, _, _, _], _ => rfl) s_turned_over g9 t9 m_turned_over
  have t10 : Tab P w K mg base 10 T10 := t9.add d9
  have g10 : Glo w K mg T10 := g9.add
  have d10 : DefIn P w K mg base 11 "put_in" f_put_in := defInE (F := FU) F10 (He.glo_ok X G (c.t.d.fact 10 (f := .glo "put_in") rfl)) (F10.bindsN fun _ _ _ _ _ _ us hl => match us, hl with | [_, _, _, _], _ => rfl) s_put_in g10 t10 m_put_in
  have t11 : Tab P w K mg base 11 T11 := t10.add d10
  have g11 : Glo w K mg T11 := g10.add
  have d11 : DefIn P w K mg base 12 "behind" f_behind := defInE (F := FU) F11 (He.glo_ok X G (c.t.d.fact 11 (f := .glo "behind") rfl)) (F11.bindsN fun _ _ _ _ _ _ us hl => match us, hl with | [_, _], _ => rfl) s_behind g11 t11 m_behind
  have t12 : Tab P w K mg base 12 T12 := t11.add d11
  have g12 : Glo w K mg T12 := g11.add
  have d12 : MethIn P w K mg base 14 "Bench" "__init__" ([] : List Str) f_Bench____init__ := methInE (F := FU) F12 (He.glo_ok X G (c.t.d.fact 54 (f := .glo "Bench") rfl)) (He.cls_ok (c.t.d.fact 55 (f := .cls "Bench") rfl)) (by rw [if_pos rfl]; exact He.mkr_ok (c.t.d.fact 56 (f := .mkr "Bench") rfl)) (by decide) (Z.FunD.bindsG (n := 2) (ps := P_Bench____init__) (ks := ([] : List Str)) F12 fun _ _ _ _ _ _ us ws h1 h2 => match us, ws, h1, h2 with | [_, _], [], _, _ => rfl) s_Bench____init__ g12 t12 m_Bench____init__
  have t13 : Tab P w K mg base 14 T13 := t12.addM d12
  have g13 : Glo w K mg T13 := g12.addM
  have d13 : MethIn P w K mg base 16 "Bench" "do" (["word", "parts"] : List Str) f_Bench__do := methInE (F := FU) F13 (He.glo_ok X G (c.t.d.fact 54 (f := .glo "Bench") rfl)) (He.cls_ok (c.t.d.fact 55 (f := .cls "Bench") rfl)) (by rw [if_neg (by decide +kernel)]; exact He.meth_ok (c.t.d.fact 57 (f := .meth "Bench" "do") rfl)) (by decide) (Z.FunD.bindsG (n := 1) (ps := P_Bench__do) (ks := (["word", "parts"] : List Str)) F13 fun _ _ _ _ _ _ us ws h1 h2 => match us, ws, h1, h2 with | [_], [_, _], _, _ => rfl) s_Bench__do g13 t13 m_Bench__do
  have t14 : Tab P w K mg base 16 T14 := t13.addM d13
  have g14 : Glo w K mg T14 := g13.addM
  have d14 : DefIn P w K mg base 17 "is_full_by" f_is_full_by := defInE (F := FU) F14 (He.glo_ok X G (c.t.d.fact 12 (f := .glo "is_full_by") rfl)) (F14.bindsN fun _ _ _ _ _ _ us hl => match us, hl with | [_], _ => rfl) s_is_full_by g14 t14 m_is_full_by
  have t15 : Tab P w K mg base 17 T15 := t14.add d14
  have g15 : Glo w K mg T15 := g14.add
  have d15 : DefIn P w K mg base 18 "need_full" f_need_full := defInE (F := FU) F15 (He.glo_ok X G (c.t.d.fact 13 (f := .glo "need_full") rfl)) (F15.bindsN fun _ _ _ _ _ _ us hl => match us, hl with | [_], _ => rfl) s_need_full g15 t15 m_need_full
  have t16 : Tab P w K mg base 18 T16 := t15.add d15
  have g16 : Glo w K mg T16 := g15.add
  have d16 : DefIn P w K mg base 19 "grow_bench" f_grow_bench := defInE (F := FU) F16 (He.glo_ok X G (c.t.d.fact 14 (f := .glo "grow_bench") rfl)) (F16.bindsN fun _ _ _ _ _ _ us hl => match us, hl with | [_], _ => rfl) s_grow_bench g16 t16 m_grow_bench
  have t17 : Tab P w K mg base 19 T17 := t16.add d16
  have g17 : Glo w K mg T17 := g16.add
  have d17 : DefIn P w K mg base 20 "more" f_more := defInE (F := FU) F17 (He.glo_ok X G (c.t.d.fact 15 (f := .glo "more") rfl)) (F17.bindsN fun _ _ _ _ _ _ us hl => match us, hl with | [_], _ => rfl) s_more g17 t17 m_more
  have t18 : Tab P w K mg base 20 T18 := t17.add d17
  have g18 : Glo w K mg T18 := g17.add
  have d18 : DefIn P w K mg base 21 "_law_spread" f__law_spread := defInE (F := FU) F18 (He.glo_ok X G (c.t.d.fact 16 (f := .glo "_law_spread") rfl)) (F18.bindsN fun _ _ _ _ _ _ us hl => match us, hl with | [_, _], _ => rfl) s__law_spread g18 t18 m__law_spread
  have t19 : Tab P w K mg base 21 T19 := t18.add d18
  have g19 : Glo w K mg T19 := g18.add
  have d19 : DefIn P w K mg base 22 "_law_open" f__law_open := defInE (F := FU) F19 (He.glo_ok X G (c.t.d.fact 17 (f := .glo "_law_open") rfl)) (F19.bindsN fun _ _ _ _ _ _ us hl => match us, hl with | [_], _ => rfl) s__law_open g19 t19 m__law_open
  have t20 : Tab P w K mg base 22 T20 := t19.add d19
  have g20 : Glo w K mg T20 := g19.add
  have d20 : DefIn P w K mg base 23 "_law_anew" f__law_anew := defInE (F := FU) F20 (He.glo_ok X G (c.t.d.fact 18 (f := .glo "_law_anew") rfl)) (F20.bindsN fun _ _ _ _ _ _ us hl => match us, hl with | [_], _ => rfl) s__law_anew g20 t20 m__law_anew
  have t21 : Tab P w K mg base 23 T21 := t20.add d20
  have g21 : Glo w K mg T21 := g20.add
  have d21 : DefIn P w K mg base 24 "_law_take" f__law_take := defInE (F := FU) F21 (He.glo_ok X G (c.t.d.fact 19 (f := .glo "_law_take") rfl)) (F21.bindsN fun _ _ _ _ _ _ us hl => match us, hl with | [_, _], _ => rfl) s__law_take g21 t21 m__law_take
  have t22 : Tab P w K mg base 24 T22 := t21.add d21
  have g22 : Glo w K mg T22 := g21.add
  have d22 : DefIn P w K mg base 25 "_law_one" f__law_one := defInE (F := FU) F22 (He.glo_ok X G (c.t.d.fact 20 (f := .glo "_law_one") rfl)) (F22.bindsN fun _ _ _ _ _ _ us hl => match us, hl with | [_, _], _ => rfl) s__law_one g22 t22 m__law_one
  have t23 : Tab P w K mg base 25 T23 := t22.add d22
  have g23 : Glo w K mg T23 := g22.add
  have d23 : DefIn P w K mg base 26 "_law_drawn" f__law_drawn := defInE (F := FU) F23 (He.glo_ok X G (c.t.d.fact 21 (f := .glo "_law_drawn") rfl)) (F23.bindsN fun _ _ _ _ _ _ us hl => match us, hl with | [_, _], _ => rfl) s__law_drawn g23 t23 m__law_drawn
  have t24 : Tab P w K mg base 26 T24 := t23.add d23
  have g24 : Glo w K mg T24 := g23.add
  have d24 : DefIn P w K mg base 27 "_law_web" f__law_web := defInE (F := FU) F24 (He.glo_ok X G (c.t.d.fact 22 (f := .glo "_law_web") rfl)) (F24.bindsN fun _ _ _ _ _ _ us hl => match us, hl with | [_, _, _], _ => rfl) s__law_web g24 t24 m__law_web
  have t25 : Tab P w K mg base 27 T25 := t24.add d24
  have g25 : Glo w K mg T25 := g24.add
  have d25 : DefIn P w K mg base 28 "_law_rich" f__law_rich := defInE (F := FU) F25 (He.glo_ok X G (c.t.d.fact 23 (f := .glo "_law_rich") rfl)) (F25.bindsN fun _ _ _ _ _ _ us hl => match us, hl with | [_, _, _], _ => rfl) s__law_rich g25 t25 m__law_rich
  have t26 : Tab P w K mg base 28 T26 := t25.add d25
  have g26 : Glo w K mg T26 := g25.add
  have d26 : DefIn P w K mg base 29 "_law_full" f__law_full := defInE (F := FU) F26 (He.glo_ok X G (c.t.d.fact 24 (f := .glo "_law_full") rfl)) (F26.bindsN fun _ _ _ _ _ _ us hl => match us, hl with | [_, _, _], _ => rfl) s__law_full g26 t26 m__law_full
  have t27 : Tab P w K mg base 29 T27 := t26.add d26
  have g27 : Glo w K mg T27 := g26.add
  have d27 : DefIn P w K mg base 30 "_law_lead" f__law_lead := defInE (F := FU) F27 (He.glo_ok X G (c.t.d.fact 25 (f := .glo "_law_lead") rfl)) (F27.bindsN fun _ _ _ _ _ _ us hl => match us, hl with | [_, _, _, _], _ => rfl) s__law_lead g27 t27 m__law_lead
  have t28 : Tab P w K mg base 30 T28 := t27.add d27
  have g28 : Glo w K mg T28 := g27.add
  have d28 : DefIn P w K mg base 31 "_law_put" f__law_put := defInE (F := FU) F28 (He.glo_ok X G (c.t.d.fact 26 (f := .glo "_law_put") rfl)) (F28.bindsN fun _ _ _ _ _ _ us hl => match us, hl with | [_, _, _, _], _ => rfl) s__law_put g28 t28 m__law_put
  have t29 : Tab P w K mg base 31 T29 := t28.add d28
  have g29 : Glo w K mg T29 := g28.add
  have d29 : DefIn P w K mg base 32 "_law_whole" f__law_whole := defInE (F := FU) F29 (He.glo_ok X G (c.t.d.fact 27 (f := .glo "_law_whole") rfl)) (F29.bindsN fun _ _ _ _ _ _ us hl => match us, hl with | [_, _, _], _ => rfl) s__law_whole g29 t29 m__law_whole
  have t30 : Tab P w K mg base 32 T30 := t29.add d29
  have g30 : Glo w K mg T30 := g29.add
  have d30 : DefIn P w K mg base 33 "_law_four" f__law_four := defInE (F := FU) F30 (He.glo_ok X G (c.t.d.fact 28 (f := .glo "_law_four") rfl)) (F30.bindsN fun _ _ _ _ _ _ us hl => match us, hl with | [_, _, _, _, _], _ => rfl) s__law_four g30 t30 m__law_four
  have t31 : Tab P w K mg base 33 T31 := t30.add d30
  have g31 : Glo w K mg T31 := g30.add
  have d31 : DefIn P w K mg base 34 "_law_behind" f__law_behind := defInE (F := FU) F31 (He.glo_ok X G (c.t.d.fact 29 (f := .glo "_law_behind") rfl)) (F31.bindsN fun _ _ _ _ _ _ us hl => match us, hl with | [_, _], _ => rfl) s__law_behind g31 t31 m__law_behind
  have t32 : Tab P w K mg base 34 T32 := t31.add d31
  have g32 : Glo w K mg T32 := g31.add
  have d32 : DefIn P w K mg base 35 "_law_along" f__law_along := defInE (F := FU) F32 (He.glo_ok X G (c.t.d.fact 30 (f := .glo "_law_along") rfl)) (F32.bindsN fun _ _ _ _ _ _ us hl => match us, hl with | [_, _, _], _ => rfl) s__law_along g32 t32 m__law_along
  have t33 : Tab P w K mg base 35 T33 := t32.add d32
  have g33 : Glo w K mg T33 := g32.add
  have d33 : DefIn P w K mg base 36 "_law_told" f__law_told := defInE (F := FU) F33 (He.glo_ok X G (c.t.d.fact 31 (f := .glo "_law_told") rfl)) (F33.bindsN fun _ _ _ _ _ _ us hl => match us, hl with | [_], _ => rfl) s__law_told g33 t33 m__law_told
  have t34 : Tab P w K mg base 36 T34 := t33.add d33
  have g34 : Glo w K mg T34 := g33.add
  have d34 : DefIn P w K mg base 37 "_law_is_full" f__law_is_full := defInE (F := FU) F34 (He.glo_ok X G (c.t.d.fact 32 (f := .glo "_law_is_full") rfl)) (F34.bindsN fun _ _ _ _ _ _ us hl => match us, hl with | [_], _ => rfl) s__law_is_full g34 t34 m__law_is_full
  have t35 : Tab P w K mg base 37 T35 := t34.add d34
  have g35 : Glo w K mg T35 := g34.add
  exact fnE (F := FU) F35 s_law g35 t35 m_law
end
end K
open PySem PySem.W PySem.Calls PyProof.Rows
theorem PySem.Challenge.cw_laidroads_k49_one_place_more_holds : PySem.Challenge.rw_laidroads_k49_one_place_more.Holds := by
  w_on; o_law
  refine HandSHeadRun.head_any (r := (OpenLaw.row PySem.Challenge.rw_laidroads_k49_one_place_more)) (q := view (OpenLaw.row PySem.Challenge.rw_laidroads_k49_one_place_more).prog [58]) (H := HdX.hk) (ob := HdX.ob) (M := 20000) (loose := HdX.names) (d := HandSHeadRun.topDef (OpenLaw.row PySem.Challenge.rw_laidroads_k49_one_place_more).prog 58) (kwd := []) HdX.ob_eq
    (by kernel_rfl) (fun s => by kernel_rfl) HdX.run (by kernel_rfl) (by kernel_rfl) (by kernel_rfl) (by rfl) (by first | assumption | decide +kernel) (by decide +kernel) ⟨rfl, rfl, rfl, rfl, rfl, by decide +kernel⟩ ?hw ?hc
  case hw => w_witness2
  case hc =>
    refine ZG.walkG (l := PySem.Challenge.rw_laidroads_k49_one_place_more) (n := 63) (k := 38) (x := "_law_script") rfl (by decide) (by kernel_rfl) ⟨rfl, by decide, by decide⟩ ?F
    intro w mg fa h Y G hmg0
    obtain ⟨K, KX, c⟩ := Y
    have hmg : mg ("law" : PySem.Str) = some (.ref fa) := by
      have e : (HandSHeadRun.topDef (OpenLaw.row PySem.Challenge.rw_laidroads_k49_one_place_more).prog 58).name = ("law" : PySem.Str) := by kernel_rfl
      rw [← e]
      exact hmg0
    have e := hmg.symm.trans (He.glo_ok KX G (c.t.d.fact 33 (f := .glo "law") rfl))
    cases e
    obtain ⟨fd, hb, hF⟩ := _root_.K.law_ok (P := (PySem.Challenge.rw_laidroads_k49_one_place_more).prog) KX G c
    exact ⟨K, fd, Z.SpF K mg _root_.K.f_law, KX, hb, fun H a ns hl hO hS => Z.sp_law _root_.K.e_law hO hS, hF⟩
