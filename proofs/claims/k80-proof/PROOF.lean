import PyProof.Rows.All
import Wide.All
import OpenK.AllK
import Wide.FinOn
import HandS.Zip
import HandS.Exc
import PyProof.Draws
import HandS.TupMul
import HandS.Style
import HandS.TupAny
import HandS.List
import PyProof.WalkInts
import HandS.Call
import PyProof.ReprRoads
import HandS.ForMost
import HandS.ExcOwn
import HandS.WordsExc
import HandS.Defaults
import HandS.Ends
import HandS.HeadEnd
import HandS.Wide
import HandS.IsInst
import HandS.CallLocal
import HandS.More
import PyProof.ReprLen
import KE.KStateDown
import Lean
import HandS.Head0
import HandS.Head1
import HandS.Head2
import HandS.HeadHook1
import HandS.HeadHook2
import HandS.HeadHook3
import HandS.HeadHook4
import PySem.Challenge.RW_laidroads_k80_papers_of_worths
set_option Elab.async false
set_option linter.all false
set_option maxRecDepth 100000
set_option maxHeartbeats 1600000
/-! X1: zip(a, b, strict=True) of two tuples of one length. -/
namespace ZS
open PySem
open PySem.Sem (wp)
section
variable {prog : Program} {w : World} {A : Around} {E : Value → Shared → Prop} {s : Shared}
theorem tyKw {T newId : String} {Bn : Builtin} {args : List Value} {kw : List (Str × Value)} {S : Spec} {Q : Value → Shared → Prop} (ft : TypeCalled T newId "object.__init__")
    (hne : (some newId != some "object.__new__") = true) (hct : checkTypeCall T ⟨args, kw⟩ = pure ()) (hcn : checkBuiltinCall newId ⟨.type T :: args, kw⟩ = pure ())
    (entryN : entryFor table newId = some Bn) (g : Meets (Bn ⟨.type T :: args, kw⟩) S)
    (hok : ∀ obj, argsOk "object.__init__" ⟨obj :: args, kw⟩) (gi : ∀ obj, Meets (Builtin.«object.__init__» ⟨obj :: args, kw⟩) (fun _ R s => s.TypeIs obj T ∧ R (.ok (.ret .none)) s))
    (h : S A.in1 (wants (fun obj s₁ => s₁.TypeIs obj T ∧ Q obj s₁) E) s) : wpAny (model prog w) A (call (.type T) args kw) Q E s := by
  obtain ⟨c, tl, hmro⟩ := ft.mro
  have hmade := ft.made
  have hsub := ft.sub
  refine wpAny_call (codeAny_of_tree ?_)
  show wpAny _ _ (callAny (.type T) _) _ _ _
  refine wpAny_pure ⟨Code.quiet_builtin _ (by decide +kernel), codeAny_builtin F.entry_type_call ?_⟩
  rw [Around.under_plain (weight_type_call_type T args kw) (units_type_call_type T args kw)]
  have h1 := ft.notType
  have h2 := ft.canCreate
  repeat (any_goals (first | assumption | wp_step))
  refine codeAny_mono (codeAny_call_builtin ft.plain entryN (wpAny_of_eq hcn (g prog w A.in1 _ s h))) fun r s₁ hr => ?_
  cases r with
  | error e => exact hr
  | ok fl =>
    cases fl with
    | ret obj =>
      obtain ⟨hT, hq⟩ := hr
      have hli := ft.init.lookup
      have hbi := ft.init.bind obj
      repeat (any_goals (first | assumption | wp_step))
      refine codeAny_mono (codeAny_call_builtin ft.init.plain F.entry_object_init (ft.init.check _ _ _ _ _ _ _ _ hT (hok obj) (gi obj prog w A.in1 (wants (fun r s₂ => r = .none ∧ Q obj s₂) E) s₁ ⟨hT, rfl, hq⟩))) fun r₂ s₂ hr₂ => ?_
      cases r₂ with
      | error e => exact hr₂
      | ok fl₂ =>
        cases fl₂ with
        | ret r =>
          obtain ⟨rfl, hq⟩ := hr₂
          repeat (any_goals (first | assumption | wp_step))
        | _ => exact hr₂.elim
    | _ => exact hr.elim
end
theorem typeCall_zipS (a b c : Value) : checkTypeCall "zip" ⟨[a, b], [("strict", c)]⟩ = pure () := by kernel_rfl
theorem newCall_zipS (a b c : Value) : checkBuiltinCall "zip.__new__" ⟨[.type "zip", a, b], [("strict", c)]⟩ = pure () := by kernel_rfl
theorem args_object_initS (a b c d : Value) : argsOk "object.__init__" ⟨[a, b, c], [("strict", d)]⟩ := by
  unfold argsOk; rw [signature?_of (id := "object.__init__") (n := ['_', '_', 't', 'i', 'n', 'i', '_', '_']) (o := ['t', 'c', 'e', 'j', 'b', 'o']) (by kernel_rfl) PySem.F.owner_object]; kernel_rfl
theorem initS {T newId : String} {self a : Value} {rest : List Value} {kw : List (Str × Value)} (hl : typeLookup (.type T) "__init__" = pure (some (.builtin "object.__init__")))
    (hm : Bind.madeBy (.type T) = pure (some newId)) (hne : (some newId != some "object.__new__") = true) :
    Meets (Builtin.«object.__init__» ⟨self :: a :: rest, kw⟩) (fun _ R s => s.TypeIs self T ∧ R (.ok (.ret .none)) s) := by
  refine Meets.of_wp fun prog w A R s hs => ?_
  obtain ⟨hT, hq⟩ := hs
  repeat (any_goals (first | assumption | wp_step))
  exact ⟨_, rfl, hq⟩
abbrev IsZipS (h : Heap) (z TI TO : Addr) (f0 : Value) : Prop :=
  h.get? z = some { cls := .type "zip", dict := none, data := .fields #[f0, .bool false, .bool true, .ref TI, .ref TO], slots := #[] }
section
variable {prog : Program} {w : World} {A : Around} {E : Value → Shared → Prop} {s : Shared}
open Builtin.SmallTypes in
theorem draw_item {it l : Addr} {i : Nat} {items} {x : Value} {Q : Option Value → Shared → Prop} (hit : s.heap.IsTupleIter it l i)
    (hl : s.heap.IsTuple l items) (hx : items[i]? = some x)
    (hQ : ∀ h', h'.IsTupleIter it l (i + 1) → Heap.SameBut it s.heap h' → Q (some x) { s with heap := h' }) : wpAny (model prog w) A (nextOrEnd (.ref it)) Q E s := by
  unfold nextOrEnd
  exact wpAny_bind (wpAny_attempt (RZ.nextOf_tuple_item hit hl hx fun h' h1 h2 => wpAny_pure (hQ h' h1 h2)))
open Builtin.SmallTypes in
theorem draw_end {it l : Addr} {i : Nat} {items} {Q : Option Value → Shared → Prop} (hh : A.handled = none) (hit : s.heap.IsTupleIter it l i)
    (hl : s.heap.IsTuple l items) (hx : items[i]? = none)
    (hQ : ∀ h', Heap.ExtBut it s.heap h' → Q none { s with heap := h' }) : wpAny (model prog w) A (nextOrEnd (.ref it)) Q E s := by
  unfold nextOrEnd
  refine wpAny_bind (wpAny_attempt (RZ.nextOf_tuple_end hh hit hl hx fun h' e h1 he => ?_))
  obtain ⟨o, ho, hc⟩ := he
  refine wpAny_bind (wpAny_isInstance (T := "StopIteration") (b := true) ⟨o, ho, hc⟩ isSubtype_stop ?_)
  exact wpAny_pure (hQ _ h1)
open Builtin.SmallTypes in
theorem stops {Q : Fin → Shared → Prop} (hh : A.handled = none) (hE : ∀ h' e, (∀ c o, s.heap.get? c = some o → h'.get? c = some o) → (∃ o, h'.get? e = some o ∧ o.cls = .type "StopIteration") → E (.ref e) { s with heap := h' }) : wpAny (model prog w) A (stopIteration : Sem Fin) Q E s := by
  unfold stopIteration
  refine wpAny_bind ?_
  simp only [newExc, newTuple]
  refine wpAny_bind (wpAny_newObj_type ?_ (by size_fits))
  refine wpAny_bind (m := firstArgMember _ _) (wpAny_of_eq (a := Value.none) (by first | rfl | (simp only [firstArgMember]; rfl)) ?_)
  refine wpAny_newObj_type ?_ (by size_fits)
  simp only [raiseNew]
  refine wpAny_bind (wpAny_handled ?_)
  rw [hh]
  refine wpAny_bind (wpAny_pure (wpAny_throw ?_))
  exact hE _ _ (fun c o e => Heap.get?_push_of_some _ (Heap.get?_push_of_some _ e)) ⟨_, Heap.get?_push_size _ rfl, rfl⟩
end
end ZS

set_option Elab.async false
set_option linter.all false
set_option maxRecDepth 100000
set_option maxHeartbeats 1600000
/-! X2: zip(a, b, strict=True) of two tuples of one length: a turn, the end, the call, the walk. -/
namespace ZS
open PySem
open PySem.Sem (wp)
section
variable {prog : Program} {w : World} {A : Around} {E : Value → Shared → Prop} {s : Shared}
theorem next_item {z TI TO i1 i2 l1 l2 : Addr} {k1 k2 : Nat} {xs ys : Array Value} {x y a b : Value} {Q : Value → Shared → Prop} (D : ZipApart z TI TO i1 i2 l1 l2)
    (hz : IsZipS s.heap z TI TO .none) (hTI : IsPair s.heap TI (.ref i1) (.ref i2)) (hTO : IsPair s.heap TO a b)
    (h1 : s.heap.IsTupleIter i1 l1 k1) (h2 : s.heap.IsTupleIter i2 l2 k2) (hl1 : s.heap.IsTuple l1 xs) (hl2 : s.heap.IsTuple l2 ys) (hx : xs[k1]? = some x) (hy : ys[k2]? = some y)
    (hQ : ∀ h', IsZipS h' z TI TO (rawInt s.heap.objs.size) → IsPair h' TO x y → h'.IsTupleIter i1 l1 (k1 + 1) → h'.IsTupleIter i2 l2 (k2 + 1) → IsPair h' s.heap.objs.size x y → h'.objs.size = s.heap.objs.size + 1 →
      (∀ c o, c ≠ z → c ≠ TO → c ≠ i1 → c ≠ i2 → s.heap.get? c = some o → h'.get? c = some o) → Q (.ref s.heap.objs.size) { s with heap := h' }) :
    wpAny (model prog w) A (Builtin.«zip.__next__» ⟨[.ref z], []⟩) (fun fin s' => ∃ v, fin = .done (.ret v) ∧ Q v s') E s := by
  show wpAny _ _ (field (.ref z) 2 >>= _) _ _ _
  refine wpAny_bind (wpAny_field hz rfl (x := .bool true) rfl ?_)
  show wpAny _ _ (field (.ref z) 3 >>= _) _ _ _
  refine wpAny_bind (wpAny_field hz rfl (x := .ref TI) rfl ?_)
  refine wpAny_bind (wpAny_seqItems hTI rfl ?_)
  show wpAny _ _ (Builtin.SmallTypes.ownedTupleIsFree (.ref z) >>= _) _ _ _
  refine wpAny_bind ?_
  unfold Builtin.SmallTypes.ownedTupleIsFree
  refine wpAny_bind (wpAny_field hz rfl (x := .none) rfl (wpAny_pure ?_))
  simp only [if_true]
  refine wpAny_bind (wpAny_rule ?_)
  refine wpAny_bind (wpAny_field hz rfl (x := .ref TO) rfl ?_)
  refine wpAny_bind (wpAny_setField_rec hz (by simp) fun h₁ hz₁ hs₁ => ?_)
  replace hz₁ : IsZipS h₁ z TI TO .ellipsis := hz₁
  refine wpAny_bind ?_
  simp only [List.zipIdx_cons, List.zipIdx_nil, List.forIn_cons, List.forIn_nil]
  refine wpAny_bind (wpAny_bind (wpAny_onRaise ?_))
  show wpAny _ _ (Builtin.SmallTypes.nextOrEnd (.ref i1)) _ _ _
  refine draw_item (h1.extBut hs₁.extBut D.i1z) (hl1.extBut hs₁.extBut D.l1z) hx fun h₂ h1₂ hs₂ => ?_
  have hTO₂ : IsPair h₂ TO a b := hs₂.extBut _ _ D.TOi1 (hs₁.extBut _ _ D.TOz hTO)
  refine wpAny_bind (wpAny_seqItems hTO₂ rfl ?_)
  refine wpAny_bind (wpAny_updateSeq_pair hTO₂ fun h₃ hTO₃ hs₃ => ?_)
  replace hTO₃ : IsPair h₃ TO x b := hTO₃
  refine wpAny_bind (wpAny_letGo (wpAny_pure ?_))
  refine wpAny_bind (wpAny_bind (wpAny_onRaise ?_))
  show wpAny _ _ (Builtin.SmallTypes.nextOrEnd (.ref i2)) _ _ _
  refine draw_item (((h2.extBut hs₁.extBut D.i2z).extBut hs₂.extBut D.i12.symm).extBut hs₃.extBut D.TOi2.symm)
    (((hl2.extBut hs₁.extBut D.l2z).extBut hs₂.extBut D.l2i1).extBut hs₃.extBut D.l2TO) hy fun h₄ h2₄ hs₄ => ?_
  have hTO₄ : IsPair h₄ TO x b := hs₄.extBut _ _ D.TOi2 hTO₃
  refine wpAny_bind (wpAny_seqItems hTO₄ rfl ?_)
  refine wpAny_bind (wpAny_updateSeq_pair hTO₄ fun h₅ hTO₅ hs₅ => ?_)
  replace hTO₅ : IsPair h₅ TO x y := hTO₅
  refine wpAny_bind (wpAny_letGo (wpAny_pure (wpAny_pure ?_)))
  refine wpAny_bind (wpAny_seqItems hTO₅ rfl ?_)
  refine wpAny_bind (wpAny_newTuple ?_)
  have hsz : h₅.objs.size = s.heap.objs.size := by rw [hs₅.1, hs₄.1, hs₃.1, hs₂.1, hs₁.1]
  have hz₅ : IsZipS h₅ z TI TO .ellipsis := hs₅.extBut _ _ D.TOz.symm (hs₄.extBut _ _ D.i2z.symm (hs₃.extBut _ _ D.TOz.symm (hs₂.extBut _ _ D.i1z.symm hz₁)))
  have hk₅ : ∀ c o, c ≠ z → c ≠ TO → c ≠ i1 → c ≠ i2 → s.heap.get? c = some o → h₅.get? c = some o := fun c o c1 c2 c3 c4 e =>
    hs₅.extBut _ _ c2 (hs₄.extBut _ _ c4 (hs₃.extBut _ _ c2 (hs₂.extBut _ _ c3 (hs₁.extBut _ _ c1 e))))
  have h1₅ : h₅.IsTupleIter i1 l1 (k1 + 1) := ((h1₂.extBut hs₃.extBut D.TOi1.symm).extBut hs₄.extBut D.i12).extBut hs₅.extBut D.TOi1.symm
  have h2₅ : h₅.IsTupleIter i2 l2 (k2 + 1) := h2₄.extBut hs₅.extBut D.TOi2.symm
  have hzlt : z < h₅.objs.size := Heap.lt_size hz₅
  have hTOlt : TO < h₅.objs.size := Heap.lt_size hTO₅
  show wpAny _ _ (Builtin.SmallTypes.ownedTupleHandOut (.ref z) (.ref h₅.objs.size) >>= _) _ _ _
  refine wpAny_bind ?_
  unfold Builtin.SmallTypes.ownedTupleHandOut
  have hz₆ : IsZipS (h₅.push { cls := .type "tuple", data := .seq #[x, y] }) z TI TO .ellipsis := Heap.get?_push_of_some _ hz₅
  refine wpAny_bind (wpAny_setField_rec hz₆ (by simp) fun h₇ hz₇ hs₇ => ?_)
  replace hz₇ : IsZipS h₇ z TI TO (rawInt h₅.objs.size) := hz₇
  refine wpAny_setField_rec hz₇ (by simp) fun h₈ hz₈ hs₈ => ?_
  replace hz₈ : IsZipS h₈ z TI TO (rawInt h₅.objs.size) := hz₈
  have up : ∀ c o, c ≠ z → h₅.get? c = some o → h₈.get? c = some o := fun c o c1 e => hs₈.extBut _ _ c1 (hs₇.extBut _ _ c1 (Heap.get?_push_of_some _ e))
  have hT₈ : IsPair h₈ h₅.objs.size x y := hs₈.extBut _ _ (Nat.ne_of_gt hzlt) (hs₇.extBut _ _ (Nat.ne_of_gt hzlt) (Heap.get?_push_size _ rfl))
  have hz8 : h₈.objs.size = h₅.objs.size + 1 := by rw [hs₈.1, hs₇.1, Heap.size_push]
  rw [hsz] at hz₈ hT₈ hz8
  refine wpAny_pure ⟨_, rfl, ?_⟩
  show Q (.ref h₅.objs.size) _
  rw [hsz]
  exact hQ h₈ hz₈ (up _ _ D.TOz hTO₅) (h1₅.at fun o e => up _ o D.i1z e) (h2₅.at fun o e => up _ o D.i2z e) hT₈ hz8 fun c o c1 c2 c3 c4 e => up c o c1 (hk₅ c o c1 c2 c3 c4 e)
theorem next_end {z TI TO i1 i2 l1 l2 : Addr} {k1 k2 : Nat} {xs ys : Array Value} {a b : Value} {Q : Fin → Shared → Prop} (hh : A.handled = none) (D : ZipApart z TI TO i1 i2 l1 l2)
    (hz : IsZipS s.heap z TI TO .none) (hTI : IsPair s.heap TI (.ref i1) (.ref i2)) (hTO : IsPair s.heap TO a b)
    (h1 : s.heap.IsTupleIter i1 l1 k1) (h2 : s.heap.IsTupleIter i2 l2 k2) (hl1 : s.heap.IsTuple l1 xs) (hl2 : s.heap.IsTuple l2 ys) (hx : xs[k1]? = none) (hy : ys[k2]? = none)
    (hE : ∀ h' e, (∀ c o, c ≠ z → c ≠ TO → c ≠ i1 → c ≠ i2 → s.heap.get? c = some o → h'.get? c = some o) → (∃ o, h'.get? e = some o ∧ o.cls = .type "StopIteration") → E (.ref e) { s with heap := h' }) :
    wpAny (model prog w) A (Builtin.«zip.__next__» ⟨[.ref z], []⟩) Q E s := by
  show wpAny _ _ (field (.ref z) 2 >>= _) _ _ _
  refine wpAny_bind (wpAny_field hz rfl (x := .bool true) rfl ?_)
  show wpAny _ _ (field (.ref z) 3 >>= _) _ _ _
  refine wpAny_bind (wpAny_field hz rfl (x := .ref TI) rfl ?_)
  refine wpAny_bind (wpAny_seqItems hTI rfl ?_)
  show wpAny _ _ (Builtin.SmallTypes.ownedTupleIsFree (.ref z) >>= _) _ _ _
  refine wpAny_bind ?_
  unfold Builtin.SmallTypes.ownedTupleIsFree
  refine wpAny_bind (wpAny_field hz rfl (x := .none) rfl (wpAny_pure ?_))
  simp only [if_true]
  refine wpAny_bind (wpAny_rule ?_)
  refine wpAny_bind (wpAny_field hz rfl (x := .ref TO) rfl ?_)
  refine wpAny_bind (wpAny_setField_rec hz (by simp) fun h₁ hz₁ hs₁ => ?_)
  replace hz₁ : IsZipS h₁ z TI TO .ellipsis := hz₁
  refine wpAny_bind ?_
  simp only [List.zipIdx_cons, List.zipIdx_nil, List.forIn_cons, List.forIn_nil]
  refine wpAny_bind (wpAny_bind (wpAny_onRaise ?_))
  show wpAny _ _ (Builtin.SmallTypes.nextOrEnd (.ref i1)) _ _ _
  refine draw_end hh (h1.extBut hs₁.extBut D.i1z) (hl1.extBut hs₁.extBut D.l1z) hx fun h₂ hs₂ => ?_
  have hz₂ : IsZipS h₂ z TI TO .ellipsis := hs₂ _ _ D.i1z.symm hz₁
  refine wpAny_bind (wpAny_setField_rec hz₂ (by simp) fun h₃ hz₃ hs₃ => ?_)
  refine wpAny_bind ?_
  show wpAny _ _ (forIn (([Value.ref i1, Value.ref i2].drop 1).zipIdx 1) PUnit.unit _ >>= _) _ _ _
  simp only [List.drop_succ_cons, List.drop_zero, List.zipIdx_cons, List.zipIdx_nil, List.forIn_cons, List.forIn_nil]
  refine wpAny_bind (wpAny_bind (wpAny_bind ?_))
  have hk₃ : ∀ c o, c ≠ z → c ≠ i1 → s.heap.get? c = some o → h₃.get? c = some o := fun c o c1 c3 e => hs₃.extBut _ _ c1 (hs₂ _ _ c3 (hs₁.extBut _ _ c1 e))
  refine draw_end hh (h2.at fun o e => hk₃ _ o D.i2z D.i12.symm e) (by
    obtain ⟨o, ho, hr⟩ := hl2
    exact ⟨o, hk₃ _ o D.l2z D.l2i1 ho, hr⟩) hy fun h₄ hs₄ => ?_
  rw [if_neg (by decide)]
  refine wpAny_pure (wpAny_pure (wpAny_bind (wpAny_rule (stops hh fun h₅ e up he => hE h₅ e (fun c o c1 c2 c3 c4 x => up c o (hs₄ _ _ c4 (hk₃ c o c1 c3 x))) he))))
theorem pyNext_item {z TI TO i1 i2 l1 l2 : Addr} {k1 k2 : Nat} {xs ys : Array Value} {x y a b : Value} {Q : Option Value → Shared → Prop} (D : ZipApart z TI TO i1 i2 l1 l2)
    (hz : IsZipS s.heap z TI TO .none) (hTI : IsPair s.heap TI (.ref i1) (.ref i2)) (hTO : IsPair s.heap TO a b)
    (h1 : s.heap.IsTupleIter i1 l1 k1) (h2 : s.heap.IsTupleIter i2 l2 k2) (hl1 : s.heap.IsTuple l1 xs) (hl2 : s.heap.IsTuple l2 ys) (hx : xs[k1]? = some x) (hy : ys[k2]? = some y)
    (hQ : ∀ h', IsZipS h' z TI TO (rawInt s.heap.objs.size) → IsPair h' TO x y → h'.IsTupleIter i1 l1 (k1 + 1) → h'.IsTupleIter i2 l2 (k2 + 1) → IsPair h' s.heap.objs.size x y → h'.objs.size = s.heap.objs.size + 1 →
      (∀ c o, c ≠ z → c ≠ TO → c ≠ i1 → c ≠ i2 → s.heap.get? c = some o → h'.get? c = some o) → Q (some (.ref s.heap.objs.size)) { s with heap := h' }) :
    wpAny (model prog w) A (pyNext (.ref z)) Q E s := by
  have hT : s.TypeIs (.ref z) "zip" := ⟨_, hz, rfl⟩
  unfold pyNext
  exact wpAny_bind (wpAny_attempt (wpAny_callSpecial?_slot (name := Str.ofString "__next__") hT F.slot_zip_next
    (wpAny_call_entry F.slot_zip_next hT F.entry_zip_next
      (next_item D hz hTI hTO h1 h2 hl1 hl2 hx hy fun h' a1 a2 a3 a4 a5 a6 a7 => wpAny_pure (hQ h' a1 a2 a3 a4 a5 a6 a7)) (F.args_zip_next_1 _))))
theorem pyNext_end {z TI TO i1 i2 l1 l2 : Addr} {k1 k2 : Nat} {xs ys : Array Value} {a b : Value} {Q : Option Value → Shared → Prop} (hh : A.handled = none) (D : ZipApart z TI TO i1 i2 l1 l2)
    (hz : IsZipS s.heap z TI TO .none) (hTI : IsPair s.heap TI (.ref i1) (.ref i2)) (hTO : IsPair s.heap TO a b)
    (h1 : s.heap.IsTupleIter i1 l1 k1) (h2 : s.heap.IsTupleIter i2 l2 k2) (hl1 : s.heap.IsTuple l1 xs) (hl2 : s.heap.IsTuple l2 ys) (hx : xs[k1]? = none) (hy : ys[k2]? = none)
    (hQ : ∀ h', (∀ c o, c ≠ z → c ≠ TO → c ≠ i1 → c ≠ i2 → s.heap.get? c = some o → h'.get? c = some o) → Q none { s with heap := h' }) : wpAny (model prog w) A (pyNext (.ref z)) Q E s := by
  have hT : s.TypeIs (.ref z) "zip" := ⟨_, hz, rfl⟩
  unfold pyNext
  refine wpAny_bind (wpAny_attempt (wpAny_callSpecial?_slot (name := Str.ofString "__next__") hT F.slot_zip_next
    (wpAny_call_entry F.slot_zip_next hT F.entry_zip_next (next_end hh D hz hTI hTO h1 h2 hl1 hl2 hx hy fun h' e hk he => ?_) (F.args_zip_next_1 _))))
  obtain ⟨o, ho, hc⟩ := he
  refine wpAny_bind (wpAny_isInstance (T := "StopIteration") (b := true) ⟨o, ho, hc⟩ isSubtype_stop ?_)
  exact wpAny_pure (hQ _ hk)
end
open RZ in
abbrev zipSH5 (h : Heap) (l1 l2 : Addr) : Heap := (zipTH4 h l1 l2).push { cls := .type "zip", data := .fields #[.none, .bool false, .bool true, .ref (zipTH2 h l1 l2).objs.size, .ref (zipTH3 h l1 l2).objs.size] }
open RZ in
theorem meets_new (l1 l2 : Addr) (xs ys : Array Value) :
    Meets (Builtin.«zip.__new__» ⟨[.type "zip", .ref l1, .ref l2], [("strict", .bool true)]⟩) (fun _ R s => s.heap.IsTuple l1 xs ∧ s.heap.IsTuple l2 ys ∧
      R (.ok (.ret (.ref (zipTH4 s.heap l1 l2).objs.size))) { s with heap := zipSH5 s.heap l1 l2 }) :=
  .of_wp fun prog w A R s h => by
    obtain ⟨hp, g, d, tk, os⟩ := s; obtain ⟨hl1, hl2, h⟩ := h
    have hsub := sub_zip
    have hL1 : Heap.IsTuple (Shared.heap ⟨hp, g, d, tk, os⟩) l1 xs := hl1
    have hL2 : Heap.IsTuple (Shared.heap ⟨hp.push { cls := .type "tuple_iterator", data := .fields #[.ref l1, .int 0 0] }, g, d, tk, os⟩) l2 ys := Heap.IsTuple.push hl2 _
    wp_walk using wpAny_pyIter_tuple hL1, wpAny_pyIter_tuple hL2, wpAny_truthy_bool
    exact ⟨_, rfl, h⟩
end ZS

set_option Elab.async false
set_option linter.all false
set_option maxRecDepth 100000
set_option maxHeartbeats 1600000
/-! X3: zip(a, b, strict=True): the call, the walk, the rule. -/
namespace ZS
open PySem PySem.Spec PyProof.Rows L2 RZ
section
variable {prog : Program} {w : World} {A : Around} {E : Value → Shared → Prop} {s : Shared}
theorem call_zipS {l1 l2 : Addr} {xs ys : Array Value} {Q : Value → Shared → Prop} (hl1 : s.heap.IsTuple l1 xs) (hl2 : s.heap.IsTuple l2 ys)
    (h : ∀ h', IsZipS h' (s.heap.objs.size + 4) (s.heap.objs.size + 2) (s.heap.objs.size + 3) .none → IsPair h' (s.heap.objs.size + 2) (.ref s.heap.objs.size) (.ref (s.heap.objs.size + 1)) →
      IsPair h' (s.heap.objs.size + 3) .none .none → h'.IsTupleIter s.heap.objs.size l1 0 → h'.IsTupleIter (s.heap.objs.size + 1) l2 0 → h'.objs.size = s.heap.objs.size + 5 →
      (∀ c o, s.heap.get? c = some o → h'.get? c = some o) → Q (.ref (s.heap.objs.size + 4)) { s with heap := h' }) :
    wpAny (model prog w) A (call (.type "zip") [.ref l1, .ref l2] [("strict", .bool true)]) Q E s := by
  refine tyKw F.called_zip (by decide) (typeCall_zipS _ _ _) (newCall_zipS _ _ _) F.entry_zip_new (meets_new l1 l2 xs ys) (fun obj => args_object_initS obj _ _ _) (fun obj => initS F.called_zip.init.lookup F.called_zip.made (by decide)) ⟨hl1, hl2, ?_⟩
  have z1 : (zipTH1 s.heap l1).objs.size = s.heap.objs.size + 1 := Heap.size_push ..
  have z2 : (zipTH2 s.heap l1 l2).objs.size = s.heap.objs.size + 2 := by rw [Heap.size_push, z1]
  have z3 : (zipTH3 s.heap l1 l2).objs.size = s.heap.objs.size + 3 := by rw [Heap.size_push, z2]
  have z4 : (zipTH4 s.heap l1 l2).objs.size = s.heap.objs.size + 4 := by rw [Heap.size_push, z3]
  have z5 : (zipSH5 s.heap l1 l2).objs.size = s.heap.objs.size + 5 := by rw [Heap.size_push, z4]
  have g5 : (zipSH5 s.heap l1 l2).get? (zipTH4 s.heap l1 l2).objs.size = some _ := Heap.get?_push_size _ rfl
  have g4 : (zipSH5 s.heap l1 l2).get? (zipTH3 s.heap l1 l2).objs.size = some _ := Heap.get?_push_of_some _ (Heap.get?_push_size _ rfl)
  have g3 : (zipSH5 s.heap l1 l2).get? (zipTH2 s.heap l1 l2).objs.size = some _ := Heap.get?_push_of_some _ (Heap.get?_push_of_some _ (Heap.get?_push_size _ rfl))
  have g2 : (zipSH5 s.heap l1 l2).get? (zipTH1 s.heap l1).objs.size = some _ := Heap.get?_push_of_some _ (Heap.get?_push_of_some _ (Heap.get?_push_of_some _ (Heap.get?_push_size _ rfl)))
  have g1 : (zipSH5 s.heap l1 l2).get? s.heap.objs.size = some _ := Heap.get?_push_of_some _ (Heap.get?_push_of_some _ (Heap.get?_push_of_some _ (Heap.get?_push_of_some _ (Heap.get?_push_size _ rfl))))
  show _ ∧ _
  rw [z2, z3, z4] at g5
  rw [z1, z2] at g3
  rw [z3] at g4
  rw [z1] at g2
  rw [z4]
  exact ⟨⟨_, g5, rfl⟩, h _ g5 g3 g4 ⟨_, g1, rfl, rfl⟩ ⟨_, g2, rfl, rfl⟩ z5 fun c o x =>
    Heap.get?_push_of_some _ (Heap.get?_push_of_some _ (Heap.get?_push_of_some _ (Heap.get?_push_of_some _ (Heap.get?_push_of_some _ x))))⟩
end
/-- as ItzT, the two of one length -/
def ItzS (K : PySem.W.Frag) (a b : Addr) : It :=
  ⟨(ItzT K a b).go, (ItzT K a b).yld, fun i H => ∃ xs ys : List V, SqT K H a xs ∧ SqT K H b ys ∧ xs.length ≤ i ∧ ys.length ≤ i⟩
theorem iter_zipS {P : Program} {w : World} {A : Around} {E : Value → Shared → Prop} {s : Shared} {z TI TO : Addr} {f0 : Value} {Q : Value → Shared → Prop} (hz : IsZipS s.heap z TI TO f0) (h : Q (.ref z) s) : wpAny (model P w) A (pyIter (.ref z)) Q E s := by
  have hT : s.TypeIs (.ref z) "zip" := ⟨_, hz, rfl⟩
  refine wpAny_pyIter_slot hT F.slot_zip_iter (wpAny_call_entry F.slot_zip_iter hT F.entry_zip_iter ?_ (F.args_zip_iter_1 _))
  show wpAny _ _ (ret (.ref z)) _ _ s
  exact wpAny_pure ⟨_, rfl, "zip", _, hT, F.slot_zip_next.lookup, h⟩
theorem letGo_zipS {P : Program} {w : World} {A : Around} {E : Value → Shared → Prop} {s : Shared} {elts : List Expr} {x1} {pos : Pos} {z TI TO T : Addr} {Q : Unit → Shared → Prop} (hz : IsZipS s.heap z TI TO (rawInt T))
    (hQ : ∀ h', IsZipS h' z TI TO .none → Heap.SameBut z s.heap h' → Q () { s with heap := h' }) :
    wpAny (model P w) A (letOwnedTupleGo (.Tuple elts x1 pos) (.ref z) (.ref T)) Q E s := by
  unfold letOwnedTupleGo
  refine wpAny_bind (wpAny_load hz ?_)
  show wpAny _ _ (if (["enumerate", "zip", "dict_itemiterator", "dict_reverseitemiterator", "odict_iterator", "itertools.zip_longest", "itertools.pairwise"].contains "zip" &&
      (#[rawInt T, .bool false, .bool true, .ref TI, .ref TO] : Array Value)[0]? == some (rawInt T)) = true then _ else _) Q E s
  rw [if_pos (by simp)]
  refine wpAny_bind (wpAny_rule ?_)
  show wpAny _ _ (setField (.ref z) 0 .none) Q E s
  exact wpAny_setField_rec hz (by simp) fun h' hz' hs' => hQ h' hz' hs'
theorem turn_zipS {P : Program} {w : World} {K : PySem.W.Frag} {elts : List Expr} {kk : Nat} {tpos : Pos} {a b z TI TO i1 i2 : Addr} (D : ZipApart z TI TO i1 i2 a b) :
    Turn P w K (.Tuple elts kk tpos) (ItzS K a b) [z, TI, TO, i1, i2] z (fun i h => IsZipS h z TI TO .none ∧ IsPair h TI (.ref i1) (.ref i2) ∧ (∃ x y, IsPair h TO x y) ∧ h.IsTupleIter i1 a i ∧ h.IsTupleIter i2 b i) where
  mem := by simp
  obj := fun i h st c hc => by
    obtain ⟨hz, hTI, ⟨x, y, hTO⟩, ⟨o1, e1, _, d1⟩, ⟨o2, e2, _, d2⟩⟩ := st
    have e' : c = z ∨ c = TI ∨ c = TO ∨ c = i1 ∨ c = i2 := by simpa using hc
    rcases e' with q | q | q | q | q
    · rw [q]; exact ⟨_, hz, fun v q => nomatch q⟩
    · rw [q]; exact ⟨_, hTI, fun v q => nomatch q⟩
    · rw [q]; exact ⟨_, hTO, fun v q => nomatch q⟩
    · rw [q]; exact ⟨o1, e1, fun v q => by rw [d1] at q; cases q⟩
    · rw [q]; exact ⟨o2, e2, fun v q => by rw [d2] at q; cases q⟩
  keep := fun i h h' st k => by
    obtain ⟨hz, hTI, ⟨x, y, hTO⟩, h1, h2⟩ := st
    exact ⟨k z (by simp) _ hz, k TI (by simp) _ hTI, ⟨x, y, k TO (by simp) _ hTO⟩, h1.at fun o q => k i1 (by simp) o q, h2.at fun o q => k i2 (by simp) o q⟩
  item := by
    intro X hP hw hK hc i pins s σ H E I hf st hg
    subst hP hw hK
    obtain ⟨hz, hTI, ⟨x0, y0, hTO⟩, h1, h2⟩ := st
    obtain ⟨xs, ys, x, y, hqx, hqy, hx, hy⟩ := hg
    obtain ⟨its, rv, p, _⟩ := I.tuple hqx
    obtain ⟨its2, rv2, p2, _⟩ := I.tuple hqy
    obtain ⟨u, hu, ru⟩ := rv.get hx
    obtain ⟨u2, hu2, ru2⟩ := rv2.get hy
    have hzl : z < s.heap.objs.size := Heap.lt_size hz
    refine pyNext_item D hz hTI hTO h1 h2 p p2 (x := u) (y := u2) (by simpa using hu) (by simpa using hu2) fun h' z' TO' h1' h2' hT hsz hk => ?_
    refine ⟨_, rfl, letGo_zipS (s := { s with heap := h' }) z' fun h'' z'' sb => ?_⟩
    have hT2 : h''.get? s.heap.objs.size = some { cls := .type "tuple", data := .seq #[u, u2] } := (sb.2 _ (Nat.ne_of_gt hzl)).trans hT
    have new : ObjOk X.prog X.w (upd H s.heap.objs.size (.tup [x, y])) h'' s.heap.objs.size (.tup [x, y]) :=
      ⟨by show 2 ≤ sizeLine; decide, [u, u2], .cons ru (.cons ru2 .nil), ⟨_, hT2, rfl, _, rfl⟩⟩
    have I1 : Inv X pins σ (upd H s.heap.objs.size (.tup [x, y])) { s with heap := h'' } :=
      I.turnedNew (t' := s.toks) (ch := [z, TI, TO, i1, i2]) (fun c o hb q => (sb.2 c (fun q' => hb (by simp [q']))).trans (hk c o (fun q' => hb (by simp [q'])) (fun q' => hb (by simp [q'])) (fun q' => hb (by simp [q'])) (fun q' => hb (by simp [q'])) q)) hf (Nat.le_refl _) new
    refine ⟨.ref s.heap.objs.size, _, I1, rfl, ⟨_, x, y, rfl, I.hok.fresh (Nat.le_refl _), rfl, fun l hl => by rw [I.tuple_inj hl hqx]; exact hx, fun l hl => by rw [I.tuple_inj hl hqy]; exact hy⟩, ⟨z'', ?_, ⟨u, u2, ?_⟩, ?_, ?_⟩, fun c hcm => ?_⟩
    · exact (sb.2 _ D.TIz).trans (hk _ _ D.TIz D.TITO D.TIi1 D.TIi2 hTI)
    · exact (sb.2 _ D.TOz).trans TO'
    · exact h1'.at fun o q => (sb.2 _ D.i1z).trans q
    · exact h2'.at fun o q => (sb.2 _ D.i2z).trans q
    · have hlt : c < s.heap.objs.size := by
        have e' : c = z ∨ c = TI ∨ c = TO ∨ c = i1 ∨ c = i2 := by simpa using hcm
        rcases e' with q | q | q | q | q
        · rw [q]; exact hzl
        · rw [q]; exact Heap.lt_size hTI
        · rw [q]; exact Heap.lt_size hTO
        · rw [q]; obtain ⟨_, e1, _⟩ := h1; exact Heap.lt_size e1
        · rw [q]; obtain ⟨_, e2, _⟩ := h2; exact Heap.lt_size e2
      rw [upd_ne (Nat.ne_of_lt hlt)]
      exact (hf c hcm).1
  done := by
    intro X hP hw hK hc i pins s σ H E I hf st hg
    subst hP hw hK
    obtain ⟨hz, hTI, ⟨x0, y0, hTO⟩, h1, h2⟩ := st
    obtain ⟨xs, ys, hqx, hqy, hend1, hend2⟩ := hg
    obtain ⟨its, rv, p, _⟩ := I.tuple hqx
    obtain ⟨its2, rv2, p2, _⟩ := I.tuple hqy
    have l1 := rv.length
    have l2 := rv2.length
    exact pyNext_end (I.ok.hd hc) D hz hTI hTO h1 h2 p p2 (by simp; omega) (by simp; omega) fun h' hk => ⟨rfl, I.turnedL (t' := s.toks) (ch := [z, TI, TO, i1, i2]) (fun c o hb q =>
      hk c o (fun q' => hb (by simp [q'])) (fun q' => hb (by simp [q'])) (fun q' => hb (by simp [q'])) (fun q' => hb (by simp [q'])) q) hf⟩
  self := fun A i s Q E st h => iter_zipS st.1 h
theorem callWith_tyKw {M : Model} {A : Around} {E : Value → Shared → Prop} {s : Shared} {pos : Pos} {T : String} {first : List Value} {args : List (Bool × Sem Value)} {keywords : List (Option Str × Sem Value)} {Q : Value → Shared → Prop}
    (hplain : args.any (·.1) = false) (hkw : keywords.any (·.1.isNone) = false)
    (h : wpAny M A (evalArgs (.type T) true args keywords) (fun a s₁ => wpAny M A (call (.type T) (first ++ a.pos) a.kw) Q E s₁) E s) :
    wpAny M A (callWith pos (.type T) first args keywords) Q E s := by
  unfold callWith
  refine wpAny_bind (wpAny_holding (wpAny_mono h (fun a s₁ h₁ => wpAny_bind (wpAny_standAt ?_)) fun _ _ x => x))
  simp only [hplain, hkw, Bool.or_false]
  refine wpAny_bind (wpAny_pure ?_)
  exact wpAny_bind (wpAny_mono h₁ (fun r s₂ hr => wpAny_bind (wpAny_holding (wpAny_point (wpAny_pure hr)))) fun _ _ x => x)
def iZipS (K : PySem.W.Frag) (ta : TA) : TI := fun σ H R => ta σ H fun vs H1 => ∃ a b xs ys, vs = [.ref a, .ref b] ∧ SqT K H1 a xs ∧ SqT K H1 b ys ∧ R (ItzS K a b) H1
theorem pi_zipS {X : Cx} {e e2 : Expr} {ta : TA} {p pos tpos cp kp : Pos} {j} {elts : List Expr} {kk : Nat} (hg : Gl X "zip") (hm : X.mg "zip" = none) (ha : PA X [e, e2] ta)
    (hs : starEach [e, e2] X.env = (false, eval e X.env) :: starEach [e2] X.env := by rfl) (hpl : (backTo pos (starEach [e2] X.env)).any (·.1) = false := by rfl) :
    PI X (.Tuple elts kk tpos) (.Call (.Name "zip" p) [e, e2] [⟨some "strict", .Constant (.bool true) j cp, kp⟩] pos) (iZipS X.K ta) := by
  refine ⟨fun pins s σ H R I h => ?_⟩
  refine wpAny_Call_Name_kw (ld_blt I hg hm PyProof.Rows.boot_zip ?_)
  refine callWith_tyKw (by rw [hs]; show (false || (backTo pos (starEach [e2] X.env)).any (·.1)) = false; rw [hpl]; rfl) rfl ?_
  have hA := ha.run pos pins s σ H _ I h
  rw [hs] at hA ⊢
  refine evalArgs_kw rfl (thn hA fun us s1 ⟨vs, H1, I1, r1, q1⟩ => ?_)
  refine wpAny_evalAll_cons (wpAny_bind (Constant_bool (wpAny_bind (wpAny_standAt (wpAny_pure (wpAny_evalAll_nil ?_))))))
  obtain ⟨a, b, xs, ys, ex, hqx, hqy, q⟩ := q1
  subst ex
  cases r1 with
  | cons r rr =>
    cases rr with
    | cons r' rr =>
      cases rr
      cases r
      cases r'
      have fresh5 : ∀ c, c ∈ [s1.heap.objs.size + 4, s1.heap.objs.size + 2, s1.heap.objs.size + 3, s1.heap.objs.size, s1.heap.objs.size + 1] → FpOk X pins H1 c := fun c hcm => by
        have e' : c = s1.heap.objs.size + 4 ∨ c = s1.heap.objs.size + 2 ∨ c = s1.heap.objs.size + 3 ∨ c = s1.heap.objs.size ∨ c = s1.heap.objs.size + 1 := by simpa using hcm
        have hle : s1.heap.objs.size ≤ c := by
          rcases e' with z | z | z | z | z
          · rw [z]; exact Nat.le_add_right _ _
          · rw [z]; exact Nat.le_add_right _ _
          · rw [z]; exact Nat.le_add_right _ _
          · rw [z]; exact Nat.le_refl _
          · rw [z]; exact Nat.le_add_right _ _
        exact I1.fpOk hle (I1.hok.fresh hle)
      obtain ⟨its, rv, p1, _⟩ := I1.tuple hqx
      obtain ⟨its2, rv2, p2, _⟩ := I1.tuple hqy
      obtain ⟨o1, ho1, _⟩ := id p1
      obtain ⟨o2, ho2, _⟩ := id p2
      refine call_zipS (show s1.heap.IsTuple a its.toArray from p1) (show s1.heap.IsTuple b its2.toArray from p2) fun h' hz hTI hTO h1 h2 hsz hk => iter_zipS hz ?_
      have I2 : Inv X pins σ H1 { s1 with heap := h' } := I1.kept (t' := s1.toks) hk
      exact ⟨s1.heap.objs.size + 4, [s1.heap.objs.size + 4, s1.heap.objs.size + 2, s1.heap.objs.size + 3, s1.heap.objs.size, s1.heap.objs.size + 1], _, _, H1, rfl, I2, turn_zipS (PySem.W.ktu_apart s1.heap.objs.size a b (Heap.lt_size ho1) (Heap.lt_size ho2)), ⟨hz, hTI, ⟨_, _, hTO⟩, h1, h2⟩, fresh5, q⟩
end ZS

set_option Elab.async false
set_option linter.all false
set_option maxRecDepth 100000
set_option maxHeartbeats 1600000
/-! X4: enumerate of a tuple. -/
namespace ZS
open PySem PySem.Spec PyProof.Rows L2 RZ
theorem drawsT {P : Program} {w : World} {A : Around} (hh : A.handled = none) (it l : Addr) (hne : l ≠ it) (xs : Array Value) :
    Draws P w A it [it, l] xs.size (fun i v => xs[i]? = some v) (fun i h => h.IsTupleIter it l i ∧ h.IsTuple l xs) where
  live := fun _ _ z => z.1.imp fun _ q => q.1
  frame := fun _ _ _ z k => ⟨z.1.at fun o e => k it (by simp) o e, let ⟨o, q, r⟩ := z.2; ⟨o, k l (by simp) o q, r⟩⟩
  item := fun i s Q E hi z hQ => nextOf_tuple_item z.1 z.2 (Array.getElem?_eq_getElem hi) fun h' a b => hQ _ h' s.toks (Array.getElem?_eq_getElem hi) ⟨a, z.2.extBut b.extBut hne⟩ b
  done := fun s Q E z hE => nextOf_tuple_end hh z.1 z.2 (Array.getElem?_eq_none (Nat.le_refl _)) hE
abbrev enT1 (h : Heap) (l : Addr) : Heap := h.push { cls := .type "tuple_iterator", data := .fields #[.ref l, .int 0 0] }
abbrev enT2 (h : Heap) (l : Addr) : Heap := (enT1 h l).push { cls := .type "enumerate", data := .fields #[.none, .bool false, .ref h.objs.size, rawInt 0, .none, .none] }
theorem newT (l : Addr) (xs : Array Value) (o : Obj) : Meets (Builtin.«enumerate.__new__» ⟨[.type "enumerate", .ref l], []⟩) (fun _ R s => s.heap.get? l = some o ∧ o.cls = .type "tuple" ∧ (∃ n, o.data = .seq xs n) ∧
      R (.ok (.ret (.ref (enT1 s.heap l).objs.size))) { s with heap := enT2 s.heap l }) :=
  .of_wp fun prog w A R s h => by
    obtain ⟨hp, g, d, tk, os⟩ := s
    obtain ⟨hl, hc, ⟨n, hd⟩, h⟩ := h
    obtain ⟨oc, od, dt, osl⟩ := o
    simp only at hc hd
    subst hc hd
    have hsub := sub_enumerate
    have hL : Heap.IsTuple (Shared.heap ⟨hp, g, d, tk, os⟩) l xs := ⟨_, hl, rfl, n, rfl⟩
    wp_walk using AutoSeq1.wpAny_loadPart' hl
    refine wpAny_stack_any fun st => wpAny_pure ?_
    split
    · rename_i c _ _ _ _ _
      cases (c == Value.type "enumerate") <;> (wp_walk using AutoSeq1.wpAny_loadPart' hl, wpAny_pyIter_tuple hL; exact ⟨_, rfl, h⟩)
    · wp_walk using AutoSeq1.wpAny_loadPart' hl, wpAny_pyIter_tuple hL
      exact ⟨_, rfl, h⟩
theorem call_enT {P : Program} {w : World} {A : Around} {E : Value → Shared → Prop} {s : Shared} {l : Addr} {xs : Array Value} {Q : Value → Shared → Prop} (hL : s.heap.IsTuple l xs)
    (h : ∀ h', IsEnum h' (s.heap.objs.size + 1) s.heap.objs.size 0 .none → h'.IsTupleIter s.heap.objs.size l 0 → (∀ b o, s.heap.get? b = some o → h'.get? b = some o) → Q (.ref (s.heap.objs.size + 1)) { s with heap := h' }) :
    wpAny (model P w) A (call (.type "enumerate") [.ref l]) Q E s := by
  obtain ⟨o, hl, hc, hd⟩ := hL
  refine callType_new F.called_enumerate (by decide) (F.typeCall_enumerate_1 _) (F.newCall_enumerate_1 _) (fun obj => F.args_object_init_2 obj _) F.entry_enumerate_new (newT l xs o) ⟨hl, hc, hd, ?_⟩
  have hz : (enT1 s.heap l).objs.size = s.heap.objs.size + 1 := Heap.size_push ..
  have he := Heap.get?_push_size (enT1 s.heap l) (o := { cls := .type "enumerate", data := .fields #[.none, .bool false, .ref s.heap.objs.size, rawInt 0, .none, .none] }) rfl
  show _ ∧ _
  rw [hz] at he ⊢
  exact ⟨⟨_, he, rfl⟩, h _ he ⟨_, Heap.get?_push_of_some _ (Heap.get?_push_size _ rfl), rfl, rfl⟩ fun b o x => Heap.get?_push_of_some _ (Heap.get?_push_of_some _ x)⟩
/-- as Ite, over a tuple -/
def IteT (K : PySem.W.Frag) (a : Addr) : It :=
  ⟨fun i H => ∃ (xs : List V) (x : V), SqT K H a xs ∧ xs[i]? = some x, fun i H v H' => ∃ T x, v = .ref T ∧ H T = none ∧ H' = upd H T (.tup [.int (i : Nat), x]) ∧ ∀ xs, SqT K H a xs → xs[i]? = some x, fun i H => ∃ xs : List V, SqT K H a xs ∧ xs.length = i⟩
theorem turn_enT {P : Program} {w : World} {K : PySem.W.Frag} {elts : List Expr} {kk : Nat} {tpos : Pos} (a e it : Addr) :
    Turn P w K (.Tuple elts kk tpos) (IteT K a) [e, it] e (fun i h => (∃ old, IsEnum h e it ((i : Nat) : Int) old) ∧ h.IsTupleIter it a i ∧ e ≠ it ∧ e ≠ a ∧ it ≠ a) where
  mem := List.mem_cons_self
  obj := fun i h st b hb => by
    obtain ⟨⟨old, he⟩, ⟨o, ho, _, hd⟩, _⟩ := st
    rcases List.mem_cons.mp hb with z | z
    · exact ⟨_, by rw [z]; exact he, by intro v q; cases q⟩
    · exact ⟨o, by rw [List.mem_singleton.mp z]; exact ho, fun v q => by rw [hd] at q; cases q⟩
  keep := fun i h h' ⟨⟨old, he⟩, hi, hne⟩ k => ⟨⟨old, k e (by simp) _ he⟩, hi.at fun o q => k it (by simp) o q, hne⟩
  item := by
    intro X hP hw hK hc i pins s σ H E I hf st ⟨xs, x, hq, hx⟩
    subst hP hw hK
    obtain ⟨⟨old, he⟩, hit, hne, hea, hia⟩ := st
    obtain ⟨its, rv, p, _⟩ := I.tuple hq
    obtain ⟨u, hu, ru⟩ := rv.get hx
    have hel := Heap.lt_size he
    have hil : it < s.heap.objs.size := by obtain ⟨_, q, _⟩ := hit; exact Heap.lt_size q
    refine wpAny_pyNext_enum_itemD (drawsT (A := X.A.in1) (I.ok.hd hc) it a (Ne.symm hia) its.toArray) he ⟨hit, p⟩ (by
      have := (List.getElem?_eq_some_iff.mp hu).1
      simpa using this) hne (by simp [hne, hea]) fun x' h' tk hx' ho hit' hT hsz hk => ?_
    have : x' = u := by
      have hx' : its.toArray[i]? = some x' := hx'
      rw [List.getElem?_toArray, hu] at hx'
      exact (Option.some.inj hx').symm
    subst this
    refine ⟨_, rfl, wpAny_letOwnedTupleGo_enum (s := { s with heap := h', toks := tk + 1 }) ho fun h'' he' sb => ?_⟩
    have hT2 := (sb.2 _ (Nat.ne_of_gt hel)).trans hT
    have new : ObjOk X.prog X.w (upd H s.heap.objs.size (.tup [.int (i : Nat), x])) h'' s.heap.objs.size (.tup [.int (i : Nat), x]) := ⟨by show 2 ≤ sizeLine; decide, [.int i tk, x'], .cons ⟨_, rfl⟩ (.cons ru .nil), ⟨_, hT2, rfl, _, rfl⟩⟩
    have I1 : Inv X pins σ (upd H s.heap.objs.size (.tup [.int (i : Nat), x])) { s with heap := h'', toks := tk + 1 } :=
      I.turnedNew (ch := [e, it]) (fun b ob hb q => (sb.2 b fun z => hb (by rw [z]; exact List.mem_cons_self)).trans (hk b ob (fun z => hb (by rw [z]; exact List.mem_cons_self)) (fun z => hb (by rw [z]; simp)) q)) hf (Nat.le_refl _) new
    refine ⟨.ref s.heap.objs.size, _, I1, rfl, ⟨_, x, rfl, I.hok.fresh (Nat.le_refl _), rfl, fun ys hy => by rw [I.tuple_inj hy hq]; exact hx⟩, ⟨⟨x', ?_⟩, hit'.1.at fun o q => (sb.2 it (Ne.symm hne)).trans q, hne, hea, hia⟩, fun b hb => ?_⟩
    · have e1 : ((i + 1 : Nat) : Int) = (i : Int) + 1 := Int.natCast_succ i
      rw [e1]; exact he'
    · have hb' : b < s.heap.objs.size := by
        rcases List.mem_cons.mp hb with z | z
        · exact z ▸ hel
        · exact List.mem_singleton.mp z ▸ hil
      rw [upd_ne (Nat.ne_of_lt hb')]
      exact (hf b hb).1
  done := by
    intro X hP hw hK hc i pins s σ H E I hf st ⟨xs, hq, hx⟩
    subst hP hw hK
    obtain ⟨⟨old, he⟩, hit, hne, hea, hia⟩ := st
    obtain ⟨its, rv, p, _⟩ := I.tuple hq
    obtain ⟨f0, f1, f2, f3, f4, f5⟩ := hf it (List.mem_cons_of_mem _ List.mem_cons_self)
    have hl : its.toArray.size = i := by rw [List.size_toArray, ← rv.length]; exact hx
    refine wpAny_pyNext_enum_endD (drawsT (A := X.A.in1) (I.ok.hd hc) it a (Ne.symm hia) its.toArray) he ⟨by rw [hl]; exact hit, p⟩ fun h' eb => ⟨rfl, I.turned (t' := s.toks) (fun b o hb q => eb b o hb q) f0 f1 f3 f4 f5⟩
  self := fun A i s Q E ⟨⟨_, he⟩, _⟩ h => wpAny_pyIter_enum he h
def iEnT (K : PySem.W.Frag) (ta : TA) : TI := fun σ H R => ta σ H fun vs H1 => ∃ a xs, vs = [.ref a] ∧ SqT K H1 a xs ∧ R (IteT K a) H1
theorem pi_enT {X : Cx} {e : Expr} {ta : TA} {p pos tpos : Pos} {elts : List Expr} {kk : Nat} (hg : Gl X "enumerate") (hm : X.mg "enumerate" = none) (ha : PA X [e] ta) (hs : starEach [e] X.env = [(false, eval e X.env)] := by rfl) :
    PI X (.Tuple elts kk tpos) (.Call (.Name "enumerate" p) [e] [] pos) (iEnT X.K ta) := by
  refine ⟨fun pins s σ H R I h => Call_ (ld_blt I hg hm boot_enumerate (PyProof.Rows.callWith_type1 (thn (ha.run pos pins s σ H _ I h) fun us s1 ⟨vs, H1, I1, r1, a, xs, ex, hq, q⟩ => ?_) hs rfl))⟩
  subst ex
  cases r1 with
  | cons r rr =>
    cases rr
    cases r
    obtain ⟨its, rv, p', _⟩ := I1.tuple hq
    have hal : a < s1.heap.objs.size := by obtain ⟨o, ho, _⟩ := id p'; exact Heap.lt_size ho
    refine call_enT (show s1.heap.IsTuple a its.toArray from p') fun h' he hit hk => wpAny_pyIter_enum he ?_
    refine ⟨_, [s1.heap.objs.size + 1, s1.heap.objs.size], _, _, H1, rfl, I1.kept (t' := s1.toks) hk, turn_enT a (s1.heap.objs.size + 1) s1.heap.objs.size, ⟨⟨.none, he⟩, hit, Nat.succ_ne_self _, Nat.ne_of_gt (Nat.lt_succ_of_lt hal), Nat.ne_of_gt hal⟩, fun b hb => ?_, q⟩
    have hle : s1.heap.objs.size ≤ b := by
      rcases List.mem_cons.mp hb with z | z
      · rw [z]; exact Nat.le_succ _
      · rw [List.mem_singleton.mp z]; exact Nat.le_refl _
    exact I1.fpOk hle (I1.hok.fresh hle)
end ZS

set_option Elab.async false
set_option linter.all false
set_option maxRecDepth 100000
set_option maxHeartbeats 4000000
/-! X5: tuple * 1. -/
namespace ZS
open PySem PySem.Spec PyProof.Rows L2
theorem mul1 (l : Addr) (xs : Array Value) (n : Nat) (dd : Option Addr) (sl : Array (Option Value)) (u : Tok) :
    Meets (Builtin.«tuple.__mul__» ⟨[.ref l, .int 1 u], []⟩) (fun _ R s => s.heap.get? l = some { cls := .type "tuple", dict := dd, data := .seq xs n, slots := sl } ∧ R (.ok (.ret (.ref l))) s) :=
  .of_wp fun prog w A R s h => by
    obtain ⟨hp, g, d, tk, os⟩ := s
    obtain ⟨hl, h⟩ := h
    have f1 := AutoSeq1.idx_int
    wp_walk using wpAny_loadPart' hl
    exact ⟨_, rfl, h⟩
def rRep1 (K : PySem.W.Frag) : R2 := fun x y H Q => ∃ l xs, x = .ref l ∧ y = .int 1 ∧ SqT K H l xs ∧ Q x H
theorem op_rep1 {X : Cx} : OpR X (binaryOp .Mult) (rRep1 X.K) := by
  intro pins s σ H x y v u Q I rx ry ⟨l, xs, ex, ey, hT, q⟩
  subst ex ey
  cases rx
  obtain ⟨t, rfl⟩ := ry
  obtain ⟨its, r, ⟨o, ho, hc, n, hd⟩, _⟩ := I.tuple hT
  obtain ⟨oc, od, dt, osl⟩ := o
  simp only at hc hd
  subst hc hd
  refine wpAny_binaryOp_repeat_ref (U := "int") (by decide) ⟨_, ho, rfl⟩ (fun s' => typeIs_int s' 1 t) noFill_tuple_mul F.fills_int_mul F.slot_int_rmul repeat_tuple F.slot_int_index.lookup
    (call_meets F.slot_int_rmul (typeIs_int s 1 t) F.entry_int_rmul (F.args_int_rmul_2 _ _) (int_rmul_tuple 1 t l its.toArray n od osl) ⟨ho, rfl, ?_⟩)
  refine ⟨⟨_, ho, rfl⟩, call_meets F.slot_tuple_mul ⟨_, ho, rfl⟩ F.entry_tuple_mul (F.args_tuple_mul_2 _ _) (mul1 l its.toArray n od osl t) ⟨ho, ?_⟩⟩
  exact ⟨.ref l, H, I, rfl, q⟩
end ZS

set_option Elab.async false
set_option linter.all false
set_option maxRecDepth 100000
set_option maxHeartbeats 2000000
/-! X6: t[::-1] of a tuple. -/
namespace ZS
open PySem PySem.Spec PyProof.Rows L2 HT
theorem pickAll {α : Type} : ∀ l : List α, (List.range l.length).filterMap (fun k => l[k]?) = l
  | [] => rfl
  | x :: l => by
    rw [List.length_cons, List.range_succ_eq_map, List.filterMap_cons]
    simp only [List.getElem?_cons_zero, List.filterMap_map]
    exact congrArg (x :: ·) (pickAll l)
theorem fmCongr {α β : Type} {f g : α → Option β} : ∀ {l : List α}, (∀ x, x ∈ l → f x = g x) → l.filterMap f = l.filterMap g
  | [], _ => rfl
  | x :: l, h => by rw [List.filterMap_cons, List.filterMap_cons, h x List.mem_cons_self, fmCongr fun y hy => h y (List.mem_cons_of_mem _ hy)]
theorem pickRev {α : Type} (l : List α) : (List.range l.length).filterMap (fun (k : Nat) => l[(((l.length : Int) - 1) + (k : Int) * (-1)).toNat]?) = l.reverse := by
  refine Eq.trans (fmCongr fun k hk => ?_) ((congrArg (fun n => (List.range n).filterMap fun k => l.reverse[k]?) l.length_reverse.symm).trans (pickAll l.reverse))
  have hk := List.mem_range.mp hk
  have e : (((l.length : Int) - 1) + (k : Int) * (-1)).toNat = l.length - 1 - k := by omega
  rw [e, List.getElem?_reverse hk]
theorem appliedRev {P : Program} {w : World} {A : Around} {E : Value → Shared → Prop} {s : Shared} {sl : Addr} {vl vu vs : Value} {n : Nat} {Q : Int × Int × Nat → Shared → Prop} (hs : s.heap.IsSliceOf sl vl vu vs) (pl : IsPart vl none) (pu : IsPart vu none) (ps : IsPart vs (some (-1)))
    (h : Q ((n : Int) - 1, -1, n) s) : wpAny (model P w) A (Builtin.Slice.sliceApplied (.ref sl) (pure (n : Int))) Q E s := by
  obtain ⟨os, hos, hcs, hds⟩ := id hs
  unfold Builtin.Slice.sliceApplied Builtin.Slice.sliceFields
  refine wpAny_bind (wpAny_bind (wpAny_field hos hds (x := vl) rfl (wpAny_bind (wpAny_field hos hds (x := vu) rfl (wpAny_bind (wpAny_field hos hds (x := vs) rfl (wpAny_pure ?_)))))))
  refine wpAny_bind (slicePart_ ps ?_)
  show wpAny _ _ (if ((-1 : Int) == 0) = true then _ else _) _ _ s
  rw [if_neg (by decide)]
  refine wpAny_bind (slicePart_ pl (wpAny_bind (slicePart_ pu (wpAny_bind (wpAny_pure (wpAny_pure ?_))))))
  show Q ((n : Int) - 1, -1, Builtin.Slice.slicePlaces ((n : Int) - 1) (-1) (-1)) s
  have e : Builtin.Slice.slicePlaces ((n : Int) - 1) (-1) (-1) = n := by
    unfold Builtin.Slice.slicePlaces
    rw [if_neg (by decide)]
    simp only [Int.neg_neg, Int.ediv_one]
    split <;> omega
  rw [e]; exact h
theorem getRev {P : Program} {w : World} {A : Around} {E : Value → Shared → Prop} {s : Shared} {t sl : Addr} {its : List Value} {vl vu vs : Value} {Q : Value → Shared → Prop} (ht : IsTup s.heap t its.toArray) (hs : s.heap.IsSliceOf sl vl vu vs) (pl : IsPart vl none) (pu : IsPart vu none) (ps : IsPart vs (some (-1))) (hz : its.length ≤ sizeLine)
    (h : Q (.ref s.heap.objs.size) { s with heap := s.heap.push { cls := .type "tuple", data := .seq its.reverse.toArray } }) : wpAny (model P w) A (getItem (.ref t) (.ref sl)) Q E s := by
  obtain ⟨os, hos, hcs, hds⟩ := id hs
  have hTs : s.TypeIs (.ref sl) "slice" := ⟨os, hos, hcs⟩
  unfold getItem
  try with_reducible refine wpAny_holding ?_
  first | refine wpAny_bind (wpAny_pure ?_) | skip
  refine wpAny_bind (wpAny_sequenceKey ht.typeIs (by decide) ?_)
  refine wpAny_bind (wpAny_callSpecial?_slot (name := Str.ofString "__getitem__") ht.typeIs PyProof.Rows.slot_tuple_getitem (wpAny_call_entry PyProof.Rows.slot_tuple_getitem ht.typeIs entry_tuple_getitem ?_ (args_tuple_getitem _ _)))
  show wpAny _ _ (Builtin.Tuple.tupleItemsOf (.ref t) >>= _) _ _ s
  refine wpAny_bind (tupleItemsOf_ ht (wpAny_bind (wpAny_typeOf hTs ?_)))
  rw [if_pos (by decide)]
  refine wpAny_bind ?_
  rw [List.size_toArray]
  refine appliedRev hs pl pu ps ?_
  show wpAny _ _ (if (((its.length : Int) - 1 == 0) && (-1 : Int) == 1 && its.length == its.length) = true then _ else _) _ _ s
  rw [if_neg (by simp)]
  show wpAny _ _ (newObj (.type "tuple") (.seq (List.filterMap (fun (k : Nat) => its.toArray[(((its.length : Int) - 1) + (k : Int) * (-1)).toNat]?) (List.range its.length)).toArray) >>= _) _ _ s
  simp only [List.getElem?_toArray]
  rw [pickRev]
  refine wpAny_bind (wpAny_newObj_type (wpAny_pure ⟨_, rfl, wpAny_pure h⟩) (by show its.reverse.toArray.size ≤ sizeLine; rw [List.size_toArray, List.length_reverse]; exact hz))
/-- t[::-1] -/
def tRevT (K : PySem.W.Frag) (te : TE) : TE := fun σ H Q => te σ H fun x H1 => ∃ a xs, x = .ref a ∧ SqT K H1 a xs ∧ ∀ p, H1 p = none → Q (.ref p) (upd H1 p (.tup xs.reverse))
theorem pe_revT {X : Cx} {e : Expr} {te : TE} {k : Nat} {p1 p2 p3 pos : Pos} (he : PE X e te) : PE X (.Subscript e (.Slice none none (some (.UnaryOp .USub (.Constant (.int 1) k p1) p2)) p3) pos) (tRevT X.K te) := by
  refine ⟨fun pins s σ H Q I h => Subscript_ (thn (he.run pins s σ H _ I h) fun v s1 ⟨x, H1, I1, r1, a, xs, ex, hx, q⟩ => ?_)⟩
  subst ex
  cases r1
  have part : PO X (some (.UnaryOp .USub (.Constant (.int 1) k p1) p2)) (tPart (tUn (rU fun i => .int (-i)) (tC (.int 1)))) := po_some (pe_un un_neg pe_int)
  refine wpAny_Slice (thn (po_none.run pins s1 σ H1 (fun o H2 => o = none ∧ H2 = H1) I1 ⟨rfl, rfl⟩) fun vl s2 ⟨l, H2, I2, pl, el, e2⟩ => thn (po_none.run pins s2 σ H2 (fun o H3 => o = none ∧ H3 = H2) I2 ⟨rfl, rfl⟩) fun vu s3 ⟨u, H3, I3, pu, eu, e3⟩ =>
    thn (part.run pins s3 σ H3 (fun o H4 => o = some (-1) ∧ H4 = H3) I3 ⟨1, rfl, -1, rfl, rfl, rfl⟩) fun vs s4 ⟨o, H4, I4, ps, eo, e4⟩ => ?_)
  subst el e2 eu e3 eo e4
  have J : Inv X pins σ H4 { s4 with heap := s4.heap.push { cls := .type "slice", data := .fields #[vl, vu, vs] } } := I4.kept (t' := s4.toks) fun b ob q => Heap.get?_push_of_some _ q
  obtain ⟨its, r, ht, hz⟩ := J.tuple hx
  show wpAny (model X.prog X.w) X.A (subscriptTail e (.Slice none none (some (.UnaryOp .USub (.Constant (.int 1) k p1) p2)) p3) (.ref a) (.ref s4.heap.objs.size)) (EP X pins σ Q) X.xe { s4 with heap := s4.heap.push { cls := .type "slice", data := .fields #[vl, vu, vs] } }
  refine tail_any (ops := [.ref a, .ref s4.heap.objs.size]) ht.typeIs PyProof.Rows.slot_tuple_getitem.lookup (getRev ht (Heap.IsSliceOf.new _ vl vu vs) pl pu ps (by rw [← r.length]; exact hz) ?_) (by with_unfolding_all rfl)
  exact ⟨.ref _, _, J.laid (t' := s4.toks) (o := .tup xs.reverse) (fun b ob q => Heap.get?_push_of_some _ q) (Nat.le_refl _) ⟨by rw [List.length_reverse]; exact hz, _, r.reverse, IsTup.new _ _⟩, rfl, q _ (J.hok.fresh (Nat.le_refl _))⟩
end ZS

set_option Elab.async false
set_option linter.all false
set_option maxRecDepth 100000
set_option maxHeartbeats 2000000
/-! X7: min of a tuple of ints. -/
namespace ZS
open PySem PySem.Spec PyProof.Rows L2
theorem minT0 {P : Program} {w : World} {A : Around} {E : Value → Shared → Prop} {s : Shared} {l : Addr} {xs : Array (Int × Tok)} {Q : Value → Shared → Prop} (hh : A.handled = none) (hl : s.heap.IsTuple l (intItems xs)) (hne : 0 < xs.size)
    (h : ∀ v h' tk, (intItems xs)[argBest (fun i j => decide (numAt xs i < numAt xs j)) (xs.size - 1)]? = some v → (∀ b o, s.heap.get? b = some o → h'.get? b = some o) → Q v { s with heap := h', toks := tk }) :
    wpAny (model P w) A (call (.builtin "min") [.ref l]) Q E s := by
  have hlt : l < s.heap.objs.size := by obtain ⟨_, e, _⟩ := hl; exact Heap.lt_size e
  refine call_min_walk (wpAny_pyIter_tuple hl ?_)
  refine ⟨_, [s.heap.objs.size, l], [s.heap.objs.size], _, _, _, _, rfl, Walks.tuple (A := A.in1) hh _ l (Nat.ne_of_lt hlt) (intItems xs), ⟨⟨_, Heap.get?_push_size _ rfl, rfl, rfl⟩, hl.push _⟩, fun c hc => ?_, by simpa [intItems] using hne, CmpOf.ints_lt (numAt xs) (fun _ _ => intItems_at), fun v h' tk hP hk => ?_⟩
  · show c < (s.heap.push _).objs.size
    rw [Heap.size_push]
    simp only [List.mem_cons, List.not_mem_nil, or_false] at hc
    rcases hc with z | z
    · rw [z]; exact Nat.lt_succ_self _
    · rw [z]; exact Nat.lt_succ_of_lt hlt
  · refine h v h' tk (by simpa [intItems] using hP) fun b o e => hk b o (fun hm => ?_) (Heap.get?_push_of_some _ e)
    have := Heap.lt_size e
    rw [List.mem_singleton.mp hm] at this
    exact Nat.lt_irrefl _ this
theorem minT1 {P : Program} {w : World} {A : Around} {E : Value → Shared → Prop} {s : Shared} {l : Addr} {its : List Value} {ns : List Int} {Q : Value → Shared → Prop} (hh : A.handled = none) (hl : s.heap.IsTuple l its.toArray) (hi : IntsAre its ns) (hne : 0 < ns.length)
    (h : ∀ h' tk M t', (∀ b o, s.heap.get? b = some o → h'.get? b = some o) → M ∈ ns → (∀ a, a ∈ ns → M ≤ a) → Q (.int M t') { s with heap := h', toks := tk }) : wpAny (model P w) A (call (.builtin "min") [.ref l]) Q E s := by
  obtain ⟨xs, e⟩ := hi.allInts.items
  have hn : numsOf (intItems xs).toList = ns := by rw [← e]; exact hi.numsOf
  rw [nums_intItems] at hn
  subst hn
  rw [e] at hl
  refine minT0 hh hl (by simpa using hne) fun v h' tk hv hk => ?_
  obtain ⟨t, rfl⟩ := intItems_at hv
  have hb := argBest_lt (numAt xs) (xs.size - 1)
  have hx : 0 < xs.size := by simpa using hne
  refine h h' tk _ t hk ?_ fun a ha => ?_
  · rw [numAt_eq]; exact PySem.getD_mem (by rw [List.length_map, Array.length_toList]; omega)
  · obtain ⟨j, hj, rfl⟩ := mem_getD ha
    rw [List.length_map, Array.length_toList] at hj
    rw [← numAt_eq]; exact hb.2 j (by omega)
/-- min(t) -/
def rMinT (K : PySem.W.Frag) : List V → Hp → VK → Prop := fun vs H Q => ∃ (a : Addr) (ns : List Int), vs = [V.ref a] ∧ SqT K H a (ns.map V.int) ∧ 0 < ns.length ∧ ∀ m, m ∈ ns → (∀ y, y ∈ ns → m ≤ y) → Q (.int m) H
theorem cr_minT {X : Cx} (hc : X.calm = true) : CallR X (.builtin "min") (rMinT X.K) := by
  intro pins s σ H vs us Q I r ⟨a, ns, ex, hs, hne, q⟩
  subst ex
  obtain ⟨its, rv, hl, _⟩ := I.tuple hs
  rw [Vals.ref1 r]
  exact minT1 (I.ok.hd hc) (show s.heap.IsTuple a its.toArray from hl) rv.ints hne fun h' tk m t' hk h1 h2 => ⟨.int _, H, I.kept hk, ⟨_, rfl⟩, q m h1 h2⟩
end ZS

set_option Elab.async false
set_option linter.all false
set_option maxRecDepth 100000
set_option maxHeartbeats 2000000
/-! X8: repr of a tuple, of a list. -/
namespace ZS
open PySem PySem.Spec PyProof.Rows L2
theorem call_repr {X : Cx} (hg : X.A.guards = some []) (hu : X.A.units + 64 < cLine) : CallR X (.builtin "repr") (fun xs H Q => ∃ a d, xs = [.ref a] ∧ Dp X.K H (.ref a) d ∧ d.showable = true ∧ d.depth ≤ 40 ∧ d.hasDict = false ∧ d.shown.length ≤ sizeLine ∧ Q (.str d.shown) H) := by
  intro pins s σ H xs us Q I r h
  obtain ⟨a, d, rfl, hd, h1, h2, h3, h4, q⟩ := h
  obtain ⟨u, rfl, ru⟩ := vals1 r
  obtain ⟨as, rd⟩ := Dp.reads I d _ u hd ru
  cases ru
  exact repr_of_reads' rd h1 (PyData.noDict_hsm h3) hg (by omega) (fun _ _ e => e) (fun h' u tk hk => ⟨.str d.shown, H, I.kept hk, ⟨u, rfl⟩, q⟩) h4
end ZS

set_option Elab.async false
set_option linter.all false
set_option maxRecDepth 100000
set_option maxHeartbeats 2000000
/-! X9: a def's promise where no repr is under way. -/
namespace ZG
open PySem PySem.Spec PyProof.Rows L2
structure FnG (P : Program) (w : World) (K : PySem.W.Frag) (mg : Str → Option Value) (base : Heap) (k : Nat) (f : Addr) (fd : FuncData) (ps : List Str) (sp : Sp) : Prop where
  len : ∀ vs H Q E, sp vs H Q E → vs.length = ps.length
  go : ∀ (A : Around), Room k A → A.guards = some [] → ∀ (fr : List Env) (s : Shared) (H : Hp) (args : Args) (us : List Value) (vs : List V) (Q : VK) (E : XK), sp vs H Q E → Vals vs us → BindsTo s fd args (ps.zip us) → Env0 P w K mg base A fr s H →
    codeAny (model P w) A (.call (.ref f) args) (fun r s' => CR (L2.CX P w) fr P w H s Q E r s') s
theorem FnG.mono {P : Program} {w : World} {K : PySem.W.Frag} {mg : Str → Option Value} {base : Heap} {j k : Nat} {f : Addr} {fd : FuncData} {ps : List Str} {sp : Sp} (F : FnG P w K mg base j f fd ps sp) (h : j ≤ k) : FnG P w K mg base k f fd ps sp :=
  ⟨F.len, fun A hr => F.go A (hr.mono h)⟩
section
variable {X : Cx} {k : Nat} {f : Addr} {fd : FuncData} {ps : List Str} {sp : Sp} {W : WX} {x : Str} {p pos : Pos} {e : Expr} {es : List Expr} {t : TA}
theorem runG {pins : List (Addr × Obj)} {σ : L2.St} {H : Hp} {s : Shared} {Q : VK} {us : List Value} {vs : List V} (F : FnG X.prog X.w X.K X.mg X.base k f fd ps sp) (hr : Room k X.A) (gu : X.A.guards = some []) (hb : Binds X.K fd ps []) (tk : Takes X W)
    (I : Inv X pins σ H s) (rv : Vals vs us) (h : sp vs H Q (WE W σ)) : wpAny (model X.prog X.w) X.A (call (.ref f) us) (EP X pins σ Q) X.xe s := by
  have b := hb s us I.kIn (by simpa using (rv.length.symm.trans (F.len _ _ _ _ h)))
  simp only [List.append_nil] at b
  refine wpAny_call (codeAny_mono (F.go X.A hr gu X.stack s H ⟨us, []⟩ us vs Q (WE W σ) h rv b I.env0) fun res s' z => ?_)
  cases res with
  | error er => exact passAt tk σ pins H s er s' I z
  | ok fl => cases fl <;> first | exact I.after z | exact z.elim
theorem pe_callG (F : FnG X.prog X.w X.K X.mg X.base k f fd ps sp) (hr : Room k X.A) (gu : X.A.guards = some []) (hg : Gl X x) (hm : X.mg x = some (.ref f)) (hk : PySem.W.keepIn X.K (.ref f) = true) (hb : Binds X.K fd ps []) (tk : Takes X W)
    (ha : PA X (e :: es) t) (hdb : (x == ("__debug__" : Str)) = false) (he : starEach (e :: es) X.env = (false, eval e X.env) :: starEach es X.env) (hpl : (backTo pos (starEach es X.env)).any (·.1) = false) :
    PE X (.Call (.Name x p) (e :: es) [] pos) (fun σ H Q => t σ H fun vs H1 => sp vs H1 Q (WE W σ)) :=
  ⟨fun pins s σ H Q I h => wpAny_Call_Name_kw (ld_glob I hg hm (PySem.W.callWith_K (h₀ := X.base) I.ok.mod.kin hk (thn (ha.run pos pins s σ H _ I h) fun us s1 ⟨vs, H1, I1, rv, q⟩ => ⟨I1.kIn, runG F hr gu hb tk I1 rv q⟩) he hpl) hdb)⟩
/-- a local that holds the def -/
theorem pe_callLG {i : Nat} (hN : X.N[i]? = some x) (hv : Vis X.env.scope x) (hdb : (x == ("__debug__" : Str)) = false) (hcd : (x == ("__classdict__" : Str)) = false) {hold : Addr → (List V → Hp → VK → XK → Prop) → Prop}
    (hh : ∀ f sp, hold f sp → ∃ k fd ps, FnG X.prog X.w X.K X.mg X.base k f fd ps sp ∧ Room k X.A ∧ PySem.W.keepIn X.K (.ref f) = true ∧ Binds X.K fd ps []) (gu : X.A.guards = some []) (tk : Takes X W)
    (ha : PA X (e :: es) t) (he : starEach (e :: es) X.env = (false, eval e X.env) :: starEach es X.env) (hpl : (backTo pos (starEach es X.env)).any (·.1) = false) :
    PE X (.Call (.Name x p) (e :: es) [] pos) (fun σ H Q => ∃ f sp, hold f sp ∧ σ[i]? = some (some (.ref f)) ∧ t σ H fun vs H1 => sp vs H1 Q (WE W σ)) := by
  refine ⟨fun pins s σ H Q I h => ?_⟩
  obtain ⟨f, sp, hf, hs, ht⟩ := h
  obtain ⟨k, fd, ps, F, hr, hk, hb⟩ := hh f sp hf
  refine wpAny_Call_Name_kw (thn ((pe_var (pos := p) hN hv hdb hcd).run pins s σ H (fun v H1 => v = .ref f ∧ H1 = H) I ⟨_, hs, rfl, rfl⟩) fun u s1 ⟨v, H1, I1, r1, q1⟩ => ?_)
  obtain ⟨rfl, rfl⟩ := q1
  cases r1
  exact PySem.W.callWith_K (h₀ := X.base) I.ok.mod.kin hk (thn (ha.run pos pins s1 σ _ _ I1 ht) fun us s2 ⟨vs, H2, I2, rv, q⟩ => ⟨I2.kIn, runG F hr gu hb tk I2 rv q⟩) he hpl
end
/-- the rule for a def -/
theorem fnG_of {P : Program} {w : World} {K : PySem.W.Frag} {mg : Str → Option Value} {base : Heap} {k : Nat} {x qual : Str} {params : Arguments} {body : List Stmt} {scope : Scope} {dvs : List V} {kws : List (Str × V)} {f : Addr} {fd : FuncData} {N ps : List Str} {sp : Sp}
    (F : FunD K x qual params body scope dvs kws f fd) (S : FnScope N ps scope) (len : ∀ vs H Q E, sp vs H Q E → vs.length = ps.length)
    (hbody : ∀ (cdv : Value) (A : Around) (fr : List Env) (s : Shared) (H : Hp) (vs : List V) (Q : VK) (E : XK), A.guards = some [] → Room k (A.deeper (envOfC qual scope s.heap.objs.size f cdv)) → sp vs H Q E →
      ∃ t, PSs (cxOf (L2.CX P w) P w K mg base N qual scope f cdv A fr s H E) body t ∧ t { nx := fun _ H' => Q .non H', rt := Q } (start N vs) H) : FnG P w K mg base (k + 1) f fd ps sp := by
  obtain ⟨oc, od, dV, kV, doc, pm, an, cdv, ct, osl, rfl, lk, hcd, _, _⟩ := F.ex
  refine ⟨len, fun A hr gu fr s H args us vs Q E hsp rv hb e0 => ?_⟩
  have kp : ∀ b o, base.get? b = some o → s.heap.get? b = some o := fun b o e => (e0.bs b o e).1
  have lv := len _ _ _ _ hsp
  have par : ∀ y ∈ ps.zip us, scope.names.lookup y.1 = some .local ∨ (scope.names.lookup y.1 = some .cell ∧ ((cellsFrom (s.heap.objs.size + 1) scope.names []).lookup y.1).isSome = true) := by
    rintro ⟨n, v⟩ hy
    exact (S.par n (List.of_mem_zip hy).1).imp id fun q => ⟨q, PySem.W.cellsFrom_some _ _ _ (.inl q)⟩
  have KX := e0.mod.kin.keeps kp
  refine codeAny_call_function hr.depth (KX _ _ lk) rfl S.co S.gen rfl (PySem.W.codeRec_of KX hcd) (hb _ _ _ _ (wpAny_newFunctionEnv_cells S.kind par fun env he s1 ic => ?_))
  subst he
  obtain ⟨t, ht, hq⟩ := hbody cdv A fr s H vs Q E gu (hr.deeper _) hsp
  refine ⟨(e0.mod.nolimit.keeps kp).keeps ic.toInCall.keep, codeAny_func (wpAny_mono (ht.run [] s1 (start N vs) H _ (inv_start S hr.hd e0 lv rv ic) hq) (fun fl s' z => ?_) fun er s' z => z)⟩
  cases fl with
  | ret u => obtain ⟨v, σ', H', J, r, q⟩ := z; exact ⟨v, H', J.os, J.bare, J.base, J.hok, r, q⟩
  | next => obtain ⟨σ', H', J, q⟩ := z; exact ⟨.non, H', J.os, J.bare, J.base, J.hok, rfl, q⟩
  | brk => obtain ⟨_, _, _, q⟩ := z; exact q.elim
  | cont => obtain ⟨_, _, _, q⟩ := z; exact q.elim
end ZG

set_option Elab.async false
set_option linter.all false
set_option maxRecDepth 100000
set_option maxHeartbeats 2000000
/-! X10: a law's end by such a promise. -/
namespace ZG
open PySem PySem.Spec PyProof.Rows L2
theorem lawG {P : Program} {w : World} {K : PySem.W.Frag} {mg mb : Str → Option Value} {k : Nat} {fa a : Addr} {fd : FuncData} {x : Str} {sp : Sp} {s : Shared} {vs : List Value} {ns : List Int}
    (hK : K.In s.heap) (hns : s.heap.Ns mainGlobals mg) (hb : s.heap.Ns builtinsNs mb) (hbb : ∀ x : Str, x ≠ "__name__" → mb x = bootBuiltins x) (hlim : s.heap.NoLimit) (hg : s.gens = #[]) (ha : s.heap.get? a = some { cls := .type "list", data := .seq vs.toArray })
    (hi : IntsAre vs ns) (hl : ns.length ≤ sizeLine) (hr : Room k callerA) (F : ∀ base : Heap, K.In base → base.Ns mainGlobals mg → FnG P w K mg base k fa fd [x] sp) (hbind : ∀ (s : Shared) (u : Value), BindsTo s fd ⟨[u], []⟩ [(x, u)])
    (hsp : ∀ H : Hp, Only H → SqL K H a (ns.map V.int) → sp [.ref a] H (fun v _ => v = .bl true) fun _ _ _ => False) :
    codeAny (model P w) callerA (.call (.ref fa) ⟨[.ref a], []⟩) (fun r s' => r = .ok (.ret (.bool true)) ∧ OldK s.heap s'.heap ∧ s'.os = s.os ∧ AllBare s'.gens) s := by
  have rv := vals_ints hi
  have go : ∀ H : Hp, Only H → SqL K H a (ns.map V.int) → HOk P w H s.heap → (∀ b, H b ≠ none → b = a ∧ K.lookup a = none) → codeAny (model P w) callerA (.call (.ref fa) ⟨[.ref a], []⟩) (fun r s' => r = .ok (.ret (.bool true)) ∧ OldK s.heap s'.heap ∧ s'.os = s.os ∧ AllBare s'.gens) s := by
    intro H only sq ok hA
    have hd : ∀ {b : Addr} {o : Obj} {es : Array DictEntry} {ep : Nat}, s.heap.get? b = some o → o.data = .dict es ep → H b = none := by
      intro b o es ep e1 e2
      cases q : H b with
      | none => rfl
      | some u =>
        obtain ⟨rfl, _⟩ := hA b (by rw [q]; simp)
        rw [ha] at e1
        cases e1
        cases e2
    have ns_ : ∀ {b : Addr} {m : Str → Option Value}, s.heap.Ns b m → (hidT s.heap H).Ns b m := by
      rintro b m ⟨o, es, ep, e, d, r⟩
      exact ⟨o, es, ep, hidT_get e (hd e d), d, r⟩
    have kb : K.In (hidT s.heap H) := by
      intro b o e
      refine hidT_get (hK b o e) ?_
      cases q : H b with
      | none => rfl
      | some u =>
        obtain ⟨rfl, z⟩ := hA b (by rw [q]; simp)
        rw [z] at e; cases e
    obtain ⟨mc, l1, l2⟩ := hlim
    have e0 : Env0 P w K mg (hidT s.heap H) callerA [] s H := ⟨rfl, ⟨kb, ns_ hns, ⟨mb, ns_ hb, hbb⟩, ⟨mc, ns_ l1, l2⟩⟩, fun b o e => of_hidT e, Nat.le_of_eq (hidT_size _ _), trivial, fun b hb => (by cases hb), ok, .of_eq hg⟩
    refine codeAny_mono ((F _ kb (ns_ hns)).go callerA hr rfl [] s H ⟨[.ref a], []⟩ [.ref a] [.ref a] _ _ (hsp H only sq) (.cons rfl .nil) (hbind s (.ref a)) e0) ?_
    intro r s' h
    cases r with
    | error e =>
      obtain ⟨_, _, _, _, _, _, _, _, _, _, _, _, z⟩ := h
      exact z.elim
    | ok fl =>
      cases fl <;> first | exact h.elim | skip
      obtain ⟨v, H', os, bare, un, ok', r', q⟩ := h
      have q : v = .bl true := q
      subst q
      cases r'
      refine ⟨rfl, OldK.of_keep fun b o e => ?_, os, bare⟩
      rcases only b with z | ⟨ob, xs, z⟩
      · exact un.keep b o e z (by intro z; cases z) (by simp)
      · obtain ⟨e1, _⟩ := ok b _ z
        obtain ⟨e2, _⟩ := ok' b _ (un.frzs b ob _ z)
        rw [e] at e1
        cases e1
        exact e2
  cases hk : K.lookup a with
  | some o =>
    have e := hK a o hk
    rw [ha] at e
    cases e
    refine go (fun _ => none) (fun _ => .inl rfl) (.inr ⟨_, vs.toArray, _, hk, rfl, rfl, rfl, ?_, by simpa using rv⟩) (fun b u z => by cases z) fun b z => absurd rfl z
    rw [List.size_toArray, hi.length]
    exact hl
  | none =>
    have at_ : ∀ b, (fun b => if b = a then some (HO.frz { cls := .type "list", data := .seq vs.toArray } (.lst (ns.map V.int))) else none : Hp) b = if b = a then some (HO.frz { cls := .type "list", data := .seq vs.toArray } (.lst (ns.map V.int))) else none := fun _ => rfl
    refine go (fun b => if b = a then some (.frz { cls := .type "list", data := .seq vs.toArray } (.lst (ns.map V.int))) else none) (fun b => ?_) (.inl (.inr ⟨_, if_pos rfl⟩)) (fun b u z => ?_) (fun b z => ?_)
    · by_cases h : b = a
      · exact .inr ⟨_, _, if_pos h⟩
      · exact .inl (if_neg h)
    · by_cases h : b = a
      · subst h
        cases (if_pos rfl).symm.trans z
        exact ⟨ha, by rw [List.length_map]; exact hl, vs, _, rv, ha⟩
      · cases (if_neg h).symm.trans z
    · by_cases h : b = a
      · exact ⟨h, hk⟩
      · exact absurd (if_neg h) z
theorem walkG {l : PySem.W.OpenLaw} {n k : Nat} {q : Program} {loose : List Str} {XP : (Str → Option Value) → Heap → Prop} {YP : World → Heap → Prop} {d : DefRec} {x : Str} (hn : l.most = some n) (hn2 : n ≤ sizeLine) (hdf : d.params.defaults = []) (hr : Room k callerA)
    (F : ∀ (w : World) (mg : Str → Option Value) (fa : Addr) (h : Heap), YP w h → h.Ns mainGlobals mg → mg d.name = some (.ref fa) → ∃ (K : PySem.W.Frag) (fd : FuncData) (sp : Sp), K.In h ∧ (∀ (s : Shared) (u : Value), BindsTo s fd ⟨[u], []⟩ [(x, u)]) ∧
      (∀ (H : Hp) (a : Addr) (ns : List Int), ns.length ≤ n → Only H → SqL K H a (ns.map V.int) → sp [.ref a] H (fun v _ => v = .bl true) fun _ _ _ => False) ∧ ∀ base : Heap, K.In base → base.Ns mainGlobals mg → FnG l.prog w K mg base k fa fd [x] sp) :
    PySem.W.WalkO q loose XP YP l.row.toRowW d [] (fun f vs => PySem.call f vs) :=
  Att.attach_call hn hdf fun w s₀ s₁ mg mb fa o pm cd doc a vs ns G Y ho hd hcd hmg hobj hints hlen hg => by
    obtain ⟨K, fd, sp, KX, hb, hsp, hF⟩ := F w mg fa _ Y G.T.g hmg
    exact lawG KX G.T.g G.T.b G.T.builtins G.T.nolimit hg hobj hints (Nat.le_trans hlen hn2) hr hF hb (fun H hO hS => hsp H a ns hlen hO hS)
end ZG

set_option Elab.async false
set_option linter.all false
set_option maxRecDepth 100000
set_option maxHeartbeats 400000
/-! Z1: plain values and a plain store beside the layer's values and heap. -/
namespace Z
open PySem PySem.Spec PyProof.Rows L2

/-- a plain value: a tuple is its items; obj n is the n-th thing of the store; tl: a list that is no thing of the store (it is read alone, while it lasts);
rl: a list that never changes; fn: a def of the top -/
inductive U where
  | non | bl (b : Bool) | int (i : Int) | str (s : Str) | tup (xs : List U) | obj (n : Nat) | tl (xs : List U) | rl (xs : List U) | fn (x : Str)
inductive SO where
  | lst (us : List U) | dct (kvs : List (Key × U)) | ins (C : Str) (fs : List (Str × U))
abbrev Sto := List SO
/-- what is raised: the class, its one field -/
abbrev Xn := Str × Option (Str × U)
inductive Res (α : Type) where
  | ok (a : α) (S : Sto) | ex (x : Xn) (S : Sto) | no
def Res.bind {α β : Type} (r : Res α) (f : α → Sto → Res β) : Res β := match r with
  | .ok a S => f a S
  | .ex x S => .ex x S
  | .no => .no

/-- a list that never changes -/
def KL (K : PySem.W.Frag) (H : Hp) (a : Addr) (vs : List V) : Prop := (∃ o, H a = some (.frz o (.lst vs))) ∨ SqL K (fun _ => none) a vs
theorem KL.sq {K : PySem.W.Frag} {H : Hp} {a : Addr} {vs : List V} (h : KL K H a vs) : SqL K H a vs := by
  rcases h with h | h
  · exact .inl (.inr h)
  · rcases h with (h | ⟨_, h⟩) | h
    · cases h
    · cases h
    · exact .inr h
theorem KL.to {K : PySem.W.Frag} {H H' : Hp} {a : Addr} {vs : List V} (h : KL K H a vs) (k : ∀ o, H a = some (.frz o (.lst vs)) → H' a = some (.frz o (.lst vs))) : KL K H' a vs := by
  rcases h with ⟨o, h⟩ | h
  · exact .inl ⟨o, k o h⟩
  · exact .inr h
section
variable (K : PySem.W.Frag) (mg : Str → Option Value)
mutual
inductive RU (μ : Nat → Addr) (n : Nat) (Y : List Addr) (H : Hp) : U → V → Prop
  | non : RU μ n Y H .non .non
  | bl (b : Bool) : RU μ n Y H (.bl b) (.bl b)
  | int (i : Int) : RU μ n Y H (.int i) (.int i)
  | str (x : Str) : RU μ n Y H (.str x) (.str x)
  | tup {us : List U} {a : Addr} {vs : List V} : SqT K H a vs → RUs μ n Y H us vs → RU μ n Y H (.tup us) (.ref a)
  | obj {k : Nat} {a : Addr} : k < n → a = μ k → RU μ n Y H (.obj k) (.ref a)
  | tl {us : List U} {a : Addr} {vs : List V} : H a = some (.lst vs) → (∀ i, i < n → a ≠ μ i) → a ∉ Y → RUs μ n Y H us vs → RU μ n Y H (.tl us) (.ref a)
  | rl {us : List U} {a : Addr} {vs : List V} : KL K H a vs → RUs μ n Y H us vs → RU μ n Y H (.rl us) (.ref a)
  | fn {x : Str} {a : Addr} : mg x = some (.ref a) → RU μ n Y H (.fn x) (.ref a)
inductive RUs (μ : Nat → Addr) (n : Nat) (Y : List Addr) (H : Hp) : List U → List V → Prop
  | nil : RUs μ n Y H [] []
  | cons {u : U} {v : V} {us : List U} {vs : List V} : RU μ n Y H u v → RUs μ n Y H us vs → RUs μ n Y H (u :: us) (v :: vs)
end
inductive RKs (μ : Nat → Addr) (n : Nat) (Y : List Addr) (H : Hp) : List (Key × U) → List (Key × V) → Prop
  | nil : RKs μ n Y H [] []
  | cons {k : Key} {u : U} {v : V} {us : List (Key × U)} {vs : List (Key × V)} : RU K mg μ n Y H u v → RKs μ n Y H us vs → RKs μ n Y H ((k, u) :: us) ((k, v) :: vs)
inductive RFs (μ : Nat → Addr) (n : Nat) (Y : List Addr) (H : Hp) : List (Str × U) → List (Str × V) → Prop
  | nil : RFs μ n Y H [] []
  | cons {k : Str} {u : U} {v : V} {us : List (Str × U)} {vs : List (Str × V)} : RU K mg μ n Y H u v → RFs μ n Y H us vs → RFs μ n Y H ((k, u) :: us) ((k, v) :: vs)
/-- the thing at a -/
def RO (μ : Nat → Addr) (n : Nat) (Y : List Addr) (H : Hp) (a : Addr) : SO → Prop
  | .lst us => ∃ vs, H a = some (.lst vs) ∧ RUs K mg μ n Y H us vs
  | .dct kvs => ∃ vs, H a = some (.dK vs) ∧ RKs K mg μ n Y H kvs vs
  | .ins C fs => ∃ c dx vs, mg C = some (.ref c) ∧ H a = some (.ins c dx vs) ∧ RFs K mg μ n Y H fs vs ∧ H dx = some (.own a)
structure RS (μ : Nat → Addr) (S : Sto) (Y : List Addr) (H : Hp) : Prop where
  inj : ∀ i j, i < S.length → j < S.length → μ i = μ j → i = j
  at_ : ∀ i o, S[i]? = some o → RO K mg μ S.length Y H (μ i) o
  res : ∀ a, a ∈ Y → H a ≠ none ∧ ∀ i, i < S.length → a ≠ μ i
end
/-- from (μ, n, H) on: the things stay where they are, new ones stand at new places, all else stays as it is -/
structure Gr (μ : Nat → Addr) (n : Nat) (H : Hp) (μ' : Nat → Addr) (n' : Nat) (H' : Hp) : Prop where
  le : n ≤ n'
  at_ : ∀ i, i < n → μ' i = μ i
  new : ∀ i, n ≤ i → i < n' → H (μ' i) = none
  all : ∀ a o, (∀ i, i < n → a ≠ μ i) → H a = some o → H' a = some o
  tup : ∀ a xs, H a = some (.tup xs) → H' a = some (.tup xs)
  frz : ∀ a o u, H a = some (.frz o u) → H' a = some (.frz o u)

section
variable {K : PySem.W.Frag} {mg : Str → Option Value} {Y : List Addr} {μ μ' μ1 : Nat → Addr} {n n' n1 : Nat} {H H' H1 : Hp}
theorem Gr.refl : Gr μ n H μ n H := ⟨Nat.le_refl _, fun _ _ => rfl, fun i h h' => absurd h' (by omega), fun _ _ _ h => h, fun _ _ h => h, fun _ _ _ h => h⟩
theorem Gr.off (g : Gr μ n H μ' n' H') {a : Addr} {o : HO} (ha : ∀ i, i < n → a ≠ μ i) (h : H a = some o) : ∀ i, i < n' → a ≠ μ' i := fun i hi q => by
  by_cases z : i < n
  · exact ha i z (by rw [q, g.at_ i z])
  · have := g.new i (by omega) hi
    rw [← q, h] at this
    cases this
theorem Gr.trans (g : Gr μ n H μ1 n1 H1) (g' : Gr μ1 n1 H1 μ' n' H') (inj : ∀ i j, i < n' → j < n' → μ' i = μ' j → i = j) : Gr μ n H μ' n' H' := by
  refine ⟨Nat.le_trans g.le g'.le, fun i hi => by rw [g'.at_ i (Nat.lt_of_lt_of_le hi g.le), g.at_ i hi], fun i h h' => ?_, fun a o ha h => g'.all a o (g.off ha h) (g.all a o ha h), fun a xs h => g'.tup a xs (g.tup a xs h), fun a o u h => g'.frz a o u (g.frz a o u h)⟩
  by_cases z : i < n1
  · rw [g'.at_ i z]; exact g.new i h z
  · cases e : H (μ' i) with
    | none => rfl
    | some o =>
      have hne : ∀ j, j < n → μ' i ≠ μ j := fun j hj q => by
        have h1 : μ' j = μ j := by rw [g'.at_ j (Nat.lt_of_lt_of_le hj g.le), g.at_ j hj]
        have := inj i j h' (Nat.lt_of_lt_of_le hj (Nat.le_trans g.le g'.le)) (by rw [q, h1])
        omega
      have := g.all _ o hne e
      rw [g'.new i (by omega) h'] at this
      cases this
theorem Gr.sqT (g : Gr μ n H μ' n' H') {a : Addr} {xs : List V} (h : SqT K H a xs) : SqT K H' a xs := by
  rcases h with (h | ⟨o, h⟩) | h
  · exact .inl (.inl (g.tup _ _ h))
  · exact .inl (.inr ⟨o, g.frz _ _ _ h⟩)
  · exact .inr h
mutual
theorem RU.mono (g : Gr μ n H μ' n' H') : ∀ {u : U} {v : V}, RU K mg μ n Y H u v → RU K mg μ' n' Y H' u v
  | _, _, .non => .non
  | _, _, .bl b => .bl b
  | _, _, .int i => .int i
  | _, _, .str x => .str x
  | _, _, .tup h r => .tup (g.sqT h) (RUs.mono g r)
  | _, _, .obj h e => .obj (Nat.lt_of_lt_of_le h g.le) (by rw [e, g.at_ _ h])
  | _, _, .tl h ha hy r => .tl (g.all _ _ ha h) (g.off ha h) hy (RUs.mono g r)
  | _, _, .rl h r => .rl (h.to fun o q => g.frz _ _ _ q) (RUs.mono g r)
  | _, _, .fn h => .fn h
theorem RUs.mono (g : Gr μ n H μ' n' H') : ∀ {us : List U} {vs : List V}, RUs K mg μ n Y H us vs → RUs K mg μ' n' Y H' us vs
  | _, _, .nil => .nil
  | _, _, .cons h r => .cons (RU.mono g h) (RUs.mono g r)
end
theorem RKs.mono (g : Gr μ n H μ' n' H') : ∀ {us : List (Key × U)} {vs : List (Key × V)}, RKs K mg μ n Y H us vs → RKs K mg μ' n' Y H' us vs
  | _, _, .nil => .nil
  | _, _, .cons h r => .cons (RU.mono g h) (RKs.mono g r)
theorem RFs.mono (g : Gr μ n H μ' n' H') : ∀ {us : List (Str × U)} {vs : List (Str × V)}, RFs K mg μ n Y H us vs → RFs K mg μ' n' Y H' us vs
  | _, _, .nil => .nil
  | _, _, .cons h r => .cons (RU.mono g h) (RFs.mono g r)
theorem RUs.length : ∀ {us : List U} {vs : List V}, RUs K mg μ n Y H us vs → us.length = vs.length
  | _, _, .nil => rfl
  | _, _, .cons _ r => by simp [RUs.length r]
theorem RUs.get : ∀ {us : List U} {vs : List V} {i : Nat} {u : U}, RUs K mg μ n Y H us vs → us[i]? = some u → ∃ v, vs[i]? = some v ∧ RU K mg μ n Y H u v
  | _, _, _, _, .nil, e => by simp at e
  | _, _, 0, _, .cons h _, e => by simp at e; subst e; exact ⟨_, rfl, h⟩
  | _, _, i + 1, _, .cons _ r, e => by
    obtain ⟨v, h1, h2⟩ := RUs.get (i := i) r (by simpa using e)
    exact ⟨v, by simpa using h1, h2⟩
theorem RUs.got : ∀ {us : List U} {vs : List V} {i : Nat} {v : V}, RUs K mg μ n Y H us vs → vs[i]? = some v → ∃ u, us[i]? = some u ∧ RU K mg μ n Y H u v
  | _, _, _, _, .nil, e => by simp at e
  | _, _, 0, _, .cons h _, e => by simp at e; subst e; exact ⟨_, rfl, h⟩
  | _, _, i + 1, _, .cons _ r, e => by
    obtain ⟨v, h1, h2⟩ := RUs.got (i := i) r (by simpa using e)
    exact ⟨v, by simpa using h1, h2⟩
theorem RUs.append : ∀ {us ws : List U} {vs xs : List V}, RUs K mg μ n Y H us vs → RUs K mg μ n Y H ws xs → RUs K mg μ n Y H (us ++ ws) (vs ++ xs)
  | _, _, _, _, .nil, s => s
  | _, _, _, _, .cons h r, s => .cons h (RUs.append r s)
theorem RUs.set {u : U} {v : V} (h : RU K mg μ n Y H u v) : ∀ {us : List U} {vs : List V} (i : Nat), RUs K mg μ n Y H us vs → RUs K mg μ n Y H (us.set i u) (vs.set i v)
  | _, _, _, .nil => .nil
  | _, _, 0, .cons _ r => .cons h r
  | _, _, i + 1, .cons q r => .cons q (RUs.set h i r)
theorem RUs.take : ∀ {us : List U} {vs : List V} (i : Nat), RUs K mg μ n Y H us vs → RUs K mg μ n Y H (us.take i) (vs.take i)
  | _, _, 0, _ => by simpa using RUs.nil
  | _, _, _ + 1, .nil => .nil
  | _, _, i + 1, .cons q r => .cons q (RUs.take i r)
theorem RUs.drop : ∀ {us : List U} {vs : List V} (i : Nat), RUs K mg μ n Y H us vs → RUs K mg μ n Y H (us.drop i) (vs.drop i)
  | _, _, 0, r => by simpa using r
  | _, _, _ + 1, .nil => .nil
  | _, _, i + 1, .cons _ r => by simpa using RUs.drop i r
theorem RUs.reverse : ∀ {us : List U} {vs : List V}, RUs K mg μ n Y H us vs → RUs K mg μ n Y H us.reverse vs.reverse
  | _, _, .nil => .nil
  | _, _, .cons q r => by
    rw [List.reverse_cons, List.reverse_cons]
    exact RUs.append (RUs.reverse r) (.cons q .nil)
theorem RUs.ints : ∀ ns : List Int, RUs K mg μ n Y H (ns.map U.int) (ns.map V.int)
  | [] => .nil
  | i :: r => .cons (.int i) (RUs.ints r)

/-! ### the store: a new thing, a written one -/
theorem RO.mono {a : Addr} {o : SO} (g : Gr μ n H μ' n' H') (ha : H' a = H a) (hd : ∀ c dx fs, H a = some (.ins c dx fs) → H dx = some (.own a) → H' dx = some (.own a)) (r : RO K mg μ n Y H a o) : RO K mg μ' n' Y H' a o := by
  cases o with
  | lst us => obtain ⟨vs, h, r⟩ := r; exact ⟨vs, by rw [ha]; exact h, r.mono g⟩
  | dct kvs => obtain ⟨vs, h, r⟩ := r; exact ⟨vs, by rw [ha]; exact h, r.mono g⟩
  | ins C fs => obtain ⟨c, dx, vs, gC, h, r, d⟩ := r; exact ⟨c, dx, vs, gC, by rw [ha]; exact h, r.mono g, hd c dx vs h d⟩
theorem RO.there {a : Addr} {o : SO} (r : RO K mg μ n Y H a o) : (∃ vs, H a = some (.lst vs)) ∨ (∃ vs, H a = some (.dK vs)) ∨ ∃ c dx vs, H a = some (.ins c dx vs) := by
  cases o with
  | lst us => obtain ⟨vs, h, _⟩ := r; exact .inl ⟨vs, h⟩
  | dct kvs => obtain ⟨vs, h, _⟩ := r; exact .inr (.inl ⟨vs, h⟩)
  | ins C fs => obtain ⟨c, dx, vs, _, h, _⟩ := r; exact .inr (.inr ⟨c, dx, vs, h⟩)
theorem RO.some_ {a : Addr} {o : SO} (r : RO K mg μ n Y H a o) : H a ≠ none := by
  rcases r.there with ⟨vs, h⟩ | ⟨vs, h⟩ | ⟨c, dx, vs, h⟩ <;> rw [h] <;> simp
theorem RO.notOwn {a b : Addr} {o : SO} (r : RO K mg μ n Y H a o) : H a ≠ some (.own b) := by
  rcases r.there with ⟨vs, h⟩ | ⟨vs, h⟩ | ⟨c, dx, vs, h⟩ <;> rw [h] <;> simp
theorem RO.notTup {a : Addr} {o : SO} {xs : List V} (r : RO K mg μ n Y H a o) : H a ≠ some (.tup xs) := by
  rcases r.there with ⟨vs, h⟩ | ⟨vs, h⟩ | ⟨c, dx, vs, h⟩ <;> rw [h] <;> simp
theorem RO.notFrz {a : Addr} {o : SO} {p : Obj} {u : HO} (r : RO K mg μ n Y H a o) : H a ≠ some (.frz p u) := by
  rcases r.there with ⟨vs, h⟩ | ⟨vs, h⟩ | ⟨c, dx, vs, h⟩ <;> rw [h] <;> simp
def ext1 (μ : Nat → Addr) (n : Nat) (p : Addr) : Nat → Addr := fun i => if i = n then p else μ i
theorem ext1_at {p : Addr} : ext1 μ n p n = p := by unfold ext1; rw [if_pos rfl]
theorem ext1_lt {p : Addr} {i : Nat} (h : i < n) : ext1 μ n p i = μ i := by unfold ext1; rw [if_neg (by omega)]
theorem RS.off {S : Sto} (r : RS K mg μ S Y H) {p : Addr} (hp : H p = none) : ∀ i, i < S.length → μ i ≠ p := fun i hi q => by
  have h := (r.at_ i _ (List.getElem?_eq_getElem hi)).some_
  rw [q] at h; exact h hp
theorem RS.offTup {S : Sto} (r : RS K mg μ S Y H) {p : Addr} {xs : List V} (hp : H p = some (.tup xs)) : ∀ i, i < S.length → p ≠ μ i := fun i hi q =>
  (r.at_ i _ (List.getElem?_eq_getElem hi)).notTup (by rw [← q]; exact hp)
theorem Gr.fresh {S : Sto} (_ : RS K mg μ S Y H) {p : Addr} {ho : HO} (hp : H p = none) : Gr μ S.length H μ S.length (upd H p ho) := by
  have k : ∀ a o, H a = some o → upd H p ho a = some o := fun a o e => by rw [upd_ne (fun q => by rw [q, hp] at e; cases e)]; exact e
  exact ⟨Nat.le_refl _, fun _ _ => rfl, fun i h h' => absurd h' (by omega), fun a o _ h => k a o h, fun a xs h => k a _ h, fun a o u h => k a _ h⟩
theorem Gr.new1 {S : Sto} (r : RS K mg μ S Y H) {p : Addr} {ho : HO} (hp : H p = none) : Gr μ S.length H (ext1 μ S.length p) (S.length + 1) (upd H p ho) := by
  have k : ∀ a o, H a = some o → upd H p ho a = some o := fun a o e => by rw [upd_ne (fun q => by rw [q, hp] at e; cases e)]; exact e
  refine ⟨Nat.le_succ _, fun i hi => ext1_lt hi, fun i h h' => ?_, fun a o _ h => k a o h, fun a xs h => k a _ h, fun a o u h => k a _ h⟩
  have : i = S.length := by omega
  subst this
  rw [ext1_at]; exact hp
theorem RS.fresh {S : Sto} (r : RS K mg μ S Y H) {p : Addr} {ho : HO} (hp : H p = none) : RS K mg μ S Y (upd H p ho) := by
  have hl := r.off hp
  exact ⟨r.inj, fun i o h => (r.at_ i o h).mono (Gr.fresh r hp) (upd_ne (hl i (List.getElem?_eq_some_iff.mp h).1)) fun c dx fs _ hd => by
    rw [upd_ne (fun q => by rw [q, hp] at hd; cases hd)]; exact hd, fun a ha => ⟨by rw [upd_ne (fun q => (r.res a ha).1 (by rw [q]; exact hp))]; exact (r.res a ha).1, (r.res a ha).2⟩⟩
theorem RS.new {S : Sto} (r : RS K mg μ S Y H) {p : Addr} {ho : HO} {o : SO} (hp : H p = none) (hb : RO K mg (ext1 μ S.length p) (S.length + 1) Y (upd H p ho) p o) :
    RS K mg (ext1 μ S.length p) (S ++ [o]) Y (upd H p ho) := by
  have hl := r.off hp
  refine ⟨fun i j hi hj e => ?_, fun i o' h => ?_, fun a ha => ⟨by rw [upd_ne (fun q => (r.res a ha).1 (by rw [q]; exact hp))]; exact (r.res a ha).1, fun i hi => ?_⟩⟩
  rotate_left
  rotate_left
  · rw [List.length_append, List.length_singleton] at hi
    by_cases qi : i < S.length
    · rw [ext1_lt qi]; exact (r.res a ha).2 i qi
    · have : i = S.length := by omega
      subst this
      rw [ext1_at]
      exact fun q => (r.res a ha).1 (by rw [q]; exact hp)
  · rw [List.length_append, List.length_singleton] at hi hj
    by_cases qi : i = S.length
    · by_cases qj : j = S.length
      · omega
      · have hj' : j < S.length := by omega
        rw [ext1_lt hj', qi, ext1_at] at e
        exact (hl j hj' e.symm).elim
    · have hi' : i < S.length := by omega
      by_cases qj : j = S.length
      · rw [ext1_lt hi', qj, ext1_at] at e
        exact (hl i hi' e).elim
      · have hj' : j < S.length := by omega
        rw [ext1_lt hi', ext1_lt hj'] at e
        exact r.inj i j hi' hj' e
  · rw [List.length_append, List.length_singleton]
    by_cases qi : i < S.length
    · rw [List.getElem?_append_left qi] at h
      rw [ext1_lt qi]
      exact (r.at_ i o' h).mono (Gr.new1 r hp) (upd_ne (hl i qi)) fun c dx fs _ hd => by
        rw [upd_ne (fun q => by rw [q, hp] at hd; cases hd)]; exact hd
    · have : i = S.length := by
        have := (List.getElem?_eq_some_iff.mp h).1
        rw [List.length_append, List.length_singleton] at this
        omega
      subst this
      rw [List.getElem?_append_right (Nat.le_refl _), Nat.sub_self] at h
      have h := Option.some.inj h
      subst h
      rw [ext1_at]
      exact hb
theorem Gr.write {S : Sto} (r : RS K mg μ S Y H) {k : Nat} {ho : HO} (hk : k < S.length) : Gr μ S.length H μ S.length (upd H (μ k) ho) := by
  have q := r.at_ k _ (List.getElem?_eq_getElem hk)
  refine ⟨Nat.le_refl _, fun _ _ => rfl, fun i h h' => absurd h' (by omega), fun a o ha h => ?_, fun a xs h => ?_, fun a o u h => ?_⟩
  · rw [upd_ne (ha k hk)]; exact h
  · rw [upd_ne (fun z => q.notTup (by rw [← z]; exact h))]; exact h
  · rw [upd_ne (fun z => q.notFrz (by rw [← z]; exact h))]; exact h
theorem RS.write {S : Sto} (r : RS K mg μ S Y H) {k : Nat} {o : SO} {ho : HO} (hk : k < S.length) (hb : RO K mg μ S.length Y (upd H (μ k) ho) (μ k) o) : RS K mg μ (S.set k o) Y (upd H (μ k) ho) := by
  have hw := fun b => (r.at_ k _ (List.getElem?_eq_getElem hk)).notOwn (b := b)
  refine ⟨fun i j hi hj e => r.inj i j (by simpa using hi) (by simpa using hj) e, fun i o' h => ?_, fun a ha => ⟨by rw [upd_ne ((r.res a ha).2 k hk)]; exact (r.res a ha).1, fun i hi => (r.res a ha).2 i (by simpa using hi)⟩⟩
  rw [List.length_set]
  by_cases q : k = i
  · subst q
    rw [List.getElem?_set_self hk] at h
    have h := Option.some.inj h
    subst h
    exact hb
  · rw [List.getElem?_set_ne q] at h
    have hi := (List.getElem?_eq_some_iff.mp h).1
    exact (r.at_ i o' h).mono (Gr.write r hk) (upd_ne fun e => q (r.inj i k hi hk e).symm) fun c dx fs _ hd => by
      rw [upd_ne (fun z => by rw [z] at hd; exact hw _ hd)]; exact hd

/-! ### what follows -/
/-- from (μ, S, H): wherever the store is S', P holds -/
def Nx (K : PySem.W.Frag) (mg : Str → Option Value) (μ : Nat → Addr) (S : Sto) (Y : List Addr) (H : Hp) (S' : Sto) (P : (Nat → Addr) → Hp → Prop) : Prop :=
  ∀ μ' H', Gr μ S.length H μ' S'.length H' → RS K mg μ' S' Y H' → P μ' H'
theorem Nx.shift {S S1 S' : Sto} {P : (Nat → Addr) → Hp → Prop} (x : Nx K mg μ S Y H S' P) (g : Gr μ S.length H μ1 S1.length H1) : Nx K mg μ1 S1 Y H1 S' P :=
  fun μ' H' g' r => x μ' H' (g.trans g' r.inj) r
theorem Nx.here {S : Sto} {P : (Nat → Addr) → Hp → Prop} (x : Nx K mg μ S Y H S P) (r : RS K mg μ S Y H) : P μ H := x μ H Gr.refl r
theorem Nx.imp {S S' : Sto} {P Q : (Nat → Addr) → Hp → Prop} (x : Nx K mg μ S Y H S' P) (h : ∀ μ' H', Gr μ S.length H μ' S'.length H' → RS K mg μ' S' Y H' → P μ' H' → Q μ' H') : Nx K mg μ S Y H S' Q :=
  fun μ' H' g r => h μ' H' g r (x μ' H' g r)
theorem Nx.fresh {S : Sto} {P : (Nat → Addr) → Hp → Prop} (x : Nx K mg μ S Y H S P) (r : RS K mg μ S Y H) {p : Addr} {ho : HO} (hp : H p = none) : P μ (upd H p ho) := x _ _ (Gr.fresh r hp) (r.fresh hp)
theorem Nx.new {S : Sto} {P : (Nat → Addr) → Hp → Prop} {o : SO} (x : Nx K mg μ S Y H (S ++ [o]) P) (r : RS K mg μ S Y H) {p : Addr} {ho : HO} (hp : H p = none) (hb : RO K mg (ext1 μ S.length p) (S.length + 1) Y (upd H p ho) p o) :
    P (ext1 μ S.length p) (upd H p ho) := x _ _ (by rw [List.length_append, List.length_singleton]; exact Gr.new1 r hp) (r.new hp hb)
theorem Nx.write {S : Sto} {P : (Nat → Addr) → Hp → Prop} {k : Nat} {o : SO} (x : Nx K mg μ S Y H (S.set k o) P) (r : RS K mg μ S Y H) {ho : HO} (hk : k < S.length) (hb : RO K mg μ S.length Y (upd H (μ k) ho) (μ k) o) :
    P μ (upd H (μ k) ho) := x _ _ (by rw [List.length_set]; exact Gr.write r hk) (r.write hk hb)

/-! ### the slots -/
abbrev Rho := List (Option U)
/-- the slots: what is known of them -/
def RE (K : PySem.W.Frag) (mg : Str → Option Value) (μ : Nat → Addr) (n : Nat) (Y : List Addr) (H : Hp) (ρ : Rho) (σ : L2.St) : Prop := ρ.length = σ.length ∧ ∀ (i : Nat) u, ρ[i]? = some (some u) → ∃ v, σ[i]? = some (some v) ∧ RU K mg μ n Y H u v
theorem RE.mono {ρ : Rho} {σ : L2.St} (e : RE K mg μ n Y H ρ σ) (g : Gr μ n H μ' n' H') : RE K mg μ' n' Y H' ρ σ :=
  ⟨e.1, fun i u h => let ⟨v, h1, h2⟩ := e.2 i u h; ⟨v, h1, h2.mono g⟩⟩
theorem RE.set {ρ : Rho} {σ : L2.St} (e : RE K mg μ n Y H ρ σ) {u : U} {v : V} (i : Nat) (r : RU K mg μ n Y H u v) : RE K mg μ n Y H (ρ.set i (some u)) (σ.set i (some v)) := by
  refine ⟨by simp [e.1], fun j w h => ?_⟩
  by_cases q : i = j
  · subst q
    by_cases hi : i < ρ.length
    · rw [List.getElem?_set_self hi] at h
      have h := Option.some.inj (Option.some.inj h)
      subst h
      exact ⟨v, by rw [List.getElem?_set_self (by rw [← e.1]; exact hi)], r⟩
    · rw [List.getElem?_eq_none (by simp; omega)] at h
      cases h
  · rw [List.getElem?_set_ne q] at h
    obtain ⟨w', h1, h2⟩ := e.2 j w h
    exact ⟨w', by rw [List.getElem?_set_ne q]; exact h1, h2⟩
theorem RE.wipe1 {ρ : Rho} {σ : L2.St} (e : RE K mg μ n Y H ρ σ) (i : Nat) : RE K mg μ n Y H (ρ.set i none) (σ.set i none) := by
  refine ⟨by simp [e.1], fun j w h => ?_⟩
  by_cases q : i = j
  · subst q
    by_cases hi : i < ρ.length
    · rw [List.getElem?_set_self hi] at h; cases h
    · rw [List.getElem?_eq_none (by simp; omega)] at h; cases h
  · rw [List.getElem?_set_ne q] at h
    obtain ⟨w', h1, h2⟩ := e.2 j w h
    exact ⟨w', by rw [List.getElem?_set_ne q]; exact h1, h2⟩
end
end Z

set_option Elab.async false
set_option linter.all false
set_option maxRecDepth 100000
set_option maxHeartbeats 400000
/-! Z2: the text in short (places for names, no positions), and what it comes to. -/
namespace Z
open PySem PySem.Spec PyProof.Rows L2

inductive BO where | add | sub | mul | md | fd | pw
  deriving DecidableEq
-- a built-in function
inductive BF where | len | tuple | int | abs | all | any | sum | min
  deriving DecidableEq
-- a built-in type
inductive BT where | int | bool | str | tuple | list | dict
  deriving DecidableEq
inductive CO where | lt | le | gt | ge | eq | ne | inn | nin
  deriving DecidableEq
mutual
inductive CT where
  | name (i : Nat) | tup (ts : CTs)
inductive CTs where
  | nil | cons (t : CT) (ts : CTs)
end
mutual
/-- an expression -/
inductive CE where
  | var (i : Nat) | int (i : Int) | str (s : Str) | non | bl (b : Bool) | glob (x : Str)
  | bin (o : BO) (a b : CE) | neg (a : CE)
  | cmp (o : CO) (a b : CE) | isN (a : CE) | notN (a : CE) | chn (o o' : CO) (a b c : CE)
  | bop (an : Bool) (as : CEs) | not (a : CE) | ite (t a b : CE)
  | call (f : Str) (as : CEs) | bi (f : BF) (as : CEs) | isi (a : CE) (T : BT)
  | idx (a i : CE) | sl (a : CE) (lo hi : CEs) | rev (a : CE)
  | tup (as : CEs) | tmp (n : CN) | mk (n : CN)
  | meth (m : Str) (o : CE) (as : CEs)
  | nope | repr (a : CE) | dget (x : Str) (a : CE) | din (x : Str) (no : Bool) (a : CE) | callL (i : Nat) (as : CEs)
/-- expressions in a row -/
inductive CEs where
  | nil | cons (e : CE) (es : CEs)
/-- what makes a new list -/
inductive CN where
  | lst (as : CEs) | lc (tg : CT) (it : CI) (cnd : CEs) (elt : CE) (own : List (Str × Nat)) | listOf (a : CE) | cat (a b : CE)
/-- what a for walks -/
inductive CI where
  | seq (e : CE) | rng1 (a : CE) | rng2 (a b : CE) | enum (e : CE) | zip (st : Bool) (a b : CE)
end

/-! ### values -/
/-- a list's items -/
def lstOf (S : Sto) : U → Option (List U)
  | .tl us => some us
  | .rl us => some us
  | .obj k => match S[k]? with
    | some (.lst us) => some us
    | _ => none
  | _ => none
-- a list's items, no locked one's
def lstH (S : Sto) : U → Option (List U)
  | .tl us => some us
  | .obj k => match S[k]? with
    | some (.lst us) => some us
    | _ => none
  | _ => none
def tupOf : U → Option (List U)
  | .tup us => some us
  | _ => none
def seqOf (S : Sto) (u : U) : Option (List U) := match u with
  | .tup us => some us
  | u => lstOf S u
-- as data, to some depth
mutual
def dat (S : Sto) : Nat → U → Option PyData
  | 0, _ => none
  | _ + 1, .non => some .none
  | _ + 1, .bl b => some (.bool b)
  | _ + 1, .int i => some (.int i)
  | _ + 1, .str s => some (.str s)
  | n + 1, .tup us => (datA S n us).map .tuple
  | n + 1, .tl us => (datA S n us).map .list
  | n + 1, .rl us => (datA S n us).map .list
  | n + 1, .obj k => match S[k]? with
    | some (.lst us) => (datA S n us).map .list
    | _ => none
  | _ + 1, .fn _ => none
def datA (S : Sto) : Nat → List U → Option (List PyData)
  | _, [] => some []
  | n, u :: us => match dat S n u, datA S n us with
    | some d, some ds => some (d :: ds)
    | _, _ => none
end
/-- what holds no thing in it -/
def U.flat : U → Bool
  | .non => true
  | .bl _ => true
  | .int _ => true
  | .str _ => true
  | _ => false
def U.isNon : U → Bool
  | .non => true
  | _ => false
def flatD : U → V
  | .bl b => .bl b
  | .int i => .int i
  | .str s => .str s
  | _ => .non
/-- where the ints are -/
def intsOf : List U → Option (List Int)
  | [] => some []
  | .int i :: r => (intsOf r).map (i :: ·)
  | _ => none
def blsOf : List U → Option (List Bool)
  | [] => some []
  | .bl i :: r => (blsOf r).map (i :: ·)
  | _ => none

def binE (S : Sto) : BO → U → U → Option U
  | .add, .int i, .int j => some (.int (i + j))
  | .add, .str x, .str y => if x.length + y.length ≤ sizeLine then some (.str (x ++ y)) else none
  | .add, .tup xs, .tup ys => if xs.length + ys.length ≤ sizeLine then some (.tup (xs ++ ys)) else none
  | .sub, .int i, .int j => some (.int (i - j))
  | .mul, .int i, .int j => if i.natAbs.log2 + j.natAbs.log2 < 1000000 then some (.int (i * j)) else none
  | .mul, .tup xs, .int k => if k = 1 then some (.tup xs) else if xs ≠ [] ∧ 2 ≤ k ∧ k ≤ 1000 ∧ xs.length ≤ 1000 then some (.tup (List.replicate k.toNat xs).flatten) else none
  | .md, .int i, .int j => if j ≠ 0 then some (.int (i.fmod j)) else none
  | .fd, .int i, .int j => if 0 < j ∧ j.natAbs.log2 < 9000 then some (.int (i / j)) else none
  | .pw, .int i, .int j => if 0 ≤ j ∧ j ≤ 1000000 ∧ i.natAbs < 2 ^ 64 then some (.int (i ^ j.toNat)) else none
  | .add, x, y => match lstH S x, lstH S y with
    | some xs, some ys => if xs.length + ys.length ≤ sizeLine then some (.tl (xs ++ ys)) else none
    | _, _ => none
  | _, _, _ => none
def inE (S : Sto) (u w : U) : Option Bool := match seqOf S w with
  | some us => if u.flat && us.all U.flat then some (inV (flatD u) (us.map flatD)) else none
  | none => none
def cmpE (S : Sto) : CO → U → U → Option Bool
  | .lt, .int i, .int j => some (decide (i < j))
  | .le, .int i, .int j => some (decide (i ≤ j))
  | .gt, .int i, .int j => some (decide (j < i))
  | .ge, .int i, .int j => some (decide (j ≤ i))
  | .eq, .str x, .str y => some (decide (x = y))
  | .eq, .int x, .int y => some (decide (x = y))
  | .ne, .str x, .str y => some (!decide (x = y))
  | .ne, .int x, .int y => some (!decide (x = y))
  | .eq, x, y => match dat S 12 x, dat S 12 y with
    | some d, some e => if SeqAt.shaped d && SeqAt.shaped e then some (PyData.eqv d e) else none
    | _, _ => none
  | .ne, x, y => match dat S 12 x, dat S 12 y with
    | some d, some e => if SeqAt.shaped d && SeqAt.shaped e then some (!PyData.eqv d e) else none
    | _, _ => none
  | .inn, x, y => inE S x y
  | .nin, x, y => (inE S x y).map (!·)
  | _, _, _ => none
def idxE (S : Sto) : U → U → Option U
  | x, .int i => match seqOf S x with
    | some us => atI us i
    | none => none
  | _, _ => none
def cutU (us : List U) (lo hi : Option Int) : List U := (us.drop (HT.sIx us.length 0 lo)).take (HT.sIx us.length us.length hi - HT.sIx us.length 0 lo)
def slE (S : Sto) (x : U) (lo hi : Option Int) : Option U := match x with
  | .tup us => some (.tup (cutU us lo hi))
  | x => match lstOf S x with
    | some us => some (.tl (cutU us lo hi))
    | none => none
def revE (S : Sto) (x : U) : Option U := match x with
  | .tup us => some (.tup us.reverse)
  | x => (lstOf S x).map fun us => .tl us.reverse
def minL : List Int → Int
  | [] => 0
  | [a] => a
  | a :: b :: r => if a ≤ minL (b :: r) then a else minL (b :: r)
/-- the built-in functions -/
def biE (S : Sto) : BF → List U → Option U
  | .len, [x] => match x with
    | .str z => if z.length ≤ sizeLine then some (.int z.length) else none
    | x => (seqOf S x).map fun us => .int us.length
  | .tuple, [x] => (seqOf S x).map .tup
  | .int, [.int i] => some (.int i)
  | .int, [.bl b] => some (.int (if b then 1 else 0))
  | .abs, [.int i] => some (.int (if i < 0 then -i else i))
  | .all, [x] => ((lstOf S x).bind blsOf).map fun bs => .bl (bs.all id)
  | .any, [x] => ((lstOf S x).bind blsOf).map fun bs => .bl (bs.any id)
  | .sum, [x] => ((lstOf S x).bind intsOf).map fun ns => .int ns.sum
  | .min, [x] => ((seqOf S x).bind intsOf).bind fun ns => if ns = [] then none else some (.int (minL ns))
  | _, _ => none
def tyE (S : Sto) : U → Option (Option BT)
  | .non => some none
  | .bl _ => some (some .bool)
  | .int _ => some (some .int)
  | .str _ => some (some .str)
  | .tup _ => some (some .tuple)
  | .tl _ => some (some .list)
  | .rl _ => some (some .list)
  | .obj k => match S[k]? with
    | some (.lst _) => some (some .list)
    | some (.dct _) => some (some .dict)
    | _ => none
  | .fn _ => none
def isiT : Option BT → BT → Bool
  | some .bool, .int => true
  | some t, T => decide (t = T)
  | none, _ => false
def isiE (S : Sto) (u : U) (T : BT) : Option Bool := (tyE S u).map fun t => isiT t T
/-- a value's written form -/
def U.isRef : U → Bool
  | .tup _ => true
  | .tl _ => true
  | .rl _ => true
  | .obj _ => true
  | _ => false
def reprE (S : Sto) (u : U) : Option U := match dat S 12 u with
  | some d => if (u.isRef && (d.showable && decide (d.shown.length ≤ sizeLine))) = true then some (.str d.shown) else none
  | none => none
/-- what the program's own names are worth -/
structure Th where
  dom : Str → Bool
  fn : Str → List U → Sto → Res U
  gl : Str → Option U
  meth : Str → U → List U → Sto → Option (U × Sto)
  dct : Str → Option (Str → Option (Option U))

def ofO {α : Type} (S : Sto) : Option α → Res α
  | some a => .ok a S
  | none => .no
def ofS {α : Type} : Option (α × Sto) → Res α
  | some (a, S) => .ok a S
  | none => .no
-- a target takes a value
mutual
def asgT : CT → U → Rho → Option Rho
  | .name i, u, ρ => some (ρ.set i (some u))
  | .tup ts, u, ρ => match u with
    | .tup us => asgTs ts us ρ
    | _ => none
def asgTs : CTs → List U → Rho → Option Rho
  | .nil, [], ρ => some ρ
  | .cons t ts, u :: us, ρ => (asgT t u ρ).bind fun ρ' => asgTs ts us ρ'
  | _, _, _ => none
end
def wipeR (ρ : Rho) : List Nat → Rho
  | [] => ρ
  | v :: vs => (wipeR ρ vs).set v none
/-- what is walked -/
inductive Src where
  | seq (u : U) | rng (lo : Int) (n : Nat) | enum (u : U) | zip (st : Bool) (u w : U)
/-- the i-th item: there, at an end, or not told -/
def Src.at_ (S : Sto) : Src → Nat → Option (Option U)
  | .seq u, i => (seqOf S u).map fun us => us[i]?
  | .rng lo n, i => some (if i < n then some (.int (lo + i)) else none)
  | .enum u, i => match seqOf S u with
    | some us => if us.length < i then none else some (us[i]?.map fun x => .tup [.int i, x])
    | none => none
  | .zip st u w, i => match seqOf S u, seqOf S w with
    | some xs, some ys => match xs[i]?, ys[i]? with
      | some x, some y => some (some (.tup [x, y]))
      | none, none => some none
      | _, _ => if st then none else some none
    | _, _ => none
def Src.len (S : Sto) : Src → Nat
  | .seq u => ((seqOf S u).getD []).length
  | .rng _ n => n
  | .enum u => ((seqOf S u).getD []).length
  | .zip _ u w => min ((seqOf S u).getD []).length ((seqOf S w).getD []).length
/-- a comprehension's turns: st takes an item and gives the new element, or nothing where it is left out; at most n turns more, the i-th is next -/
def lcGo (src : Src) (st : U → Sto → Res (Option U)) : Nat → Nat → List U → Sto → Res (List U)
  | n, i, acc, S => match src.at_ S i with
    | none => .no
    | some none => .ok acc S
    | some (some x) => match n with
      | 0 => .no
      | n + 1 => match st x S with
        | .ok (some u) S' => if acc.length < sizeLine then lcGo src st n (i + 1) (acc ++ [u]) S' else .no
        | .ok none S' => lcGo src st n (i + 1) acc S'
        | _ => .no

/-! ### what expressions come to -/
variable (T : Th)
mutual
def ev : CE → Rho → Sto → Res U
  | .var i, ρ, S => match ρ[i]? with
    | some (some u) => .ok u S
    | _ => .no
  | .int i, _, S => .ok (.int i) S
  | .str s, _, S => .ok (.str s) S
  | .non, _, S => .ok .non S
  | .bl b, _, S => .ok (.bl b) S
  | .glob x, _, S => ofO S (T.gl x)
  | .bin o a b, ρ, S => (ev a ρ S).bind fun u S1 => (ev b ρ S1).bind fun w S2 => ofO S2 (binE S2 o u w)
  | .neg a, ρ, S => (ev a ρ S).bind fun u S1 => match u with
    | .int i => .ok (.int (-i)) S1
    | _ => .no
  | .cmp o a b, ρ, S => (ev a ρ S).bind fun u S1 => (ev b ρ S1).bind fun w S2 => ofO S2 ((cmpE S2 o u w).map U.bl)
  | .isN a, ρ, S => (ev a ρ S).bind fun u S1 => .ok (.bl u.isNon) S1
  | .notN a, ρ, S => (ev a ρ S).bind fun u S1 => .ok (.bl (!u.isNon)) S1
  | .chn o o' a b c, ρ, S => (ev a ρ S).bind fun u S1 => (ev b ρ S1).bind fun w S2 => match cmpE S2 o u w with
    | some true => (ev c ρ S2).bind fun z S3 => ofO S3 ((cmpE S3 o' w z).map U.bl)
    | some false => .ok (.bl false) S2
    | none => .no
  | .bop an as, ρ, S => evB an as ρ S
  | .not a, ρ, S => (ev a ρ S).bind fun u S1 => match u with
    | .bl b => .ok (.bl (!b)) S1
    | _ => .no
  | .ite t a b, ρ, S => (ev t ρ S).bind fun u S1 => match u with
    | .bl true => ev a ρ S1
    | .bl false => ev b ρ S1
    | _ => .no
  | .call f as, ρ, S => if T.dom f = true then (evs as ρ S).bind fun us S1 => T.fn f us S1 else .no
  | .bi f as, ρ, S => (evs as ρ S).bind fun us S1 => ofO S1 (biE S1 f us)
  | .isi a t, ρ, S => (ev a ρ S).bind fun u S1 => ofO S1 ((isiE S1 u t).map U.bl)
  | .idx a i, ρ, S => (ev a ρ S).bind fun u S1 => (ev i ρ S1).bind fun w S2 => ofO S2 (idxE S2 u w)
  | .sl a lo hi, ρ, S => (ev a ρ S).bind fun u S1 => (evO lo ρ S1).bind fun l S2 => (evO hi ρ S2).bind fun h S3 => ofO S3 (slE S3 u l h)
  | .rev a, ρ, S => (ev a ρ S).bind fun u S1 => ofO S1 (revE S1 u)
  | .tup as, ρ, S => (evs as ρ S).bind fun us S1 => if us.length ≤ sizeLine then .ok (.tup us) S1 else .no
  | .tmp n, ρ, S => (evN n ρ S).bind fun us S1 => .ok (.tl us) S1
  | .mk n, ρ, S => (evN n ρ S).bind fun us S1 => .ok (.obj S1.length) (S1 ++ [.lst us])
  | .nope, _, _ => .no
  | .repr a, ρ, S => (ev a ρ S).bind fun u S1 => ofO S1 (reprE S1 u)
  | .dget x a, ρ, S => match T.dct x with
    | some d => (ev a ρ S).bind fun u S1 => match u with
      | .str z => ofO S1 ((d z).bind id)
      | _ => .no
    | none => .no
  | .din x no a, ρ, S => match T.dct x with
    | some d => (ev a ρ S).bind fun u S1 => match u with
      | .str z => ofO S1 ((d z).map fun r => .bl (if no then !r.isSome else r.isSome))
      | _ => .no
    | none => .no
  | .callL i as, ρ, S => match ρ[i]? with
    | some (some (.fn f)) => if T.dom f = true then (evs as ρ S).bind fun us S1 => T.fn f us S1 else .no
    | _ => .no
  | .meth m o as, ρ, S => (ev o ρ S).bind fun u S1 => (evs as ρ S1).bind fun us S2 => ofS (T.meth m u us S2)
def evs : CEs → Rho → Sto → Res (List U)
  | .nil, _, S => .ok [] S
  | .cons e es, ρ, S => (ev e ρ S).bind fun u S1 => (evs es ρ S1).bind fun us S2 => .ok (u :: us) S2
-- and, or: all but the last are truths
def evB (an : Bool) : CEs → Rho → Sto → Res U
  | .nil, _, _ => .no
  | .cons e es, ρ, S => match es with
    | .nil => ev e ρ S
    | es => (ev e ρ S).bind fun u S1 => match u with
      | .bl b => if b = an then evB an es ρ S1 else .ok (.bl b) S1
      | _ => .no
-- a part of a slice
def evO : CEs → Rho → Sto → Res (Option Int)
  | .nil, _, S => .ok none S
  | .cons e _, ρ, S => (ev e ρ S).bind fun u S1 => match u with
    | .int i => .ok (some i) S1
    | _ => .no
def evN : CN → Rho → Sto → Res (List U)
  | .lst as, ρ, S => (evs as ρ S).bind fun us S1 => if us.length ≤ sizeLine then .ok us S1 else .no
  | .lc tg it cnd elt own, ρ, S => (evI it ρ S).bind fun src S1 => lcGo src (fun x S2 => match asgT tg x (wipeR ρ (own.map (·.2))) with
    | none => .no
    | some ρ' => match cnd with
      | .nil => (ev elt ρ' S2).bind fun u S3 => .ok (some u) S3
      | .cons c _ => (ev c ρ' S2).bind fun b S3 => match b with
        | .bl true => (ev elt ρ' S3).bind fun u S4 => .ok (some u) S4
        | .bl false => .ok none S3
        | _ => .no) (src.len S1) 0 [] S1
  | .listOf a, ρ, S => (ev a ρ S).bind fun u S1 => ofO S1 (seqOf S1 u)
  | .cat a b, ρ, S => (ev a ρ S).bind fun u S1 => (ev b ρ S1).bind fun w S2 => match lstH S2 u, lstH S2 w with
    | some xs, some ys => if xs.length + ys.length ≤ sizeLine then .ok (xs ++ ys) S2 else .no
    | _, _ => .no
def evI : CI → Rho → Sto → Res Src
  | .seq e, ρ, S => (ev e ρ S).bind fun u S1 => if (seqOf S1 u).isSome then .ok (.seq u) S1 else .no
  | .rng1 a, ρ, S => (ev a ρ S).bind fun u S1 => match u with
    | .int j => if -(2 ^ 62) ≤ j ∧ j < 2 ^ 62 then .ok (.rng 0 j.toNat) S1 else .no
    | _ => .no
  | .rng2 a b, ρ, S => (ev a ρ S).bind fun u S1 => (ev b ρ S1).bind fun w S2 => match u, w with
    | .int i, .int j => if -(2 ^ 62) ≤ i ∧ i < 2 ^ 62 ∧ -(2 ^ 62) ≤ j ∧ j < 2 ^ 62 then .ok (.rng i (j - i).toNat) S2 else .no
    | _, _ => .no
  | .enum e, ρ, S => (ev e ρ S).bind fun u S1 => if (seqOf S1 u).isSome then .ok (.enum u) S1 else .no
  | .zip st a b, ρ, S => (ev a ρ S).bind fun u S1 => (ev b ρ S1).bind fun w S2 => if (if st then decide ((tupOf u).isSome ∧ (tupOf u).map List.length = (tupOf w).map List.length) else ((lstOf S2 u).isSome && (lstOf S2 w).isSome) || ((tupOf u).isSome && (tupOf w).isSome)) then .ok (.zip st u w) S2 else .no
end
end Z

set_option Elab.async false
set_option linter.all false
set_option maxRecDepth 100000
set_option maxHeartbeats 800000
/-! Z3: what an expression comes to, as a reading of the layer; operators. -/
namespace Z
open PySem PySem.Spec PyProof.Rows L2
section
variable {K : PySem.W.Frag} {mg : Str → Option Value} {Y : List Addr} {μ μ' μ1 : Nat → Addr} {n n' n1 : Nat} {H H' H1 : Hp} {S S1 S' : Sto} {α β : Type} {W : WX} {σ : L2.St}
/-- the exception x as the layer has it: its class, its own dict -/
def RX (K : PySem.W.Frag) (mg : Str → Option Value) (μ : Nat → Addr) (n : Nat) (Y : List Addr) (H : Hp) (x : Xn) (cls : Value) (d : Option Addr) : Prop :=
  ∃ c, mg x.1 = some (.ref c) ∧ cls = .ref c ∧ match x.2 with
    | none => d = none
    | some (f, u) => ∃ dd v, d = some dd ∧ H dd = some (.xd [(f, v)]) ∧ RU K mg μ n Y H u v
def Fin (K : PySem.W.Frag) (mg : Str → Option Value) (W : WX) (σ : L2.St) (μ : Nat → Addr) (S : Sto) (Y : List Addr) (H : Hp) (r : Res α) (P : α → Sto → (Nat → Addr) → Hp → Prop) : Prop := match r with
  | .ok a S' => Nx K mg μ S Y H S' (P a S')
  | .ex x S' => Nx K mg μ S Y H S' fun μ' H' => ∀ cls d, RX K mg μ' S'.length Y H' x cls d → W cls d σ H'
  | .no => False
theorem Fin.shift {r : Res α} {P : α → Sto → (Nat → Addr) → Hp → Prop} (x : Fin K mg W σ μ S Y H r P) (g : Gr μ S.length H μ1 S1.length H1) : Fin K mg W σ μ1 S1 Y H1 r P := by
  cases r with
  | ok a S' => exact Nx.shift x g
  | ex e S' => exact Nx.shift x g
  | no => exact x
theorem Fin.bind {r : Res α} {f : α → Sto → Res β} {P : β → Sto → (Nat → Addr) → Hp → Prop} (x : Fin K mg W σ μ S Y H (r.bind f) P) : Fin K mg W σ μ S Y H r (fun a S1 μ1 H1 => Fin K mg W σ μ1 S1 Y H1 (f a S1) P) := by
  cases r with
  | ok a S1 => exact fun μ1 H1 g _ => Fin.shift (show Fin K mg W σ μ S Y H (f a S1) P from x) g
  | ex e S' => exact x
  | no => exact x
theorem Fin.imp {r : Res α} {P Q : α → Sto → (Nat → Addr) → Hp → Prop} (x : Fin K mg W σ μ S Y H r P) (h : ∀ a S1 μ1 H1, Gr μ S.length H μ1 S1.length H1 → RS K mg μ1 S1 Y H1 → P a S1 μ1 H1 → Q a S1 μ1 H1) : Fin K mg W σ μ S Y H r Q := by
  cases r with
  | ok a S' => exact fun μ1 H1 g r => h a S' μ1 H1 g r (x μ1 H1 g r)
  | ex e S' => exact x
  | no => exact x
abbrev PU (K : PySem.W.Frag) (mg : Str → Option Value) (Y : List Addr) (Q : VK) : U → Sto → (Nat → Addr) → Hp → Prop := fun u S' μ' H' => ∀ v, RU K mg μ' S'.length Y H' u v → Q v H'
abbrev PUs (K : PySem.W.Frag) (mg : Str → Option Value) (Y : List Addr) (Q : List V → Hp → Prop) : List U → Sto → (Nat → Addr) → Hp → Prop := fun us S' μ' H' => ∀ vs, RUs K mg μ' S'.length Y H' us vs → Q vs H'
/-- the reading of what comes to f -/
def tE (K : PySem.W.Frag) (mg : Str → Option Value) (W : WX) (f : Rho → Sto → Res U) : TE := fun σ H Q => ∃ μ ρ S Y, RS K mg μ S Y H ∧ RE K mg μ S.length Y H ρ σ ∧ Fin K mg W σ μ S Y H (f ρ S) (PU K mg Y Q)
def tA (K : PySem.W.Frag) (mg : Str → Option Value) (W : WX) (f : Rho → Sto → Res (List U)) : TA := fun σ H Q => ∃ μ ρ S Y, RS K mg μ S Y H ∧ RE K mg μ S.length Y H ρ σ ∧ Fin K mg W σ μ S Y H (f ρ S) (PUs K mg Y Q)
def tT (K : PySem.W.Frag) (mg : Str → Option Value) (W : WX) (f : Rho → Sto → Res U) : TT := fun σ H Q => ∃ μ ρ S Y, RS K mg μ S Y H ∧ RE K mg μ S.length Y H ρ σ ∧ Fin K mg W σ μ S Y H (f ρ S) fun u S' μ' H' => ∃ b, u = .bl b ∧ Q b H'
/-- a part is read, the rest waits -/
theorem tE_of {f : Rho → Sto → Res U} {k : U → Sto → Res β} {ρ : Rho} {P : β → Sto → (Nat → Addr) → Hp → Prop} {Q : VK} (r : RS K mg μ S Y H) (e : RE K mg μ S.length Y H ρ σ) (x : Fin K mg W σ μ S Y H ((f ρ S).bind k) P)
    (h : ∀ u S1 μ1 H1 v, RS K mg μ1 S1 Y H1 → RE K mg μ1 S1.length Y H1 ρ σ → Gr μ S.length H μ1 S1.length H1 → RU K mg μ1 S1.length Y H1 u v → Fin K mg W σ μ1 S1 Y H1 (k u S1) P → Q v H1) : tE K mg W f σ H Q :=
  ⟨μ, ρ, S, Y, r, e, (Fin.bind x).imp fun u S1 μ1 H1 g r1 y v ru => h u S1 μ1 H1 v r1 (e.mono g) g ru y⟩
theorem tA_of {f : Rho → Sto → Res (List U)} {k : List U → Sto → Res β} {ρ : Rho} {P : β → Sto → (Nat → Addr) → Hp → Prop} {Q : List V → Hp → Prop} (r : RS K mg μ S Y H) (e : RE K mg μ S.length Y H ρ σ) (x : Fin K mg W σ μ S Y H ((f ρ S).bind k) P)
    (h : ∀ u S1 μ1 H1 v, RS K mg μ1 S1 Y H1 → RE K mg μ1 S1.length Y H1 ρ σ → Gr μ S.length H μ1 S1.length H1 → RUs K mg μ1 S1.length Y H1 u v → Fin K mg W σ μ1 S1 Y H1 (k u S1) P → Q v H1) : tA K mg W f σ H Q :=
  ⟨μ, ρ, S, Y, r, e, (Fin.bind x).imp fun u S1 μ1 H1 g r1 y v ru => h u S1 μ1 H1 v r1 (e.mono g) g ru y⟩
theorem tT_of {f : Rho → Sto → Res U} {k : U → Sto → Res β} {ρ : Rho} {P : β → Sto → (Nat → Addr) → Hp → Prop} {Q : Bool → Hp → Prop} (r : RS K mg μ S Y H) (e : RE K mg μ S.length Y H ρ σ) (x : Fin K mg W σ μ S Y H ((f ρ S).bind k) P)
    (h : ∀ u S1 μ1 H1, RS K mg μ1 S1 Y H1 → RE K mg μ1 S1.length Y H1 ρ σ → Gr μ S.length H μ1 S1.length H1 → Fin K mg W σ μ1 S1 Y H1 (k u S1) P → ∃ b, u = .bl b ∧ Q b H1) : tT K mg W f σ H Q :=
  ⟨μ, ρ, S, Y, r, e, (Fin.bind x).imp fun u S1 μ1 H1 g r1 y => h u S1 μ1 H1 r1 (e.mono g) g y⟩
theorem tE.mono {f : Rho → Sto → Res U} {Q Q' : VK} (x : tE K mg W f σ H Q) (h : ∀ v H, Q v H → Q' v H) : tE K mg W f σ H Q' :=
  let ⟨μ, ρ, S, Y, r, e, y⟩ := x; ⟨μ, ρ, S, Y, r, e, y.imp fun u S1 μ1 H1 _ _ z v ru => h v H1 (z v ru)⟩

/-! ### values beside values -/
theorem lstOf_sq {u : U} {v : V} {us : List U} (r : RS K mg μ S Y H) (h : RU K mg μ S.length Y H u v) (e : lstOf S u = some us) : ∃ a vs, v = .ref a ∧ SqL K H a vs ∧ RUs K mg μ S.length Y H us vs := by
  cases h with
  | tl h1 h2 _ h3 => cases e; exact ⟨_, _, rfl, SqL.of h1, h3⟩
  | rl h1 h3 => cases e; exact ⟨_, _, rfl, h1.sq, h3⟩
  | @obj k a hk ha =>
    replace e : (match S[k]? with | some (.lst us) => some us | _ => none) = some us := e
    cases q : S[k]? with
    | none => rw [q] at e; cases e
    | some o =>
      rw [q] at e
      cases o with
      | lst ws =>
        cases e
        obtain ⟨vs, h1, h2⟩ := r.at_ k _ q
        exact ⟨a, vs, rfl, SqL.of (by rw [ha]; exact h1), h2⟩
      | _ => cases e
  | _ => cases e
theorem lstH_sq {u : U} {v : V} {us : List U} (r : RS K mg μ S Y H) (h : RU K mg μ S.length Y H u v) (e : lstH S u = some us) : ∃ a vs, v = .ref a ∧ H a = some (.lst vs) ∧ RUs K mg μ S.length Y H us vs := by
  cases h with
  | tl h1 h2 _ h3 => cases e; exact ⟨_, _, rfl, h1, h3⟩
  | @obj k a hk ha =>
    replace e : (match S[k]? with | some (.lst us) => some us | _ => none) = some us := e
    cases q : S[k]? with
    | none => rw [q] at e; cases e
    | some o =>
      rw [q] at e
      cases o with
      | lst ws =>
        cases e
        obtain ⟨vs, h1, h2⟩ := r.at_ k _ q
        exact ⟨a, vs, rfl, by rw [ha]; exact h1, h2⟩
      | _ => cases e
  | _ => cases e
theorem tup_sq {us : List U} {v : V} (h : RU K mg μ n Y H (.tup us) v) : ∃ a vs, v = .ref a ∧ SqT K H a vs ∧ RUs K mg μ n Y H us vs := by
  cases h with
  | tup h1 h2 => exact ⟨_, _, rfl, h1, h2⟩
theorem seqOf_sq {u : U} {v : V} {us : List U} (r : RS K mg μ S Y H) (h : RU K mg μ S.length Y H u v) (e : seqOf S u = some us) : ∃ a vs, v = .ref a ∧ (SqL K H a vs ∨ SqT K H a vs) ∧ RUs K mg μ S.length Y H us vs := by
  by_cases q : ∃ ws, u = .tup ws
  · obtain ⟨ws, rfl⟩ := q
    cases e
    obtain ⟨a, vs, e1, e2, e3⟩ := tup_sq h
    exact ⟨a, vs, e1, .inr e2, e3⟩
  · have e' : lstOf S u = some us := by
      cases u with
      | tup ws => exact absurd ⟨ws, rfl⟩ q
      | _ => exact e
    obtain ⟨a, vs, e1, e2, e3⟩ := lstOf_sq r h e'
    exact ⟨a, vs, e1, .inl e2, e3⟩
mutual
theorem dat_ok (r : RS K mg μ S Y H) : ∀ (m : Nat) {u : U} {v : V} {d : PyData}, RU K mg μ S.length Y H u v → dat S m u = some d → Dp K H v d
  | 0, _, _, _, _, e => by simp [dat] at e
  | m + 1, .non, _, _, .non, e => by simp [dat] at e; subst e; exact .non
  | m + 1, .bl b, _, _, .bl _, e => by simp [dat] at e; subst e; exact .bl b
  | m + 1, .int i, _, _, .int _, e => by simp [dat] at e; subst e; exact .int i
  | m + 1, .str s, _, _, .str _, e => by simp [dat] at e; subst e; exact .str s
  | m + 1, .tup us, _, _, .tup h1 h2, e => by
    simp only [dat, Option.map_eq_some_iff] at e
    obtain ⟨ds, e1, rfl⟩ := e
    exact .tup h1 (datA_ok r m us h2 e1)
  | m + 1, .tl us, _, _, .tl h1 _ _ h2, e => by
    simp only [dat, Option.map_eq_some_iff] at e
    obtain ⟨ds, e1, rfl⟩ := e
    exact .lst (SqL.of h1) (datA_ok r m us h2 e1)
  | m + 1, .rl us, _, _, .rl h1 h2, e => by
    simp only [dat, Option.map_eq_some_iff] at e
    obtain ⟨ds, e1, rfl⟩ := e
    exact .lst h1.sq (datA_ok r m us h2 e1)
  | m + 1, .obj k, _, _, .obj hk ha, e => by
    simp only [dat] at e
    cases q : S[k]? with
    | none => rw [q] at e; cases e
    | some o =>
      rw [q] at e
      cases o with
      | lst ws =>
        simp only [Option.map_eq_some_iff] at e
        obtain ⟨ds, e1, rfl⟩ := e
        obtain ⟨vs, h1, h2⟩ := r.at_ k _ q
        exact .lst (SqL.of (by rw [ha]; exact h1)) (datA_ok r m ws h2 e1)
      | _ => cases e
  | m + 1, .fn x, _, _, .fn _, e => by simp [dat] at e
theorem datA_ok (r : RS K mg μ S Y H) : ∀ (m : Nat) (us : List U) {vs : List V} {ds : List PyData}, RUs K mg μ S.length Y H us vs → datA S m us = some ds → DpAll K H vs ds
  | m, [], _, _, .nil, e => by simp [datA] at e; subst e; exact .nil
  | m, u :: us, _, _, .cons h1 h2, e => by
    simp only [datA] at e
    cases q : dat S m u with
    | none => rw [q] at e; cases e
    | some d =>
      cases q2 : datA S m us with
      | none => rw [q, q2] at e; cases e
      | some ds =>
        rw [q, q2] at e
        cases e
        exact .cons (dat_ok r m h1 q) (datA_ok r m us h2 q2)
end
mutual
theorem dat_depth : ∀ (m : Nat) (u : U) {d : PyData}, dat S m u = some d → d.depth ≤ m ∧ d.hasDict = false
  | 0, _, _, e => by simp [dat] at e
  | m + 1, .non, _, e => by simp [dat] at e; subst e; exact ⟨Nat.zero_le _, rfl⟩
  | m + 1, .bl b, _, e => by simp [dat] at e; subst e; exact ⟨Nat.zero_le _, rfl⟩
  | m + 1, .int i, _, e => by simp [dat] at e; subst e; exact ⟨Nat.zero_le _, rfl⟩
  | m + 1, .str s, _, e => by simp [dat] at e; subst e; exact ⟨Nat.zero_le _, rfl⟩
  | m + 1, .tup us, _, e => by
    simp only [dat, Option.map_eq_some_iff] at e
    obtain ⟨ds, e1, rfl⟩ := e
    have := datA_depth m us e1
    exact ⟨Nat.succ_le_succ this.1, this.2⟩
  | m + 1, .tl us, _, e => by
    simp only [dat, Option.map_eq_some_iff] at e
    obtain ⟨ds, e1, rfl⟩ := e
    have := datA_depth m us e1
    exact ⟨Nat.succ_le_succ this.1, this.2⟩
  | m + 1, .rl us, _, e => by
    simp only [dat, Option.map_eq_some_iff] at e
    obtain ⟨ds, e1, rfl⟩ := e
    have := datA_depth m us e1
    exact ⟨Nat.succ_le_succ this.1, this.2⟩
  | m + 1, .obj k, _, e => by
    simp only [dat] at e
    cases q : S[k]? with
    | none => rw [q] at e; cases e
    | some o =>
      rw [q] at e
      cases o with
      | lst ws =>
        simp only [Option.map_eq_some_iff] at e
        obtain ⟨ds, e1, rfl⟩ := e
        have := datA_depth m ws e1
        exact ⟨Nat.succ_le_succ this.1, this.2⟩
      | _ => cases e
  | m + 1, .fn x, _, e => by simp [dat] at e
theorem datA_depth : ∀ (m : Nat) (us : List U) {ds : List PyData}, datA S m us = some ds → PyData.depthAll ds ≤ m ∧ PyData.hasDictAll ds = false
  | m, [], _, e => by simp [datA] at e; subst e; exact ⟨Nat.zero_le _, rfl⟩
  | m, u :: us, _, e => by
    simp only [datA] at e
    cases q : dat S m u with
    | none => rw [q] at e; cases e
    | some d =>
      cases q2 : datA S m us with
      | none => rw [q, q2] at e; cases e
      | some ds =>
        rw [q, q2] at e
        cases e
        have h1 := dat_depth m u q
        have h2 := datA_depth m us q2
        refine ⟨?_, ?_⟩
        · show max _ _ ≤ m
          exact Nat.max_le.mpr ⟨h1.1, h2.1⟩
        · show (PyData.hasDict _ || PyData.hasDictAll _) = false
          rw [h1.2, h2.2]; rfl
end
theorem RU.isRef {u : U} {v : V} (h : RU K mg μ n Y H u v) (e : u.isRef = true) : ∃ a, v = .ref a := by
  cases h <;> first | exact ⟨_, rfl⟩ | cases e
theorem flat_ok {u : U} {v : V} (h : RU K mg μ n Y H u v) (f : u.flat = true) : v = flatD u ∧ flatV v = true := by
  cases h <;> first | exact ⟨rfl, rfl⟩ | cases f
theorem flats_ok : ∀ {us : List U} {vs : List V}, RUs K mg μ n Y H us vs → us.all U.flat = true → vs = us.map flatD ∧ vs.all flatV = true
  | _, _, .nil, _ => ⟨rfl, rfl⟩
  | _, _, .cons h r, f => by
    rw [List.all_cons, Bool.and_eq_true] at f
    obtain ⟨e1, e2⟩ := flat_ok h f.1
    obtain ⟨e3, e4⟩ := flats_ok r f.2
    rw [List.map_cons, List.all_cons, ← e1, ← e3, e2, e4]
    exact ⟨rfl, rfl⟩
theorem ints_ok : ∀ {us : List U} {vs : List V} {ns : List Int}, RUs K mg μ n Y H us vs → intsOf us = some ns → vs = ns.map V.int
  | _, _, _, .nil, e => by simp [intsOf] at e; subst e; rfl
  | _, _, _, .cons h r, e => by
    cases h with
    | int i =>
      simp only [intsOf, Option.map_eq_some_iff] at e
      obtain ⟨ms, e1, rfl⟩ := e
      rw [List.map_cons, ints_ok r e1]
    | _ => simp [intsOf] at e
theorem bls_ok : ∀ {us : List U} {vs : List V} {ns : List Bool}, RUs K mg μ n Y H us vs → blsOf us = some ns → vs = ns.map V.bl
  | _, _, _, .nil, e => by simp [blsOf] at e; subst e; rfl
  | _, _, _, .cons h r, e => by
    cases h with
    | bl i =>
      simp only [blsOf, Option.map_eq_some_iff] at e
      obtain ⟨ms, e1, rfl⟩ := e
      rw [List.map_cons, bls_ok r e1]
    | _ => simp [blsOf] at e
theorem RUs.atI {us : List U} {vs : List V} {i : Int} {u : U} (h : RUs K mg μ n Y H us vs) (e : L2.atI us i = some u) : ∃ v, L2.atI vs i = some v ∧ RU K mg μ n Y H u v := by
  unfold L2.atI at e ⊢
  rw [← h.length]
  cases q : ixN us.length i with
  | none => rw [q] at e; cases e
  | some j => rw [q] at e; exact h.get e
theorem RUs.cut {us : List U} {vs : List V} (h : RUs K mg μ n Y H us vs) (lo hi : Option Int) : RUs K mg μ n Y H (cutU us lo hi) (cutV vs lo hi) := by
  unfold cutU cutV
  rw [← h.length]
  exact (h.drop _).take _
theorem RUs.flatten : ∀ {us : List U} {vs : List V} (k : Nat), RUs K mg μ n Y H us vs → RUs K mg μ n Y H (List.replicate k us).flatten (List.replicate k vs).flatten
  | _, _, 0, _ => by simpa using RUs.nil
  | us, vs, k + 1, h => by
    rw [List.replicate_succ, List.replicate_succ, List.flatten_cons, List.flatten_cons]
    exact RUs.append h (RUs.flatten k h)
theorem RU.newTup {us : List U} {vs : List V} {p : Addr} (r : RS K mg μ S Y H) (hp : H p = none) (h : RUs K mg μ S.length Y H us vs) : RU K mg μ S.length Y (upd H p (.tup vs)) (.tup us) (.ref p) :=
  .tup (SqT.of upd_same) (h.mono (Gr.fresh r hp))
theorem RU.newTl {us : List U} {vs : List V} {p : Addr} (r : RS K mg μ S Y H) (hp : H p = none) (h : RUs K mg μ S.length Y H us vs) : RU K mg μ S.length Y (upd H p (.lst vs)) (.tl us) (.ref p) :=
  .tl upd_same (fun i hi q => r.off hp i hi q.symm) (fun q => (r.res p q).1 hp) (h.mono (Gr.fresh r hp))
end

/-! ### operators -/
section
variable {X : Cx} {W : WX}
theorem OpR.or {f : Value → Value → Sem Value} {r r' : R2} (h : OpR X f r) (h' : OpR X f r') : OpR X f (fun x y H Q => r x y H Q ∨ r' x y H Q) := by
  intro pins s σ H x y v u Q I rx ry q
  rcases q with q | q
  · exact h pins s σ H x y v u Q I rx ry q
  · exact h' pins s σ H x y v u Q I rx ry q
abbrev KX (X : Cx) (μ : Nat → Addr) (S : Sto) (Y : List Addr) (H : Hp) (z : U) (Q : VK) : Prop := Nx X.K X.mg μ S Y H S fun μ' H' => ∀ v, RU X.K X.mg μ' S.length Y H' z v → Q v H'
def OpOk (X : Cx) (f : Value → Value → Sem Value) (h : Sto → U → U → Option U) : Prop := ∃ r, OpR X f r ∧ ∀ μ S Y H u w z x y Q, RS X.K X.mg μ S Y H → RU X.K X.mg μ S.length Y H u x → RU X.K X.mg μ S.length Y H w y → h S u w = some z → KX X μ S Y H z Q → r x y H Q
theorem op_of {r : R2} {f : Value → Value → Sem Value} {h : Sto → U → U → Option U} (ho : OpR X f r) (hh : ∀ μ S Y H u w z x y Q, RS X.K X.mg μ S Y H → RU X.K X.mg μ S.length Y H u x → RU X.K X.mg μ S.length Y H w y → h S u w = some z → KX X μ S Y H z Q → r x y H Q) : OpOk X f h := ⟨r, ho, hh⟩
theorem bin_add : OpOk X (binaryOp .Add) fun S => binE S .add := by
  refine op_of (OpR.or op_add (OpR.or op_add_str (OpR.or op_catA op_cat))) fun μ S Y H u w z x y Q r ru rw' e k => ?_
  have lists : ∀ {a b : U}, (match lstH S a, lstH S b with
      | some xs, some ys => if xs.length + ys.length ≤ sizeLine then some (U.tl (xs ++ ys)) else none
      | _, _ => none) = some z → RU X.K X.mg μ S.length Y H a x → RU X.K X.mg μ S.length Y H b y → rCat x y H Q := fun {a b} e ra rb => by
    cases q1 : lstH S a with
    | none => rw [q1] at e; cases e
    | some xs =>
      cases q2 : lstH S b with
      | none => rw [q1, q2] at e; cases e
      | some ys =>
        rw [q1, q2] at e
        obtain ⟨l, vs, rfl, h1, h2⟩ := lstH_sq r ra q1
        obtain ⟨l', ws, rfl, h3, h4⟩ := lstH_sq r rb q2
        by_cases hz : xs.length + ys.length ≤ sizeLine
        · simp only [if_pos hz, Option.some.injEq] at e
          subst e
          refine ⟨l, l', vs, ws, rfl, rfl, h1, h3, by rw [← h2.length, ← h4.length]; exact hz, fun p hp => ?_⟩
          exact Nx.fresh k r hp _ (RU.newTl r hp (h2.append h4))
        · simp only [if_neg hz] at e
          cases e
  cases ru with
  | int i =>
    cases rw' with
    | int j => simp only [binE, Option.some.injEq] at e; subst e; exact .inl ⟨i, j, rfl, rfl, k.here r _ (.int _)⟩
    | _ => simp [binE, lstH] at e
  | str i =>
    cases rw' with
    | str j =>
      simp only [binE] at e
      by_cases hz : i.length + j.length ≤ sizeLine
      · simp only [if_pos hz, Option.some.injEq] at e; subst e; exact .inr (.inl ⟨i, j, rfl, rfl, hz, k.here r _ (.str _)⟩)
      · simp only [if_neg hz] at e; cases e
    | _ => simp [binE, lstH] at e
  | @tup us a vs h1 h2 =>
    cases rw' with
    | @tup us' a' vs' h3 h4 =>
      simp only [binE] at e
      by_cases hz : us.length + us'.length ≤ sizeLine
      · simp only [if_pos hz, Option.some.injEq] at e
        subst e
        refine .inr (.inr (.inl ⟨a, a', vs, vs', rfl, rfl, h1, h3, by rw [← h2.length, ← h4.length]; exact hz, fun q => ?_, fun q1 q2 => ?_, fun _ _ p hp => ?_⟩))
        · subst q
          cases h2
          exact k.here r _ (by rw [List.nil_append]; exact .tup h3 h4)
        · subst q2
          cases h4
          exact k.here r _ (by rw [List.append_nil]; exact .tup h1 h2)
        · exact Nx.fresh k r hp _ (RU.newTup r hp (h2.append h4))
      · simp only [if_neg hz] at e; cases e
    | _ => simp [binE, lstH] at e
  | @tl us a vs h1 h2 hy h3 =>
    exact .inr (.inr (.inr (lists (a := .tl us) (by cases rw' <;> first | exact e | (simp [binE, lstH] at e)) (.tl h1 h2 hy h3) rw')))
  | @obj k' a h1 h2 => exact .inr (.inr (.inr (lists (a := .obj k') (by cases rw' <;> first | exact e | (simp [binE, lstH] at e)) (.obj h1 h2) rw')))
  | _ => cases rw' <;> simp [binE, lstH] at e
theorem bin_sub : OpOk X (binaryOp .Sub) fun S => binE S .sub := by
  refine op_of op_sub fun μ S Y H u w z x y Q r ru rw' e k => ?_
  cases ru <;> first
    | (cases rw' <;> first | (simp only [binE, Option.some.injEq] at e; subst e; exact ⟨_, _, rfl, rfl, k.here r _ (.int _)⟩) | (simp [binE] at e))
    | (simp [binE] at e)
theorem bin_mul : OpOk X (binaryOp .Mult) fun S => binE S .mul := by
  refine op_of (OpR.or op_mulW (OpR.or op_repT ZS.op_rep1)) fun μ S Y H u w z x y Q r ru rw' e k => ?_
  cases ru with
  | int i =>
    cases rw' with
    | int j =>
      simp only [binE] at e
      by_cases hz : i.natAbs.log2 + j.natAbs.log2 < 1000000
      · simp only [if_pos hz, Option.some.injEq] at e; subst e; exact .inl ⟨i, j, rfl, rfl, hz, k.here r _ (.int _)⟩
      · simp only [if_neg hz] at e; cases e
    | _ => simp [binE] at e
  | @tup us a vs h1 h2 =>
    cases rw' with
    | int j =>
      simp only [binE] at e
      by_cases h1j : j = 1
      · subst h1j
        rw [if_pos rfl] at e
        cases e
        exact .inr (.inr ⟨a, vs, rfl, rfl, h1, k.here r _ (.tup h1 h2)⟩)
      rw [if_neg h1j] at e
      by_cases hz : us ≠ [] ∧ 2 ≤ j ∧ j ≤ 1000 ∧ us.length ≤ 1000
      · simp only [if_pos hz, Option.some.injEq] at e
        subst e
        refine .inr (.inl ⟨a, j, vs, rfl, rfl, h1, fun q => hz.1 ?_, hz.2.1, hz.2.2.1, by rw [← h2.length]; exact hz.2.2.2, fun p hp => ?_⟩)
        · subst q; cases h2; rfl
        · exact Nx.fresh k r hp _ (RU.newTup r hp (h2.flatten _))
      · simp only [if_neg hz] at e; cases e
    | _ => simp [binE] at e
  | _ => cases rw' <;> simp [binE] at e
theorem bin_md : OpOk X (binaryOp .Mod) fun S => binE S .md := by
  refine op_of op_modN fun μ S Y H u w z x y Q r ru rw' e k => ?_
  cases ru <;> first
    | (cases rw' <;> first
      | (rename_i i j; simp only [binE] at e; by_cases hz : j ≠ 0
         · simp only [if_pos hz, Option.some.injEq] at e; subst e; exact ⟨_, _, rfl, rfl, hz, k.here r _ (.int _)⟩
         · simp only [if_neg hz] at e; cases e)
      | (simp [binE] at e))
    | (simp [binE] at e)
theorem bin_fd : OpOk X (binaryOp .FloorDiv) fun S => binE S .fd := by
  refine op_of op_fdivW fun μ S Y H u w z x y Q r ru rw' e k => ?_
  cases ru <;> first
    | (cases rw' <;> first
      | (rename_i i j; simp only [binE] at e; by_cases hz : 0 < j ∧ j.natAbs.log2 < 9000
         · simp only [if_pos hz, Option.some.injEq] at e; subst e; exact ⟨_, _, rfl, rfl, hz, k.here r _ (.int _)⟩
         · simp only [if_neg hz] at e; cases e)
      | (simp [binE] at e))
    | (simp [binE] at e)
theorem bin_pw : OpOk X (binaryOp .Pow) fun S => binE S .pw := by
  refine op_of op_pow fun μ S Y H u w z x y Q r ru rw' e k => ?_
  cases ru <;> first
    | (cases rw' <;> first
      | (rename_i i j; simp only [binE] at e; by_cases hz : 0 ≤ j ∧ j ≤ 1000000 ∧ i.natAbs < 2 ^ 64
         · simp only [if_pos hz, Option.some.injEq] at e; subst e; exact ⟨_, _, rfl, rfl, hz, k.here r _ (.int _)⟩
         · simp only [if_neg hz] at e; cases e)
      | (simp [binE] at e))
    | (simp [binE] at e)
end
end Z

set_option Elab.async false
set_option linter.all false
set_option maxRecDepth 100000
set_option maxHeartbeats 800000
/-! Z4: comparisons, subscripts, slices, built-in functions. -/
namespace Z
open PySem PySem.Spec PyProof.Rows L2
section
variable {X : Cx} {W : WX}
/-! ### comparisons -/
theorem cmp_lt : OpOk X (compareOp .Lt) fun S u w => (cmpE S .lt u w).map U.bl := by
  refine op_of op_lt fun μ S Y H u w z x y Q r ru rw' e k => ?_
  cases ru <;> first
    | (cases rw' <;> first | (simp only [cmpE, Option.map_some, Option.some.injEq] at e; subst e; exact ⟨_, _, rfl, rfl, k.here r _ (.bl _)⟩) | (simp [cmpE] at e))
    | (simp [cmpE] at e)
theorem cmp_le : OpOk X (compareOp .LtE) fun S u w => (cmpE S .le u w).map U.bl := by
  refine op_of op_le fun μ S Y H u w z x y Q r ru rw' e k => ?_
  cases ru <;> first
    | (cases rw' <;> first | (simp only [cmpE, Option.map_some, Option.some.injEq] at e; subst e; exact ⟨_, _, rfl, rfl, k.here r _ (.bl _)⟩) | (simp [cmpE] at e))
    | (simp [cmpE] at e)
theorem cmp_gt : OpOk X (compareOp .Gt) fun S u w => (cmpE S .gt u w).map U.bl := by
  refine op_of op_gt fun μ S Y H u w z x y Q r ru rw' e k => ?_
  cases ru <;> first
    | (cases rw' <;> first | (simp only [cmpE, Option.map_some, Option.some.injEq] at e; subst e; exact ⟨_, _, rfl, rfl, k.here r _ (.bl _)⟩) | (simp [cmpE] at e))
    | (simp [cmpE] at e)
theorem cmp_ge : OpOk X (compareOp .GtE) fun S u w => (cmpE S .ge u w).map U.bl := by
  refine op_of op_ge fun μ S Y H u w z x y Q r ru rw' e k => ?_
  cases ru <;> first
    | (cases rw' <;> first | (simp only [cmpE, Option.map_some, Option.some.injEq] at e; subst e; exact ⟨_, _, rfl, rfl, k.here r _ (.bl _)⟩) | (simp [cmpE] at e))
    | (simp [cmpE] at e)
theorem cmp_eq (hu : X.A.units + 64 < cLine) : OpOk X (compareOp .Eq) fun S u w => (cmpE S .eq u w).map U.bl := by
  refine op_of (OpR.or op_eq (op_eqD hu)) fun μ S Y H u w z x y Q r ru rw' e k => ?_
  have gen : (match dat S 12 u, dat S 12 w with
      | some d, some e => if (SeqAt.shaped d && SeqAt.shaped e) = true then some (PyData.eqv d e) else none
      | _, _ => none).map U.bl = some z → rEqD X.K x y H Q := fun e => by
    cases q1 : dat S 12 u with
    | none => simp [q1] at e
    | some d1 =>
      cases q2 : dat S 12 w with
      | none => simp [q1, q2] at e
      | some d2 =>
        simp only [q1, q2] at e
        by_cases hs : (SeqAt.shaped d1 && SeqAt.shaped d2) = true
        · rw [if_pos hs] at e
          cases e
          rw [Bool.and_eq_true] at hs
          exact ⟨d1, d2, dat_ok r 12 ru q1, dat_ok r 12 rw' q2, hs.1, hs.2, k.here r _ (.bl _)⟩
        · rw [if_neg hs] at e
          cases e
  by_cases hss : ∃ a b, u = .str a ∧ w = .str b
  · obtain ⟨a, b, rfl, rfl⟩ := hss
    cases ru
    cases rw'
    cases e
    have e2 : decide (V.str a = V.str b) = decide (a = b) := by by_cases q : a = b <;> simp [q]
    exact .inl ⟨rfl, by rw [e2]; exact k.here r _ (.bl _)⟩
  by_cases hii : ∃ a b, u = .int a ∧ w = .int b
  · obtain ⟨a, b, rfl, rfl⟩ := hii
    cases ru
    cases rw'
    cases e
    have e2 : decide (V.int a = V.int b) = decide (a = b) := by by_cases q : a = b <;> simp [q]
    exact .inl ⟨rfl, by rw [e2]; exact k.here r _ (.bl _)⟩
  refine .inr (gen ?_)
  cases u <;> cases w <;> first | exact e | exact absurd ⟨_, _, rfl, rfl⟩ hss | exact absurd ⟨_, _, rfl, rfl⟩ hii
theorem cmp_ne (hu : X.A.units + 64 < cLine) : OpOk X (compareOp .NotEq) fun S u w => (cmpE S .ne u w).map U.bl := by
  refine op_of (OpR.or op_ne (op_neD hu)) fun μ S Y H u w z x y Q r ru rw' e k => ?_
  have gen : (match dat S 12 u, dat S 12 w with
      | some d, some e => if (SeqAt.shaped d && SeqAt.shaped e) = true then some (!PyData.eqv d e) else none
      | _, _ => none).map U.bl = some z → rNeD X.K x y H Q := fun e => by
    cases q1 : dat S 12 u with
    | none => simp [q1] at e
    | some d1 =>
      cases q2 : dat S 12 w with
      | none => simp [q1, q2] at e
      | some d2 =>
        simp only [q1, q2] at e
        by_cases hs : (SeqAt.shaped d1 && SeqAt.shaped d2) = true
        · rw [if_pos hs] at e
          cases e
          rw [Bool.and_eq_true] at hs
          exact ⟨d1, d2, dat_ok r 12 ru q1, dat_ok r 12 rw' q2, hs.1, hs.2, k.here r _ (.bl _)⟩
        · rw [if_neg hs] at e
          cases e
  by_cases hss : ∃ a b, u = .str a ∧ w = .str b
  · obtain ⟨a, b, rfl, rfl⟩ := hss
    cases ru
    cases rw'
    cases e
    have e2 : decide (V.str a = V.str b) = decide (a = b) := by by_cases q : a = b <;> simp [q]
    exact .inl ⟨rfl, by rw [e2]; exact k.here r _ (.bl _)⟩
  by_cases hii : ∃ a b, u = .int a ∧ w = .int b
  · obtain ⟨a, b, rfl, rfl⟩ := hii
    cases ru
    cases rw'
    cases e
    have e2 : decide (V.int a = V.int b) = decide (a = b) := by by_cases q : a = b <;> simp [q]
    exact .inl ⟨rfl, by rw [e2]; exact k.here r _ (.bl _)⟩
  refine .inr (gen ?_)
  cases u <;> cases w <;> first | exact e | exact absurd ⟨_, _, rfl, rfl⟩ hss | exact absurd ⟨_, _, rfl, rfl⟩ hii
theorem inE_ok {μ : Nat → Addr} {S : Sto} {Y : List Addr} {H : Hp} {u w : U} {x y : V} {b : Bool} (r : RS X.K X.mg μ S Y H) (ru : RU X.K X.mg μ S.length Y H u x) (rw' : RU X.K X.mg μ S.length Y H w y) (e : inE S u w = some b) :
    ∃ p xs, y = .ref p ∧ (SqL X.K H p xs ∨ SqT X.K H p xs) ∧ flatV x = true ∧ xs.all flatV = true ∧ inV x xs = b := by
  unfold inE at e
  cases q : seqOf S w with
  | none => rw [q] at e; cases e
  | some us =>
    rw [q] at e
    replace e : (if (u.flat && us.all U.flat) = true then some (inV (flatD u) (us.map flatD)) else none) = some b := e
    by_cases h : (u.flat && us.all U.flat) = true
    · rw [if_pos h] at e
      rw [Bool.and_eq_true] at h
      obtain ⟨a, vs, e1, e2, e3⟩ := seqOf_sq r rw' q
      obtain ⟨f1, f2⟩ := flat_ok ru h.1
      obtain ⟨f3, f4⟩ := flats_ok e3 h.2
      exact ⟨a, vs, e1, e2, f2, f4, by rw [f1, f3]; exact Option.some.inj e⟩
    · rw [if_neg h] at e; cases e
theorem cmp_in : OpOk X (compareOp .In) fun S u w => (cmpE S .inn u w).map U.bl := by
  refine op_of op_in_seq fun μ S Y H u w z x y Q r ru rw' e k => ?_
  simp only [cmpE, Option.map_eq_some_iff] at e
  obtain ⟨b, e1, rfl⟩ := e
  obtain ⟨p, xs, h1, h2, h3, h4, h5⟩ := inE_ok r ru rw' e1
  refine ⟨p, xs, h1, h2, h3, h4, ?_⟩
  rw [h5]
  exact k.here r _ (.bl _)
theorem cmp_nin : OpOk X (compareOp .NotIn) fun S u w => (cmpE S .nin u w).map U.bl := by
  refine op_of op_notIn_seq fun μ S Y H u w z x y Q r ru rw' e k => ?_
  simp only [cmpE, Option.map_eq_some_iff] at e
  obtain ⟨b, ⟨b', e1, rfl⟩, rfl⟩ := e
  obtain ⟨p, xs, h1, h2, h3, h4, h5⟩ := inE_ok r ru rw' e1
  refine ⟨p, xs, h1, h2, h3, h4, ?_⟩
  rw [h5]
  exact k.here r _ (.bl _)

/-! ### subscripts -/
theorem IxR.or {r r' : R2} (h : IxR X r) (h' : IxR X r') : IxR X (fun x y H Q => r x y H Q ∨ r' x y H Q) := by
  intro value slice pins s σ H x y v u Q I rx ry q hs
  rcases q with q | q
  · exact h value slice pins s σ H x y v u Q I rx ry q hs
  · exact h' value slice pins s σ H x y v u Q I rx ry q hs
theorem ix_ok {μ : Nat → Addr} {S : Sto} {Y : List Addr} {H : Hp} {u w z : U} {x y : V} {Q : VK} (r : RS X.K X.mg μ S Y H) (ru : RU X.K X.mg μ S.length Y H u x) (rw' : RU X.K X.mg μ S.length Y H w y) (e : idxE S u w = some z) (k : KX X μ S Y H z Q) :
    rIxL X.K x y H Q ∨ rIxT X.K x y H Q := by
  cases rw' with
  | int i =>
    simp only [idxE] at e
    cases q : seqOf S u with
    | none => rw [q] at e; cases e
    | some us =>
      rw [q] at e
      obtain ⟨a, vs, rfl, e2, e3⟩ := seqOf_sq r ru q
      obtain ⟨v, h1, h2⟩ := e3.atI e
      rcases e2 with e2 | e2
      · exact .inl ⟨a, vs, i, v, rfl, rfl, e2, h1, k.here r _ h2⟩
      · exact .inr ⟨a, vs, i, v, rfl, rfl, e2, h1, k.here r _ h2⟩
  | _ => simp [idxE] at e
/-! ### slices -/
theorem cutU_all {us : List U} {lo hi : Option Int} (h : HT.sIx us.length 0 lo = 0 ∧ HT.sIx us.length us.length hi = us.length) : cutU us lo hi = us := by
  unfold cutU
  rw [h.1, h.2]
  simp
theorem sl_ok {μ : Nat → Addr} {S : Sto} {Y : List Addr} {H : Hp} {u z : U} {x : V} {lo hi : Option Int} {Q : VK} (r : RS X.K X.mg μ S Y H) (ru : RU X.K X.mg μ S.length Y H u x) (e : slE S u lo hi = some z) (k : KX X μ S Y H z Q) :
    rSlL X.K x lo hi H Q ∨ rSlA X.K x lo hi H Q := by
  by_cases q : ∃ ws, u = .tup ws
  · obtain ⟨ws, rfl⟩ := q
    simp only [slE, Option.some.injEq] at e
    subst e
    obtain ⟨a, vs, rfl, e2, e3⟩ := tup_sq ru
    refine .inr ⟨a, vs, rfl, e2, fun h => ?_, fun h p hp => ?_⟩
    · rw [← e3.length] at h
      rw [cutU_all h] at k
      exact k.here r _ (.tup e2 e3)
    · exact Nx.fresh k r hp _ (RU.newTup r hp (e3.cut lo hi))
  · have e' : (lstOf S u).map (fun us => U.tl (cutU us lo hi)) = some z := by
      cases u with
      | tup ws => exact absurd ⟨ws, rfl⟩ q
      | _ => simp only [slE] at e; first | (cases hh : lstOf S _ <;> (rw [hh] at e; first | (cases e; done) | (simpa using e))) | cases e
    rw [Option.map_eq_some_iff] at e'
    obtain ⟨us, h1, rfl⟩ := e'
    obtain ⟨a, vs, rfl, e2, e3⟩ := lstOf_sq r ru h1
    exact .inl ⟨a, vs, rfl, e2, fun p hp => Nx.fresh k r hp _ (RU.newTl r hp (e3.cut lo hi))⟩

/-! ### built-in functions -/
/-- a built-in function as the layer calls it: its value, the reading, what it answers -/
def BF.nm : BF → Str
  | .len => "len" | .tuple => "tuple" | .int => "int" | .abs => "abs" | .all => "all" | .any => "any" | .sum => "sum" | .min => "min"
def BiOk (X : Cx) (f : BF) : Prop := (∃ id r, bootBuiltins f.nm = some (.builtin id) ∧ CallR X (.builtin id) r ∧ ∀ μ S Y H us z vs Q, RS X.K X.mg μ S Y H → RUs X.K X.mg μ S.length Y H us vs → biE S f us = some z → KX X μ S Y H z Q → r vs H Q) ∨
  ∃ t r, bootBuiltins f.nm = some (.type t) ∧ CallR X (.type t) r ∧ ∀ μ S Y H us z vs Q, RS X.K X.mg μ S Y H → RUs X.K X.mg μ S.length Y H us vs → biE S f us = some z → KX X μ S Y H z Q → r vs H Q
theorem one_of {μ : Nat → Addr} {n : Nat} {Y : List Addr} {H : Hp} {u : U} {vs : List V} (h : RUs X.K X.mg μ n Y H [u] vs) : ∃ v, vs = [v] ∧ RU X.K X.mg μ n Y H u v := by
  cases h with
  | cons h r => cases r; exact ⟨_, rfl, h⟩
theorem bi_len : BiOk X .len := by
  refine .inl ⟨_, _, boot_len, call_len, fun μ S Y H us z vs Q r rv e k => ?_⟩
  cases rv with
  | nil => cases e
  | @cons u v us vs rv rvs =>
    cases rvs with
    | cons _ _ => cases e
    | nil =>
      by_cases q : ∃ y, u = .str y
      · obtain ⟨y, rfl⟩ := q
        cases rv
        replace e : (if y.length ≤ sizeLine then some (U.int y.length) else none) = some z := e
        by_cases hz : y.length ≤ sizeLine
        · simp only [if_pos hz, Option.some.injEq] at e; subst e; exact ⟨_, y.length, rfl, ⟨hz, rfl⟩, k.here r _ (.int _)⟩
        · simp only [if_neg hz] at e; cases e
      · have e' : (seqOf S u).map (fun us => U.int us.length) = some z := by
          cases u with
          | str y => exact absurd ⟨y, rfl⟩ q
          | _ => exact e
        rw [Option.map_eq_some_iff] at e'
        obtain ⟨ws, h1, rfl⟩ := e'
        obtain ⟨a, vs, rfl, e2, e3⟩ := seqOf_sq r rv h1
        refine ⟨_, ws.length, rfl, ?_, k.here r _ (.int _)⟩
        rcases e2 with e2 | e2
        · exact .inl ⟨vs, e2, e3.length⟩
        · exact .inr ⟨vs, e2, e3.length⟩
theorem bi_tuple : BiOk X .tuple := by
  refine .inr ⟨_, _, PyProof.Rows.boot_tuple, call_tuple_of, fun μ S Y H us z vs Q r rv e k => ?_⟩
  cases rv with
  | nil => cases e
  | @cons u v us vs rv rvs =>
    cases rvs with
    | cons _ _ => cases e
    | nil =>
      replace e : (seqOf S u).map U.tup = some z := e
      simp only [Option.map_eq_some_iff] at e
      obtain ⟨ws, h1, rfl⟩ := e
      obtain ⟨a, vs, rfl, e2, e3⟩ := seqOf_sq r rv h1
      refine ⟨a, vs, rfl, ?_⟩
      rcases e2 with e2 | e2
      · exact .inl ⟨e2, fun p hp => Nx.fresh k r hp _ (RU.newTup r hp e3)⟩
      · exact .inr ⟨e2, k.here r _ (.tup e2 e3)⟩
theorem bi_int : BiOk X .int := by
  refine .inr ⟨_, _, PyProof.Rows.boot_int, call_int1, fun μ S Y H us z vs Q r rv e k => ?_⟩
  cases rv with
  | nil => cases e
  | @cons u v us vs rv rvs =>
    cases rvs with
    | cons _ _ => cases rv <;> cases e
    | nil =>
      cases rv <;> first
        | (cases e; done)
        | (have e := Option.some.inj (show some _ = some z from e); subst e; first | exact .inl ⟨_, rfl, k.here r _ (.int _)⟩ | exact .inr ⟨_, rfl, k.here r _ (.int _)⟩)
theorem bi_abs : BiOk X .abs := by
  refine .inl ⟨_, _, boot_abs, call_abs, fun μ S Y H us z vs Q r rv e k => ?_⟩
  cases rv with
  | nil => cases e
  | @cons u v us vs rv rvs =>
    cases rvs with
    | cons _ _ => cases rv <;> cases e
    | nil =>
      cases rv <;> first
        | (cases e; done)
        | (have e := Option.some.inj (show some _ = some z from e); subst e; exact ⟨_, rfl, k.here r _ (.int _)⟩)
theorem bi_all (hc : X.calm = true) : BiOk X .all := by
  refine .inl ⟨_, _, boot_all, cr_all hc, fun μ S Y H us z vs Q r rv e k => ?_⟩
  cases rv with
  | nil => cases e
  | @cons u v us vs rv rvs =>
    cases rvs with
    | cons _ _ => cases e
    | nil =>
      replace e : ((lstOf S u).bind blsOf).map (fun bs => U.bl (bs.all id)) = some z := e
      simp only [Option.map_eq_some_iff, Option.bind_eq_some_iff] at e
      obtain ⟨bs, ⟨ws, h1, h2⟩, rfl⟩ := e
      obtain ⟨a, vs, rfl, e2, e3⟩ := lstOf_sq r rv h1
      exact ⟨a, bs, rfl, by rw [← bls_ok e3 h2]; exact e2, k.here r _ (.bl _)⟩
theorem bi_any (hc : X.calm = true) : BiOk X .any := by
  refine .inl ⟨_, _, boot_any, cr_any hc, fun μ S Y H us z vs Q r rv e k => ?_⟩
  cases rv with
  | nil => cases e
  | @cons u v us vs rv rvs =>
    cases rvs with
    | cons _ _ => cases e
    | nil =>
      replace e : ((lstOf S u).bind blsOf).map (fun bs => U.bl (bs.any id)) = some z := e
      simp only [Option.map_eq_some_iff, Option.bind_eq_some_iff] at e
      obtain ⟨bs, ⟨ws, h1, h2⟩, rfl⟩ := e
      obtain ⟨a, vs, rfl, e2, e3⟩ := lstOf_sq r rv h1
      exact ⟨a, bs, rfl, by rw [← bls_ok e3 h2]; exact e2, k.here r _ (.bl _)⟩
theorem bi_sum (hc : X.calm = true) : BiOk X .sum := by
  refine .inl ⟨_, _, boot_sum, cr_sum hc, fun μ S Y H us z vs Q r rv e k => ?_⟩
  cases rv with
  | nil => cases e
  | @cons u v us vs rv rvs =>
    cases rvs with
    | cons _ _ => cases e
    | nil =>
      replace e : ((lstOf S u).bind intsOf).map (fun ns => U.int ns.sum) = some z := e
      simp only [Option.map_eq_some_iff, Option.bind_eq_some_iff] at e
      obtain ⟨bs, ⟨ws, h1, h2⟩, rfl⟩ := e
      obtain ⟨a, vs, rfl, e2, e3⟩ := lstOf_sq r rv h1
      exact ⟨a, bs, rfl, by rw [← ints_ok e3 h2]; exact e2, k.here r _ (.int _)⟩
theorem CallR.or {f : Value} {r r' : List V → Hp → VK → Prop} (h : CallR X f r) (h' : CallR X f r') : CallR X f fun vs H Q => r vs H Q ∨ r' vs H Q :=
  fun pins s σ H vs us Q I rv q => q.elim (h pins s σ H vs us Q I rv) (h' pins s σ H vs us Q I rv)
theorem minL_ok : ∀ {ns : List Int}, ns ≠ [] → minL ns ∈ ns ∧ ∀ y, y ∈ ns → minL ns ≤ y
  | [], h => (h rfl).elim
  | [a], _ => ⟨List.mem_singleton.mpr rfl, fun y hy => by rw [List.mem_singleton.mp hy]; exact Int.le_refl _⟩
  | a :: b :: r, _ => by
    obtain ⟨h1, h2⟩ := minL_ok (ns := b :: r) (by simp)
    unfold minL
    split
    · refine ⟨List.mem_cons_self, fun y hy => ?_⟩
      rcases List.mem_cons.mp hy with z | z
      · omega
      · have := h2 y z; omega
    · refine ⟨List.mem_cons_of_mem _ h1, fun y hy => ?_⟩
      rcases List.mem_cons.mp hy with z | z
      · omega
      · exact h2 y z
theorem minL_eq {ns : List Int} {m : Int} (h1 : m ∈ ns) (h2 : ∀ y, y ∈ ns → m ≤ y) : m = minL ns := by
  have h0 : ns ≠ [] := fun e => by rw [e] at h1; cases h1
  obtain ⟨k1, k2⟩ := minL_ok h0
  have := h2 _ k1
  have := k2 _ h1
  omega
theorem bi_min (hc : X.calm = true) : BiOk X .min := by
  refine .inl ⟨_, _, (by decide +kernel : bootBuiltins "min" = some (.builtin "min")), CallR.or (cr_min hc) (ZS.cr_minT hc), fun μ S Y H us z vs Q r rv e k => ?_⟩
  cases rv with
  | nil => cases e
  | @cons u v us vs rv rvs =>
    cases rvs with
    | cons _ _ => cases e
    | nil =>
      replace e : ((seqOf S u).bind intsOf).bind (fun ns => if ns = [] then none else some (U.int (minL ns))) = some z := e
      simp only [Option.bind_eq_some_iff] at e
      obtain ⟨bs, ⟨ws, h1, h2⟩, e⟩ := e
      by_cases h0 : bs = []
      · rw [if_pos h0] at e; cases e
      · rw [if_neg h0] at e
        cases e
        have hl : 0 < bs.length := List.length_pos_iff.mpr h0
        cases hu : tupOf u with
        | none =>
          have h1' : lstOf S u = some ws := by cases u <;> first | exact h1 | cases hu
          obtain ⟨a, vs, rfl, e2, e3⟩ := lstOf_sq r rv h1'
          exact .inl ⟨a, bs, rfl, by rw [← ints_ok e3 h2]; exact e2, hl, fun m m1 m2 => by rw [minL_eq m1 m2]; exact k.here r _ (.int _)⟩
        | some us' =>
          cases u <;> first | (cases hu; done) | skip
          cases h1
          obtain ⟨a, vs, rfl, e2, e3⟩ := tup_sq rv
          exact .inr ⟨a, bs, rfl, by rw [← ints_ok e3 h2]; exact e2, hl, fun m m1 m2 => by rw [minL_eq m1 m2]; exact k.here r _ (.int _)⟩
theorem bi_ok (hc : X.calm = true) (f : BF) : BiOk X f := by
  cases f
  · exact bi_len
  · exact bi_tuple
  · exact bi_int
  · exact bi_abs
  · exact bi_all hc
  · exact bi_any hc
  · exact bi_sum hc
  · exact bi_min hc
/-! ### isinstance -/
def BT.nm : BT → String
  | .int => "int" | .bool => "bool" | .str => "str" | .tuple => "tuple" | .list => "list" | .dict => "dict"
def tyNm : Option BT → String
  | none => "NoneType"
  | some t => t.nm
theorem kit_isiT (t : Option BT) (T : BT) : kitB (tyNm t) T.nm = some (isiT t T) := by
  cases t with
  | none => cases T <;> decide +kernel
  | some t => cases t <;> cases T <;> decide +kernel
theorem SqT.ty {K : PySem.W.Frag} {H : Hp} {a : Addr} {xs : List V} (h : SqT K H a xs) : TyX K H (.ref a) (.type "tuple") := by
  rcases h with (h | ⟨o, h⟩) | ⟨o, its, n, h1, h2, _⟩
  · exact .base (.tup h)
  · exact .fTuple h
  · exact .kTuple h1 h2
theorem ty_ok {μ : Nat → Addr} {S : Sto} {Y : List Addr} {H : Hp} {u : U} {x : V} {t : Option BT} (r : RS X.K X.mg μ S Y H) (ru : RU X.K X.mg μ S.length Y H u x) (e : tyE S u = some t) : TyX X.K H x (.type (tyNm t)) := by
  cases ru with
  | non => cases e; exact .base .non
  | bl b => cases e; exact .base (.bl b)
  | int i => cases e; exact .base (.int i)
  | str s => cases e; exact .base (.str s)
  | tup h _ => cases e; exact SqT.ty h
  | tl h _ _ _ => cases e; exact .base (.lst h)
  | rl h _ =>
    cases e
    rcases h with ⟨o, h⟩ | h
    · exact .base (.frz h)
    · rcases h with (h | ⟨_, h⟩) | ⟨o, its, n, h1, h2, _⟩
      · cases h
      · cases h
      · exact .kList h1 h2
  | @obj k a hk ha =>
    replace e : (match S[k]? with
      | some (.lst _) => some (some BT.list)
      | some (.dct _) => some (some .dict)
      | _ => none) = some t := e
    cases q : S[k]? with
    | none => rw [q] at e; cases e
    | some o =>
      rw [q] at e
      cases o with
      | lst us => cases e; obtain ⟨vs, h, _⟩ := r.at_ k _ q; exact .base (.lst (by rw [ha]; exact h))
      | dct us => cases e; obtain ⟨vs, h, _⟩ := r.at_ k _ q; exact .base (.dK (by rw [ha]; exact h))
      | ins C fs => cases e
  | fn h => cases e
theorem isi_ok {μ : Nat → Addr} {S : Sto} {Y : List Addr} {H : Hp} {u z : U} {x : V} {T : BT} {Q : VK} (r : RS X.K X.mg μ S Y H) (ru : RU X.K X.mg μ S.length Y H u x) (e : (isiE S u T).map U.bl = some z) (k : KX X μ S Y H z Q) :
    rIsi X.K [x, .ty T.nm] H Q := by
  unfold isiE at e
  simp only [Option.map_eq_some_iff] at e
  obtain ⟨b, ⟨t, h1, rfl⟩, rfl⟩ := e
  exact ⟨x, .ty T.nm, _, _, _, rfl, .ty _, ty_ok r ru h1, kit_ty (kit_isiT t T), k.here r _ (.bl _)⟩
end
end Z

set_option Elab.async false
set_option linter.all false
set_option maxRecDepth 100000
set_option maxHeartbeats 800000
/-! Z5: the text beside its short form; readings of both. -/
namespace Z
open PySem PySem.Spec PyProof.Rows L2

/-! ### the text beside its short form -/
def boOp : BO → Operator
  | .add => .Add | .sub => .Sub | .mul => .Mult | .md => .Mod | .fd => .FloorDiv | .pw => .Pow
def coOp : CO → CmpOp
  | .lt => .Lt | .le => .LtE | .gt => .Gt | .ge => .GtE | .eq => .Eq | .ne => .NotEq | .inn => .In | .nin => .NotIn
def notStar : Expr → Bool
  | .Starred .. => false
  | _ => true
theorem star_cons {e : Expr} {es : List Expr} {env : Env} (h : notStar e = true) : starEach (e :: es) env = (false, eval e env) :: starEach es env := by
  cases e <;> first | rfl | cases h
theorem noStar_any : ∀ {es : List Expr} {env : Env} {pos : Pos}, es.all notStar = true → (backTo pos (starEach es env)).any (·.1) = false
  | [], _, _, _ => rfl
  | e :: es, env, pos, h => by
    rw [List.all_cons, Bool.and_eq_true] at h
    rw [star_cons h.1]
    have := noStar_any (env := env) (pos := pos) h.2
    simp only [backTo] at this ⊢
    simpa using this
def plainIxB : Expr → Bool
  | .Name .. | .Constant .. | .BinOp .. | .UnaryOp .. | .Call .. | .Subscript .. | .Attribute .. | .IfExp .. => true
  | _ => false
theorem plainIx_of {b : Expr} (h : plainIxB b = true) : PlainIx b := by
  cases b <;> first | (cases h; done) | exact fun _ _ => rfl
def plainTB : Expr → Bool
  | .Name .. | .Constant .. | .Call .. | .Subscript .. | .Attribute .. => true
  | _ => false
section
variable {X : Cx}
theorem pt_plain {e : Expr} {t : TE} (he : plainTB e = true) (h : PE X e t) : PT X e (tB t) := by
  refine pt_val h ?_
  cases e <;> first | (cases he; done) | (intro _; rfl)
theorem PE.imp {e : Expr} {t t' : TE} (h : PE X e t) (k : ∀ σ H Q, t' σ H Q → t σ H Q) : PE X e t' := ⟨fun pins s σ H Q I q => h.run pins s σ H Q I (k σ H Q q)⟩
theorem PT.imp {e : Expr} {t t' : TT} (h : PT X e t) (k : ∀ σ H Q, t' σ H Q → t σ H Q) : PT X e t' := ⟨fun pins s σ H Q I q => h.run pins s σ H Q I (k σ H Q q)⟩
theorem PW.imp {e : Expr} {t t' : TT} (h : PW X e t) (k : ∀ σ H Q, t' σ H Q → t σ H Q) : PW X e t' := ⟨fun w pins s σ H Q I q => h.run w pins s σ H Q I (k σ H Q q)⟩
theorem PA.imp {e : List Expr} {t t' : TA} (h : PA X e t) (k : ∀ σ H Q, t' σ H Q → t σ H Q) : PA X e t' := ⟨fun w pins s σ H Q I q => h.run w pins s σ H Q I (k σ H Q q)⟩
theorem PO.imp {e : Option Expr} {t t' : TO} (h : PO X e t) (k : ∀ σ H Q, t' σ H Q → t σ H Q) : PO X e t' := ⟨fun pins s σ H Q I q => h.run pins s σ H Q I (k σ H Q q)⟩
theorem PI.imp {tg e : Expr} {t t' : TI} (h : PI X tg e t) (k : ∀ σ H R, t' σ H R → t σ H R) : PI X tg e t' := ⟨fun pins s σ H Q I q => h.run pins s σ H Q I (k σ H Q q)⟩
theorem PI.or {tg e : Expr} {t t' : TI} (h : PI X tg e t) (h' : PI X tg e t') : PI X tg e (fun σ H R => t σ H R ∨ t' σ H R) :=
  ⟨fun pins s σ H Q I q => q.elim (h.run pins s σ H Q I) (h'.run pins s σ H Q I)⟩
theorem PE.false {e : Expr} {t : TE} (k : ∀ σ H Q, ¬ t σ H Q) : PE X e t := ⟨fun _ _ σ H Q _ q => (k σ H Q q).elim⟩
end
def visB (N : List Str) (sc : Scope) (i : Nat) (x : Str) : Bool :=
  decide (N[i]? = some x) && (match sc.names.lookup x with | some .local => true | some .cell => true | some .free => true | _ => false) && !(x == ("__debug__" : Str)) && !(x == ("__classdict__" : Str))
def glB (sc : Scope) (x : Str) : Bool := decide (sc.names.lookup x = some .globalImplicit) && !(x == ("__debug__" : Str))
def locB (N : List Str) (sc : Scope) (i : Nat) (x : Str) : Bool :=
  decide (N[i]? = some x) && (match sc.names.lookup x with | some .local => true | some .cell => true | _ => false)
-- views of a text
def asName : Expr → Option Str
  | .Name x _ => some x
  | _ => none
def asInt : Expr → Option Int
  | .Constant (.int j) _ _ => some j
  | _ => none
def asStr : Expr → Option Str
  | .Constant (.str j) _ _ => some j
  | _ => none
def asBool : Expr → Option Bool
  | .Constant (.bool j) _ _ => some j
  | _ => none
def asNon : Expr → Bool
  | .Constant .none _ _ => true
  | _ => false
def asBin : Expr → Option (Operator × Expr × Expr)
  | .BinOp p op q _ => some (op, p, q)
  | _ => none
def asUn : Expr → Option (UnaryOp × Expr)
  | .UnaryOp op p _ => some (op, p)
  | _ => none
def asCmp : Expr → Option (Expr × CmpOp × Expr)
  | .Compare p [op] [q] _ => some (p, op, q)
  | _ => none
def asChn : Expr → Option (Expr × CmpOp × Expr × CmpOp × Expr)
  | .Compare p [op, op'] [q, r] _ => some (p, op, q, op', r)
  | _ => none
def asBop : Expr → Option (BoolOp × List Expr)
  | .BoolOp op es _ => some (op, es)
  | _ => none
def asIf : Expr → Option (Expr × Expr × Expr)
  | .IfExp c p q _ => some (c, p, q)
  | _ => none
def asCall : Expr → Option (Str × List Expr)
  | .Call (.Name g _) es [] _ => some (g, es)
  | _ => none
def asSub : Expr → Option (Expr × Expr)
  | .Subscript p q _ => some (p, q)
  | _ => none
def asSl : Expr → Option (Option Expr × Option Expr)
  | .Slice l h none _ => some (l, h)
  | _ => none
def asRev : Expr → Bool
  | .Slice none none (some (.UnaryOp .USub (.Constant (.int 1) _ _) _)) _ => true
  | _ => false
def asTup : Expr → Option (List Expr)
  | .Tuple es _ _ => some es
  | _ => none
def asLst : Expr → Option (List Expr)
  | .List es _ => some es
  | _ => none
def asLc : Expr → Option (Expr × Expr × Expr × List Expr × Scope)
  | .ListComp e [⟨tg, it, ifs, 0⟩] s2 _ => some (e, tg, it, ifs, s2)
  | _ => none
theorem asName_ok {e : Expr} {x : Str} (h : asName e = some x) : ∃ pos, e = .Name x pos := by cases e <;> simp [asName] at h; subst h; exact ⟨_, rfl⟩
theorem asInt_ok {e : Expr} {x : Int} (h : asInt e = some x) : ∃ k pos, e = .Constant (.int x) k pos := by
  unfold asInt at h; split at h <;> simp at h; subst h; exact ⟨_, _, rfl⟩
theorem asStr_ok {e : Expr} {x : Str} (h : asStr e = some x) : ∃ k pos, e = .Constant (.str x) k pos := by
  unfold asStr at h; split at h <;> simp at h; subst h; exact ⟨_, _, rfl⟩
theorem asBool_ok {e : Expr} {x : Bool} (h : asBool e = some x) : ∃ k pos, e = .Constant (.bool x) k pos := by
  unfold asBool at h; split at h <;> simp at h; subst h; exact ⟨_, _, rfl⟩
theorem asNon_ok {e : Expr} (h : asNon e = true) : ∃ k pos, e = .Constant .none k pos := by
  unfold asNon at h; split at h <;> simp at h; exact ⟨_, _, rfl⟩
theorem asBin_ok {e p q : Expr} {op : Operator} (h : asBin e = some (op, p, q)) : ∃ pos, e = .BinOp p op q pos := by cases e <;> simp [asBin] at h; obtain ⟨rfl, rfl, rfl⟩ := h; exact ⟨_, rfl⟩
theorem asUn_ok {e p : Expr} {op : UnaryOp} (h : asUn e = some (op, p)) : ∃ pos, e = .UnaryOp op p pos := by cases e <;> simp [asUn] at h; obtain ⟨rfl, rfl⟩ := h; exact ⟨_, rfl⟩
theorem asCmp_ok {e p q : Expr} {op : CmpOp} (h : asCmp e = some (p, op, q)) : ∃ pos, e = .Compare p [op] [q] pos := by
  unfold asCmp at h; split at h <;> simp at h; obtain ⟨rfl, rfl, rfl⟩ := h; exact ⟨_, rfl⟩
theorem asChn_ok {e p q r : Expr} {op op' : CmpOp} (h : asChn e = some (p, op, q, op', r)) : ∃ pos, e = .Compare p [op, op'] [q, r] pos := by
  unfold asChn at h; split at h <;> simp at h; obtain ⟨rfl, rfl, rfl, rfl, rfl⟩ := h; exact ⟨_, rfl⟩
theorem asBop_ok {e : Expr} {op : BoolOp} {es : List Expr} (h : asBop e = some (op, es)) : ∃ pos, e = .BoolOp op es pos := by cases e <;> simp [asBop] at h; obtain ⟨rfl, rfl⟩ := h; exact ⟨_, rfl⟩
theorem asIf_ok {e c p q : Expr} (h : asIf e = some (c, p, q)) : ∃ pos, e = .IfExp c p q pos := by cases e <;> simp [asIf] at h; obtain ⟨rfl, rfl, rfl⟩ := h; exact ⟨_, rfl⟩
theorem asCall_ok {e : Expr} {g : Str} {es : List Expr} (h : asCall e = some (g, es)) : ∃ p pos, e = .Call (.Name g p) es [] pos := by
  unfold asCall at h; split at h <;> simp at h; obtain ⟨rfl, rfl⟩ := h; exact ⟨_, _, rfl⟩
theorem asSub_ok {e p q : Expr} (h : asSub e = some (p, q)) : ∃ pos, e = .Subscript p q pos := by cases e <;> simp [asSub] at h; obtain ⟨rfl, rfl⟩ := h; exact ⟨_, rfl⟩
theorem asSl_ok {e : Expr} {l u : Option Expr} (h : asSl e = some (l, u)) : ∃ pos, e = .Slice l u none pos := by
  unfold asSl at h; split at h <;> simp at h; obtain ⟨rfl, rfl⟩ := h; exact ⟨_, rfl⟩
theorem asRev_ok {e : Expr} (h : asRev e = true) : ∃ k p1 p2 p3, e = .Slice none none (some (.UnaryOp .USub (.Constant (.int 1) k p1) p2)) p3 := by
  unfold asRev at h; split at h <;> simp at h; exact ⟨_, _, _, _, rfl⟩
theorem asTup_ok {e : Expr} {es : List Expr} (h : asTup e = some es) : ∃ k pos, e = .Tuple es k pos := by cases e <;> simp [asTup] at h; subst h; exact ⟨_, _, rfl⟩
theorem asLst_ok {e : Expr} {es : List Expr} (h : asLst e = some es) : ∃ pos, e = .List es pos := by cases e <;> simp [asLst] at h; subst h; exact ⟨_, rfl⟩
theorem asLc_ok {e x tg it : Expr} {ifs : List Expr} {s2 : Scope} (h : asLc e = some (x, tg, it, ifs, s2)) : ∃ pos, e = .ListComp x [⟨tg, it, ifs, 0⟩] s2 pos := by
  unfold asLc at h; split at h <;> simp at h; obtain ⟨rfl, rfl, rfl, rfl, rfl⟩ := h; exact ⟨_, rfl⟩
def asZipS : Expr → Option (Expr × Expr)
  | .Call (.Name g _) [p, q] [⟨some k, .Constant (.bool true) _ _, _⟩] _ => if g = ("zip" : Str) ∧ k = ("strict" : Str) then some (p, q) else none
  | _ => none
theorem asZipS_ok {e p q : Expr} (h : asZipS e = some (p, q)) : ∃ p1 j cp kp pos, e = .Call (.Name "zip" p1) [p, q] [⟨some "strict", .Constant (.bool true) j cp, kp⟩] pos := by
  unfold asZipS at h
  split at h
  · split at h
    · rename_i hk
      obtain ⟨rfl, rfl⟩ := hk
      simp at h
      obtain ⟨rfl, rfl⟩ := h
      exact ⟨_, _, _, _, _, rfl⟩
    · cases h
  · cases h
def notSet : Expr → Bool
  | .Set .. => false
  | _ => true
mutual
def slT : CT → List Nat
  | .name i => [i]
  | .tup ts => slTs ts
def slTs : CTs → List Nat
  | .nil => []
  | .cons t ts => slT t ++ slTs ts
end
mutual
def matchT (N : List Str) (sc : Scope) : CT → Expr → Bool
  | .name i, e => match asName e with
    | some x => locB N sc i x
    | none => false
  | .tup ts, e => match asTup e with
    | some es => matchTs N sc ts es
    | none => false
def matchTs (N : List Str) (sc : Scope) : CTs → List Expr → Bool
  | .nil, es => es.isEmpty
  | .cons t ts, es => match es with
    | e :: es => matchT N sc t e && matchTs N sc ts es
    | [] => false
end
-- a test's form is served
mutual
def okT : CE → Expr → Bool
  | .bop _ as, e => match asBop e with
    | some (_, es) => okTs as es
    | none => false
  | .not a, e => match asUn e with
    | some (_, p) => okT a p
    | none => false
  | .cmp .., _ => true
  | .isN .., _ => true
  | .notN .., _ => true
  | .chn .., _ => true
  | .nope, _ => true
  | .din .., _ => true
  | _, e => plainTB e
def okTs : CEs → List Expr → Bool
  | .nil, _ => true
  | .cons c cs, es => match es with
    | e :: es => okT c e && okTs cs es
    | [] => false
end
mutual
def matchE (N : List Str) (sc : Scope) : CE → Expr → Bool
  | .var i, e => match asName e with
    | some x => visB N sc i x
    | none => false
  | .int i, e => asInt e == some i
  | .str s, e => decide (asStr e = some s)
  | .non, e => asNon e
  | .bl b, e => asBool e == some b
  | .glob x, e => decide (asName e = some x) && glB sc x
  | .bin o a b, e => match asBin e with
    | some (op, p, q) => decide (op = boOp o) && (matchE N sc a p && matchE N sc b q)
    | none => false
  | .neg a, e => match asUn e with
    | some (op, p) => decide (op = .USub) && matchE N sc a p
    | none => false
  | .cmp o a b, e => match asCmp e with
    | some (p, op, q) => decide (op = coOp o) && !behindInMarks op q && (matchE N sc a p && matchE N sc b q)
    | none => false
  | .isN a, e => match asCmp e with
    | some (p, op, q) => decide (op = .Is) && asNon q && matchE N sc a p
    | none => false
  | .notN a, e => match asCmp e with
    | some (p, op, q) => decide (op = .IsNot) && asNon q && matchE N sc a p
    | none => false
  | .chn o o' a b c, e => match asChn e with
    | some (p, op, q, op', r) => decide (op = coOp o) && decide (op' = coOp o') && !lastMarks [op, op'] [q, r] && (matchE N sc a p && (matchE N sc b q && matchE N sc c r))
    | none => false
  | .bop an as, e => match asBop e with
    | some (op, es) => decide (op = if an then .And else .Or) && matchEs N sc as es
    | none => false
  | .not a, e => match asUn e with
    | some (op, p) => decide (op = .Not) && matchE N sc a p
    | none => false
  | .ite t a b, e => match asIf e with
    | some (c, p, q) => (okT t c && matchE N sc t c) && (matchE N sc a p && matchE N sc b q)
    | none => false
  | .call f as, e => match asCall e with
    | some (g, es) => decide (f = g) && glB sc f && es.all notStar && (!es.isEmpty && matchEs N sc as es)
    | none => false
  | .bi f as, e => match asCall e with
    | some (g, es) => decide (f.nm = g) && glB sc f.nm && es.all notStar && (!es.isEmpty && matchEs N sc as es)
    | none => false
  | .isi a t, e => match asCall e with
    | some (g, [p, q]) => decide (g = ("isinstance" : Str)) && glB sc "isinstance" && decide (asName q = some (Str.ofString t.nm)) && glB sc (Str.ofString t.nm) && (notStar p && matchE N sc a p)
    | _ => false
  | .idx a i, e => match asSub e with
    | some (p, q) => plainIxB q && (matchE N sc a p && matchE N sc i q)
    | none => false
  | .sl a lo hi, e => match asSub e with
    | some (p, q) => match asSl q with
      | some (l, h) => matchE N sc a p && (matchO N sc lo l && matchO N sc hi h)
      | none => false
    | none => false
  | .rev a, e => match asSub e with
    | some (p, q) => asRev q && matchE N sc a p
    | none => false
  | .tup as, e => match asTup e with
    | some es => es.all notStar && matchEs N sc as es
    | none => false
  | .tmp n, e => matchN N sc n e
  | .mk n, e => matchN N sc n e
  | .meth _ _ _, _ => false
  | .nope, _ => true
  | .repr a, e => match asCall e with
    | some (g, [p]) => decide (g = ("repr" : Str)) && glB sc "repr" && (notStar p && matchE N sc a p)
    | _ => false
  | .dget x a, e => match asSub e with
    | some (p, q) => plainIxB q && decide (asName p = some x) && glB sc x && matchE N sc a q
    | none => false
  | .din x no a, e => match asCmp e with
    | some (p, op, q) => decide (op = if no then .NotIn else .In) && !behindInMarks op q && decide (asName q = some x) && glB sc x && matchE N sc a p
    | none => false
  | .callL i as, e => match asCall e with
    | some (g, es) => visB N sc i g && es.all notStar && (!es.isEmpty && matchEs N sc as es)
    | none => false
def matchEs (N : List Str) (sc : Scope) : CEs → List Expr → Bool
  | .nil, es => es.isEmpty
  | .cons c cs, es => match es with
    | e :: es => matchE N sc c e && matchEs N sc cs es
    | [] => false
def matchO (N : List Str) (sc : Scope) : CEs → Option Expr → Bool
  | .nil, o => o.isNone
  | .cons c _, o => match o with
    | some e => matchE N sc c e
    | none => false
def matchN (N : List Str) (sc : Scope) : CN → Expr → Bool
  | .lst as, e => match asLst e with
    | some es => es.all notStar && matchEs N sc as es
    | none => false
  | .listOf a, e => match asCall e with
    | some (g, [p]) => decide (g = ("list" : Str)) && glB sc "list" && (notStar p && matchE N sc a p)
    | _ => false
  | .cat a b, e => match asBin e with
    | some (op, p, q) => decide (op = .Add) && (matchE N sc a p && matchE N sc b q)
    | none => false
  | .lc tg it cnd elt own, e => match asLc e with
    | some (x, tg', it', ifs, s2) => blkC N sc s2 own && (slT tg).all (fun i => decide (i ∈ own.map (·.2))) && matchT N s2 tg tg' && notSet it' && (matchI N sc it tg' it' && (matchEs N (relS s2 sc) cnd ifs && decide (ifs.length ≤ 1) && okTs cnd ifs) && matchE N (relS s2 sc) elt x)
    | none => false
def matchI (N : List Str) (sc : Scope) : CI → Expr → Expr → Bool
  | .seq a, _, e => matchE N sc a e
  | .rng1 a, _, e => match asCall e with
    | some (g, [p]) => decide (g = ("range" : Str)) && glB sc "range" && (notStar p && matchE N sc a p)
    | _ => false
  | .rng2 a b, _, e => match asCall e with
    | some (g, [p, q]) => decide (g = ("range" : Str)) && glB sc "range" && (notStar p && notStar q && (matchE N sc a p && matchE N sc b q))
    | _ => false
  | .enum a, tg, e => match asCall e with
    | some (g, [p]) => decide (g = ("enumerate" : Str)) && glB sc "enumerate" && (asTup tg).isSome && (notStar p && matchE N sc a p)
    | _ => false
  | .zip true a b, tg, e => match asZipS e with
    | some (p, q) => glB sc "zip" && (asTup tg).isSome && (notStar p && notStar q && (matchE N sc a p && matchE N sc b q))
    | none => false
  | .zip false a b, tg, e => match asCall e with
    | some (g, [p, q]) => decide (g = ("zip" : Str)) && glB sc "zip" && (asTup tg).isSome && (notStar p && notStar q && (matchE N sc a p && matchE N sc b q))
    | _ => false
end
end Z

set_option Elab.async false
set_option linter.all false
set_option maxRecDepth 100000
set_option maxHeartbeats 1600000
/-! Z6: what the short form comes to is what the text does. -/
namespace Z
open PySem PySem.Spec PyProof.Rows L2
section
variable {K : PySem.W.Frag} {mg : Str → Option Value} {Y : List Addr} {μ μ' μ1 : Nat → Addr} {n n' n1 : Nat} {H H' H1 : Hp} {S S1 S' : Sto} {α β : Type} {W : WX} {σ : L2.St}
theorem Fin.ofO {o : Option α} {P : α → Sto → (Nat → Addr) → Hp → Prop} (x : Fin K mg W σ μ S Y H (Z.ofO S o) P) : ∃ z, o = some z ∧ Nx K mg μ S Y H S (P z S) := by
  cases o with
  | none => exact x.elim
  | some z => exact ⟨z, rfl, x⟩
theorem Fin.ofOb {o : Option Bool} {P : U → Sto → (Nat → Addr) → Hp → Prop} (x : Fin K mg W σ μ S Y H (Z.ofO S (o.map U.bl)) P) : ∃ b, o = some b ∧ Nx K mg μ S Y H S (P (.bl b) S) := by
  cases o with
  | none => exact x.elim
  | some z => exact ⟨z, rfl, x⟩
/-! ### reserved places -/
mutual
theorem RU.addY {a : Addr} (ha : H a = none) : ∀ {u : U} {v : V}, RU K mg μ n Y H u v → RU K mg μ n (a :: Y) H u v
  | _, _, .non => .non
  | _, _, .bl b => .bl b
  | _, _, .int i => .int i
  | _, _, .str x => .str x
  | _, _, .tup h r => .tup h (RUs.addY ha r)
  | _, _, .obj h e => .obj h e
  | _, _, .tl h h1 h2 r => .tl h h1 (fun z => by rcases List.mem_cons.mp z with z | z; (rw [z, ha] at h; cases h); exact h2 z) (RUs.addY ha r)
  | _, _, .rl h r => .rl h (RUs.addY ha r)
  | _, _, .fn h => .fn h
theorem RUs.addY {a : Addr} (ha : H a = none) : ∀ {us : List U} {vs : List V}, RUs K mg μ n Y H us vs → RUs K mg μ n (a :: Y) H us vs
  | _, _, .nil => .nil
  | _, _, .cons h r => .cons (RU.addY ha h) (RUs.addY ha r)
end
mutual
theorem RU.lessY {a : Addr} : ∀ {u : U} {v : V}, RU K mg μ n (a :: Y) H u v → RU K mg μ n Y H u v
  | _, _, .non => .non
  | _, _, .bl b => .bl b
  | _, _, .int i => .int i
  | _, _, .str x => .str x
  | _, _, .tup h r => .tup h (RUs.lessY r)
  | _, _, .obj h e => .obj h e
  | _, _, .tl h h1 h2 r => .tl h h1 (fun z => h2 (List.mem_cons_of_mem _ z)) (RUs.lessY r)
  | _, _, .rl h r => .rl h (RUs.lessY r)
  | _, _, .fn h => .fn h
theorem RUs.lessY {a : Addr} : ∀ {us : List U} {vs : List V}, RUs K mg μ n (a :: Y) H us vs → RUs K mg μ n Y H us vs
  | _, _, .nil => .nil
  | _, _, .cons h r => .cons (RU.lessY h) (RUs.lessY r)
end
mutual
theorem RU.ownY {a : Addr} : ∀ {u : U} {v : V}, RU K mg μ n (a :: Y) H u v → RU K mg (ext1 μ n a) (n + 1) Y H u v
  | _, _, .non => .non
  | _, _, .bl b => .bl b
  | _, _, .int i => .int i
  | _, _, .str x => .str x
  | _, _, .tup h r => .tup h (RUs.ownY r)
  | _, _, .obj h e => .obj (Nat.lt_succ_of_lt h) (by rw [e, ext1_lt h])
  | _, _, .tl h h1 h2 r => .tl h (fun i hi => by
      by_cases q : i < n
      · rw [ext1_lt q]; exact h1 i q
      · have : i = n := by omega
        subst this
        rw [ext1_at]
        exact fun z => h2 (by rw [z]; exact List.mem_cons_self)) (fun z => h2 (List.mem_cons_of_mem _ z)) (RUs.ownY r)
  | _, _, .rl h r => .rl h (RUs.ownY r)
  | _, _, .fn h => .fn h
theorem RUs.ownY {a : Addr} : ∀ {us : List U} {vs : List V}, RUs K mg μ n (a :: Y) H us vs → RUs K mg (ext1 μ n a) (n + 1) Y H us vs
  | _, _, .nil => .nil
  | _, _, .cons h r => .cons (RU.ownY h) (RUs.ownY r)
end
theorem RKs.addY {a : Addr} (ha : H a = none) : ∀ {us : List (Key × U)} {vs : List (Key × V)}, RKs K mg μ n Y H us vs → RKs K mg μ n (a :: Y) H us vs
  | _, _, .nil => .nil
  | _, _, .cons h r => .cons (RU.addY ha h) (RKs.addY ha r)
theorem RKs.lessY {a : Addr} : ∀ {us : List (Key × U)} {vs : List (Key × V)}, RKs K mg μ n (a :: Y) H us vs → RKs K mg μ n Y H us vs
  | _, _, .nil => .nil
  | _, _, .cons h r => .cons (RU.lessY h) (RKs.lessY r)
theorem RKs.ownY {a : Addr} : ∀ {us : List (Key × U)} {vs : List (Key × V)}, RKs K mg μ n (a :: Y) H us vs → RKs K mg (ext1 μ n a) (n + 1) Y H us vs
  | _, _, .nil => .nil
  | _, _, .cons h r => .cons (RU.ownY h) (RKs.ownY r)
theorem RFs.addY {a : Addr} (ha : H a = none) : ∀ {us : List (Str × U)} {vs : List (Str × V)}, RFs K mg μ n Y H us vs → RFs K mg μ n (a :: Y) H us vs
  | _, _, .nil => .nil
  | _, _, .cons h r => .cons (RU.addY ha h) (RFs.addY ha r)
theorem RFs.lessY {a : Addr} : ∀ {us : List (Str × U)} {vs : List (Str × V)}, RFs K mg μ n (a :: Y) H us vs → RFs K mg μ n Y H us vs
  | _, _, .nil => .nil
  | _, _, .cons h r => .cons (RU.lessY h) (RFs.lessY r)
theorem RFs.ownY {a : Addr} : ∀ {us : List (Str × U)} {vs : List (Str × V)}, RFs K mg μ n (a :: Y) H us vs → RFs K mg (ext1 μ n a) (n + 1) Y H us vs
  | _, _, .nil => .nil
  | _, _, .cons h r => .cons (RU.ownY h) (RFs.ownY r)
theorem RO.addY {a b : Addr} {o : SO} (ha : H a = none) (r : RO K mg μ n Y H b o) : RO K mg μ n (a :: Y) H b o := by
  cases o with
  | lst us => obtain ⟨vs, h, r⟩ := r; exact ⟨vs, h, r.addY ha⟩
  | dct us => obtain ⟨vs, h, r⟩ := r; exact ⟨vs, h, r.addY ha⟩
  | ins C fs => obtain ⟨c, dx, vs, g, h, r, d⟩ := r; exact ⟨c, dx, vs, g, h, r.addY ha, d⟩
theorem RO.lessY {a b : Addr} {o : SO} (r : RO K mg μ n (a :: Y) H b o) : RO K mg μ n Y H b o := by
  cases o with
  | lst us => obtain ⟨vs, h, r⟩ := r; exact ⟨vs, h, r.lessY⟩
  | dct us => obtain ⟨vs, h, r⟩ := r; exact ⟨vs, h, r.lessY⟩
  | ins C fs => obtain ⟨c, dx, vs, g, h, r, d⟩ := r; exact ⟨c, dx, vs, g, h, r.lessY, d⟩
theorem RO.ownY {a b : Addr} {o : SO} (r : RO K mg μ n (a :: Y) H b o) : RO K mg (ext1 μ n a) (n + 1) Y H b o := by
  cases o with
  | lst us => obtain ⟨vs, h, r⟩ := r; exact ⟨vs, h, r.ownY⟩
  | dct us => obtain ⟨vs, h, r⟩ := r; exact ⟨vs, h, r.ownY⟩
  | ins C fs => obtain ⟨c, dx, vs, g, h, r, d⟩ := r; exact ⟨c, dx, vs, g, h, r.ownY, d⟩
theorem RE.addY {a : Addr} {ρ : Rho} (ha : H a = none) (e : RE K mg μ n Y H ρ σ) : RE K mg μ n (a :: Y) H ρ σ := ⟨e.1, fun i u h => let ⟨v, h1, h2⟩ := e.2 i u h; ⟨v, h1, h2.addY ha⟩⟩
/-- a fresh place is laid and reserved -/
theorem RS.resv {a : Addr} {ho : HO} (r : RS K mg μ S Y H) (ha : H a = none) : RS K mg μ S (a :: Y) (upd H a ho) := by
  have f := r.fresh (ho := ho) ha
  refine ⟨r.inj, fun i o h => ?_, fun b hb => ?_⟩
  · have g := Gr.fresh (ho := ho) r ha
    exact (RO.addY ha (r.at_ i o h)).mono g (upd_ne (r.off ha i (List.getElem?_eq_some_iff.mp h).1)) fun c dx fs _ hd => by
      rw [upd_ne (fun q => by rw [q, ha] at hd; cases hd)]; exact hd
  · rcases List.mem_cons.mp hb with hb | hb
    · rw [hb, upd_same]
      exact ⟨by simp, fun i hi q => r.off ha i hi q.symm⟩
    · exact f.res b hb
theorem RS.lessY {a : Addr} (r : RS K mg μ S (a :: Y) H) : RS K mg μ S Y H := ⟨r.inj, fun i o h => (r.at_ i o h).lessY, fun b hb => r.res b (List.mem_cons_of_mem _ hb)⟩
/-- a reserved list becomes a thing of the store -/
theorem RS.ownY {a : Addr} {us : List U} {vs : List V} (r : RS K mg μ S (a :: Y) H) (hn : a ∉ Y) (h : H a = some (.lst vs)) (ru : RUs K mg μ S.length (a :: Y) H us vs) : RS K mg (ext1 μ S.length a) (S ++ [.lst us]) Y H := by
  have hl := (r.res a List.mem_cons_self).2
  refine ⟨fun i j hi hj e => ?_, fun i o' h' => ?_, fun b hb => ⟨(r.res b (List.mem_cons_of_mem _ hb)).1, fun i hi => ?_⟩⟩
  · rw [List.length_append, List.length_singleton] at hi hj
    by_cases qi : i = S.length
    · by_cases qj : j = S.length
      · omega
      · have hj' : j < S.length := by omega
        rw [ext1_lt hj', qi, ext1_at] at e
        exact (hl j hj' e).elim
    · have hi' : i < S.length := by omega
      by_cases qj : j = S.length
      · rw [ext1_lt hi', qj, ext1_at] at e
        exact (hl i hi' e.symm).elim
      · have hj' : j < S.length := by omega
        rw [ext1_lt hi', ext1_lt hj'] at e
        exact r.inj i j hi' hj' e
  · rw [List.length_append, List.length_singleton]
    by_cases qi : i < S.length
    · rw [List.getElem?_append_left qi] at h'
      rw [ext1_lt qi]
      exact (r.at_ i o' h').ownY
    · have : i = S.length := by
        have := (List.getElem?_eq_some_iff.mp h').1
        rw [List.length_append, List.length_singleton] at this
        omega
      subst this
      rw [List.getElem?_append_right (Nat.le_refl _), Nat.sub_self] at h'
      have h' := Option.some.inj h'
      subst h'
      rw [ext1_at]
      exact ⟨vs, h, ru.ownY⟩
  · rw [List.length_append, List.length_singleton] at hi
    by_cases qi : i < S.length
    · rw [ext1_lt qi]; exact (r.res b (List.mem_cons_of_mem _ hb)).2 i qi
    · have : i = S.length := by omega
      subst this
      rw [ext1_at]
      exact fun z => hn (by rw [← z]; exact hb)
theorem Gr.own {a : Addr} (g : Gr μ n H μ' n' H') (ha : H a = none) : Gr μ n H (ext1 μ' n' a) (n' + 1) H' := by
  refine ⟨Nat.le_succ_of_le g.le, fun i hi => by rw [ext1_lt (Nat.lt_of_lt_of_le hi g.le)]; exact g.at_ i hi, fun i h h' => ?_, g.all, g.tup, g.frz⟩
  by_cases q : i < n'
  · rw [ext1_lt q]; exact g.new i h q
  · have : i = n' := by omega
    subst this
    rw [ext1_at]; exact ha
/-- the reading of what makes a new list -/
def FinN (K : PySem.W.Frag) (mg : Str → Option Value) (W : WX) (σ : L2.St) (μ : Nat → Addr) (S : Sto) (Y : List Addr) (H : Hp) (r : Res (List U)) (Q : VK) : Prop := match r with
  | .ok us S' => ∀ μ' H' a vs, Gr μ S.length H μ' S'.length H' → H a = none → H' a = some (.lst vs) → RS K mg μ' S' (a :: Y) H' → RUs K mg μ' S'.length (a :: Y) H' us vs → Q (.ref a) H'
  | .ex x S' => Nx K mg μ S Y H S' fun μ' H' => ∀ cls d, RX K mg μ' S'.length Y H' x cls d → W cls d σ H'
  | .no => False
def tN (K : PySem.W.Frag) (mg : Str → Option Value) (W : WX) (f : Rho → Sto → Res (List U)) : TE := fun σ H Q => ∃ μ ρ S Y, RS K mg μ S Y H ∧ RE K mg μ S.length Y H ρ σ ∧ FinN K mg W σ μ S Y H (f ρ S) Q
theorem RS.notY {a : Addr} (r : RS K mg μ S Y H) (ha : H a = none) : a ∉ Y := fun h => (r.res a h).1 ha
theorem tN_tmp {f : Rho → Sto → Res (List U)} {Q : VK} (x : tE K mg W (fun ρ S => (f ρ S).bind fun us S1 => .ok (.tl us) S1) σ H Q) : tN K mg W f σ H Q := by
  obtain ⟨μ, ρ, S, Y, r, e, x⟩ := x
  refine ⟨μ, ρ, S, Y, r, e, ?_⟩
  replace x : Fin K mg W σ μ S Y H ((f ρ S).bind fun us S1 => .ok (.tl us) S1) (PU K mg Y Q) := x
  cases q : f ρ S with
  | ok us S' =>
    rw [q] at x
    exact fun μ' H' a vs g ha hl rs ru => x μ' H' g rs.lessY (.ref a) (.tl hl (rs.res a List.mem_cons_self).2 (r.notY ha) ru.lessY)
  | ex z S' => rw [q] at x; exact x
  | no => rw [q] at x; exact x
theorem tN_mk {f : Rho → Sto → Res (List U)} {Q : VK} (x : tE K mg W (fun ρ S => (f ρ S).bind fun us S1 => .ok (.obj S1.length) (S1 ++ [.lst us])) σ H Q) : tN K mg W f σ H Q := by
  obtain ⟨μ, ρ, S, Y, r, e, x⟩ := x
  refine ⟨μ, ρ, S, Y, r, e, ?_⟩
  replace x : Fin K mg W σ μ S Y H ((f ρ S).bind fun us S1 => .ok (.obj S1.length) (S1 ++ [.lst us])) (PU K mg Y Q) := x
  cases q : f ρ S with
  | ok us S' =>
    rw [q] at x
    refine fun μ' H' a vs g ha hl rs ru => x (ext1 μ' S'.length a) H' (by rw [List.length_append, List.length_singleton]; exact g.own ha) (rs.ownY (r.notY ha) hl ru) (.ref a) ?_
    exact .obj (by rw [List.length_append, List.length_singleton]; omega) ext1_at.symm
  | ex z S' => rw [q] at x; exact x
  | no => rw [q] at x; exact x
/-- a list laid at the end, of values that stand -/
theorem FinN.lay {us : List U} {vs : List V} {Q : VK} {p : Addr} (r1 : RS K mg μ1 S1 Y H1) (g : Gr μ S.length H μ1 S1.length H1) (r : RS K mg μ S Y H) (x : FinN K mg W σ μ S Y H (.ok us S1) Q) (ru : RUs K mg μ1 S1.length Y H1 us vs) (hp : H1 p = none) : Q (.ref p) (upd H1 p (.lst vs)) := by
  have h0 : H p = none := by
    cases q : H p with
    | none => rfl
    | some o =>
      by_cases z : ∃ i, i < S.length ∧ p = μ i
      · obtain ⟨i, hi, e⟩ := z
        have := (r1.at_ i _ (List.getElem?_eq_getElem (Nat.lt_of_lt_of_le hi g.le))).some_
        rw [g.at_ i hi, ← e] at this
        exact absurd hp this
      · have := g.all p o (fun i hi e => z ⟨i, hi, e⟩) q
        rw [hp] at this; cases this
  exact x μ1 _ p vs (g.trans (Gr.fresh r1 hp) r1.inj) h0 upd_same (r1.resv hp) ((ru.addY hp).mono (Gr.fresh r1 hp))
theorem Gr.none_of {p : Addr} (r1 : RS K mg μ1 S1 Y H1) (g : Gr μ S.length H μ1 S1.length H1) (hp : H1 p = none) : H p = none := by
  cases q : H p with
  | none => rfl
  | some o =>
    by_cases z : ∃ i, i < S.length ∧ p = μ i
    · obtain ⟨i, hi, e⟩ := z
      have := (r1.at_ i _ (List.getElem?_eq_getElem (Nat.lt_of_lt_of_le hi g.le))).some_
      rw [g.at_ i hi, ← e] at this
      exact absurd hp this
    · have := g.all p o (fun i hi e => z ⟨i, hi, e⟩) q
      rw [hp] at this; cases this
theorem Gr.upd_new {D : Addr} {ho : HO} (g : Gr μ n H μ' n' H') (hD : H D = none) : Gr μ n H μ' n' (upd H' D ho) := by
  refine ⟨g.le, g.at_, g.new, fun a o ha h => ?_, fun a xs h => ?_, fun a o u h => ?_⟩
  · rw [upd_ne (fun q => by rw [q, hD] at h; cases h)]; exact g.all a o ha h
  · rw [upd_ne (fun q => by rw [q, hD] at h; cases h)]; exact g.tup a xs h
  · rw [upd_ne (fun q => by rw [q, hD] at h; cases h)]; exact g.frz a o u h
/-- a reserved list is written: nothing hangs on it -/
theorem SqT.reput {D a : Addr} {ho : HO} {l xs : List V} (h : H D = some (.lst l)) (q : SqT K H a xs) : SqT K (upd H D ho) a xs := by
  rcases q with (q | ⟨o, q⟩) | q
  · exact .inl (.inl (by rw [upd_ne (fun z => by rw [z, h] at q; cases q)]; exact q))
  · exact .inl (.inr ⟨o, by rw [upd_ne (fun z => by rw [z, h] at q; cases q)]; exact q⟩)
  · exact .inr q
mutual
theorem RU.reput {D : Addr} {ho : HO} {l : List V} (hD : D ∈ Y) (h : H D = some (.lst l)) : ∀ {u : U} {v : V}, RU K mg μ n Y H u v → RU K mg μ n Y (upd H D ho) u v
  | _, _, .non => .non
  | _, _, .bl b => .bl b
  | _, _, .int i => .int i
  | _, _, .str x => .str x
  | _, _, .tup q r => .tup (SqT.reput h q) (RUs.reput hD h r)
  | _, _, .obj q e => .obj q e
  | _, _, .tl q h1 h2 r => .tl (by rw [upd_ne (fun z => h2 (by rw [z]; exact hD))]; exact q) h1 h2 (RUs.reput hD h r)
  | _, _, .rl q r => .rl (q.to fun o q => by rw [upd_ne (fun z => by rw [z, h] at q; cases q)]; exact q) (RUs.reput hD h r)
  | _, _, .fn q => .fn q
theorem RUs.reput {D : Addr} {ho : HO} {l : List V} (hD : D ∈ Y) (h : H D = some (.lst l)) : ∀ {us : List U} {vs : List V}, RUs K mg μ n Y H us vs → RUs K mg μ n Y (upd H D ho) us vs
  | _, _, .nil => .nil
  | _, _, .cons q r => .cons (RU.reput hD h q) (RUs.reput hD h r)
end
theorem RKs.reput {D : Addr} {ho : HO} {l : List V} (hD : D ∈ Y) (h : H D = some (.lst l)) : ∀ {us : List (Key × U)} {vs : List (Key × V)}, RKs K mg μ n Y H us vs → RKs K mg μ n Y (upd H D ho) us vs
  | _, _, .nil => .nil
  | _, _, .cons q r => .cons (RU.reput hD h q) (RKs.reput hD h r)
theorem RFs.reput {D : Addr} {ho : HO} {l : List V} (hD : D ∈ Y) (h : H D = some (.lst l)) : ∀ {us : List (Str × U)} {vs : List (Str × V)}, RFs K mg μ n Y H us vs → RFs K mg μ n Y (upd H D ho) us vs
  | _, _, .nil => .nil
  | _, _, .cons q r => .cons (RU.reput hD h q) (RFs.reput hD h r)
theorem RS.reput {D : Addr} {l l' : List V} (r : RS K mg μ S Y H) (hD : D ∈ Y) (h : H D = some (.lst l)) : RS K mg μ S Y (upd H D (.lst l')) := by
  refine ⟨r.inj, fun i o q => ?_, fun b hb => ⟨?_, (r.res b hb).2⟩⟩
  · have hi := (List.getElem?_eq_some_iff.mp q).1
    have ne : μ i ≠ D := fun z => (r.res D hD).2 i hi z.symm
    have x := r.at_ i o q
    cases o with
    | lst us => obtain ⟨vs, h1, h2⟩ := x; exact ⟨vs, by rw [upd_ne ne]; exact h1, h2.reput hD h⟩
    | dct us => obtain ⟨vs, h1, h2⟩ := x; exact ⟨vs, by rw [upd_ne ne]; exact h1, h2.reput hD h⟩
    | ins C fs =>
      obtain ⟨c, dx, vs, g, h1, h2, d⟩ := x
      exact ⟨c, dx, vs, g, by rw [upd_ne ne]; exact h1, h2.reput hD h, by rw [upd_ne (fun z => by rw [z, h] at d; cases d)]; exact d⟩
  · by_cases z : b = D
    · rw [z, upd_same]; simp
    · rw [upd_ne z]; exact (r.res b hb).1
end
end Z

set_option Elab.async false
set_option linter.all false
set_option maxRecDepth 100000
set_option maxHeartbeats 1600000
/-! Z7: defs by what they come to; walks; targets. -/
namespace Z
open PySem PySem.Spec PyProof.Rows L2
section
variable {K : PySem.W.Frag} {mg : Str → Option Value} {Y : List Addr} {μ μ' μ1 : Nat → Addr} {n n' n1 : Nat} {H H' H1 : Hp} {S S1 S' : Sto} {α β : Type} {W : WX} {σ : L2.St}
theorem FinN.bind {r : Res α} {f : α → Sto → Res (List U)} {Q : VK} (g : Gr μ S.length H μ1 S1.length H1) (x : FinN K mg W σ μ S Y H (r.bind f) Q) : Fin K mg W σ μ1 S1 Y H1 r (fun a S2 _ _ => FinN K mg W σ μ S Y H (f a S2) Q) := by
  cases r with
  | ok a S2 => exact fun _ _ _ _ => x
  | ex z S' => exact Nx.shift x g
  | no => exact x
theorem FinN.ofO {o : Option (List U)} {Q : VK} (x : FinN K mg W σ μ S Y H (Z.ofO S1 o) Q) : ∃ z, o = some z ∧ FinN K mg W σ μ S Y H (.ok z S1) Q := by
  cases o with
  | none => exact x.elim
  | some z => exact ⟨z, rfl, x⟩
/-! ### a def by what it comes to -/
def SpF (K : PySem.W.Frag) (mg : Str → Option Value) (φ : List U → Sto → Res U) : Sp := fun vs H Q E => ∃ μ S Y us, RS K mg μ S Y H ∧ RUs K mg μ S.length Y H us vs ∧ Fin K mg (fun cls d _ H' => E cls d H') [] μ S Y H (φ us S) (PU K mg Y Q)
def DefIn (P : Program) (w : World) (K : PySem.W.Frag) (mg : Str → Option Value) (base : Heap) (k : Nat) (f : Str) (φ : List U → Sto → Res U) : Prop :=
  ∃ fa fd ps, mg f = some (.ref fa) ∧ PySem.W.keepIn K (.ref fa) = true ∧ ZG.FnG P w K mg base k fa fd ps (SpF K mg φ) ∧ Binds K fd ps []
def Tab (P : Program) (w : World) (K : PySem.W.Frag) (mg : Str → Option Value) (base : Heap) (k : Nat) (T : Th) : Prop :=
  ∀ f, T.dom f = true → DefIn P w K mg base k f (T.fn f)
theorem Fin.w {W' : WX} {σ' : L2.St} {r : Res α} {P : α → Sto → (Nat → Addr) → Hp → Prop} (h : ∀ cls d H, W cls d σ H → W' cls d σ' H) (x : Fin K mg W σ μ S Y H r P) : Fin K mg W' σ' μ S Y H r P := by
  cases r with
  | ok a S' => exact x
  | ex e S' => exact fun μ' H' g r cls d z => h cls d H' (x μ' H' g r cls d z)
  | no => exact x
/-- the names that stay the interpreter's -/
def bnames : List Str := ["len", "tuple", "int", "abs", "all", "any", "sum", "isinstance", "bool", "str", "list", "dict", "range", "enumerate", "zip", "min", "repr"]
/-- a dict of the module, by text keys: what it holds -/
def DctIn (K : PySem.W.Frag) (w : World) (mg : Str → Option Value) (x : Str) (d : Str → Option (Option U)) : Prop :=
  ∃ a es n, mg x = some (.ref a) ∧ KDict K w a es n ∧ ∀ z r, d z = some r → match r with
    | none => PySem.W.nsIn K a z = some none
    | some u => ∃ u0 v, PySem.W.nsIn K a z = some (some u0) ∧ RelV v u0 ∧ ∀ μ n Y H, RU K mg μ n Y H u v
structure Good (X : Cx) (T : Th) : Prop where
  calm : X.calm = true
  units : X.A.units + 65 < cLine
  gu : X.A.guards = some []
  nd : X.N.Nodup
  free : ∀ x, x ∈ bnames → X.mg x = none
  gl : ∀ x u, T.gl x = some u → ∃ v w, X.mg x = some w ∧ RelV v w ∧ ∀ μ n Y H, RU X.K X.mg μ n Y H u v
  dct : ∀ x d, T.dct x = some d → DctIn X.K X.w X.mg x d
  tab : ∃ k, Room k X.A ∧ Tab X.prog X.w X.K X.mg X.base k T
theorem Good.blk {X : Cx} {T : Th} (G : Good X T) (s : Shared) (H : Hp) (scope : Scope) (env : Env) (fp : List Addr) : Good (X.blk s H scope env fp) T := ⟨G.calm, G.units, G.gu, G.nd, G.free, G.gl, G.dct, G.tab⟩
end
section
variable {X : Cx}
theorem bin_ok (o : BO) : OpOk X (binaryOp (boOp o)) fun S => binE S o := by
  cases o
  · exact bin_add
  · exact bin_sub
  · exact bin_mul
  · exact bin_md
  · exact bin_fd
  · exact bin_pw
theorem cmp_ok (hu : X.A.units + 64 < cLine) (o : CO) : OpOk X (compareOp (coOp o)) fun S u w => (cmpE S o u w).map U.bl := by
  cases o
  · exact cmp_lt
  · exact cmp_le
  · exact cmp_gt
  · exact cmp_ge
  · exact cmp_eq hu
  · exact cmp_ne hu
  · exact cmp_in
  · exact cmp_nin
end
/-! ### targets -/
mutual
def gOf (K : PySem.W.Frag) : CT → TG
  | .name i => gName i
  | .tup ts => gTup K (lenTs ts) (gsOf K ts)
def gsOf (K : PySem.W.Frag) : CTs → TGs
  | .nil => gNil
  | .cons t ts => gCons (gOf K t) (gsOf K ts)
def lenTs : CTs → Nat
  | .nil => 0
  | .cons _ ts => lenTs ts + 1
end
theorem locB_ok {N : List Str} {sc : Scope} {i : Nat} {x : Str} (h : locB N sc i x = true) : N[i]? = some x ∧ (sc.names.lookup x = some .local ∨ sc.names.lookup x = some .cell) := by
  unfold locB at h
  rw [Bool.and_eq_true] at h
  refine ⟨of_decide_eq_true h.1, ?_⟩
  have h2 := h.2
  split at h2
  · exact .inl (by assumption)
  · exact .inr (by assumption)
  · cases h2
theorem visB_ok {N : List Str} {sc : Scope} {i : Nat} {x : Str} (h : visB N sc i x = true) : N[i]? = some x ∧ Vis sc x ∧ (x == ("__debug__" : Str)) = false ∧ (x == ("__classdict__" : Str)) = false := by
  unfold visB at h
  simp only [Bool.and_eq_true, Bool.not_eq_true'] at h
  obtain ⟨⟨⟨h1, h2⟩, h3⟩, h4⟩ := h
  refine ⟨of_decide_eq_true h1, ?_, h3, h4⟩
  split at h2
  · exact .inl (by assumption)
  · exact .inr (.inl (by assumption))
  · exact .inr (.inr (by assumption))
  · cases h2
theorem glB_ok {sc : Scope} {x : Str} (h : glB sc x = true) : sc.names.lookup x = some .globalImplicit ∧ (x == ("__debug__" : Str)) = false := by
  unfold glB at h
  simp only [Bool.and_eq_true, Bool.not_eq_true'] at h
  exact ⟨of_decide_eq_true h.1, h.2⟩
theorem asg_cons {N : List Str} {sc : Scope} {t : CT} {e : Expr} {es : List Expr} {env : Env} (h : matchT N sc t e = true) : assignEach (e :: es) env = (false, assign e env) :: assignEach es env := by
  cases t with
  | name i =>
    simp only [matchT] at h
    cases q : asName e with
    | none => rw [q] at h; cases h
    | some x => obtain ⟨pos, rfl⟩ := asName_ok q; rfl
  | tup ts =>
    simp only [matchT] at h
    cases q : asTup e with
    | none => rw [q] at h; cases h
    | some es => obtain ⟨k, pos, rfl⟩ := asTup_ok q; rfl
theorem relabel_kept {s2 : Scope} {env : Env} {x : Str} {k : NameKind} (hk : k ≠ .free) (h : s2.names.lookup x = some k) : (relabel s2 env).names.lookup x = some k := by
  have aux : ∀ l : List (Str × NameKind), l.lookup x = some k → (l.map fun p : Str × NameKind => match p with | (n, k) => if (k == NameKind.free && env.scope.kind == .function && env.kindOf n == some .cell) then (n, NameKind.cell) else (n, k)).lookup x = some k := by
    intro l
    induction l with
    | nil => intro h; cases h
    | cons p l ih =>
      obtain ⟨m, j⟩ := p
      intro h
      rw [List.lookup_cons] at h
      rw [List.map_cons]
      cases q : x == m with
      | true =>
        rw [q] at h
        simp only [Option.some.injEq] at h
        subst h
        have : (j == NameKind.free) = false := by
          cases j <;> first | rfl | exact absurd rfl hk
        simp [this, List.lookup_cons, q]
      | false =>
        rw [q] at h
        have e := ih h
        by_cases c : (j == NameKind.free && env.scope.kind == .function && env.kindOf m == some .cell) = true
        · simp only [c, if_true]
          rw [List.lookup_cons, q]; exact e
        · simp only [c]
          rw [List.lookup_cons]
          simp only [Bool.false_eq_true, if_false, q]
          exact e
  exact aux s2.names h
section
variable {X : Cx}
mutual
theorem pg_ok {sc : Scope} (hc : X.calm = true) (hN : X.N.Nodup) (hf : ∀ x, Loc sc x → Loc X.env.scope x ∧ (X.fn x = true ∨ X.env.scope.names.lookup x = some .local)) : ∀ (t : CT) {e : Expr}, matchT X.N sc t e = true → PG X e (gOf X.K t)
  | .name i, e, h => by
    simp only [matchT] at h
    cases q : asName e with
    | none => rw [q] at h; cases h
    | some x =>
      rw [q] at h
      obtain ⟨pos, rfl⟩ := asName_ok q
      obtain ⟨h1, h2⟩ := locB_ok h
      exact pg_name hN h1 (hf x h2).1 (hf x h2).2
  | .tup ts, e, h => by
    simp only [matchT] at h
    cases q : asTup e with
    | none => rw [q] at h; cases h
    | some es =>
      rw [q] at h
      obtain ⟨k, pos, rfl⟩ := asTup_ok q
      obtain ⟨h1, h2, h3⟩ := pgs_ok hc hN hf ts h
      exact pg_tup hc h1 h2 (List.findIdx?_eq_none_iff.mpr fun y hy => h3 y hy)
theorem pgs_ok {sc : Scope} (hc : X.calm = true) (hN : X.N.Nodup) (hf : ∀ x, Loc sc x → Loc X.env.scope x ∧ (X.fn x = true ∨ X.env.scope.names.lookup x = some .local)) : ∀ (ts : CTs) {es : List Expr}, matchTs X.N sc ts es = true → PGs X es (gsOf X.K ts) ∧ (assignEach es X.env).length = lenTs ts ∧ ∀ y, y ∈ assignEach es X.env → y.1 = false
  | .nil, es, h => by
    cases es with
    | nil => exact ⟨pgs_nil, rfl, fun y hy => by cases hy⟩
    | cons e es => simp [matchTs] at h
  | .cons t ts, es, h => by
    cases es with
    | nil => simp [matchTs] at h
    | cons e es =>
      simp only [matchTs, Bool.and_eq_true] at h
      obtain ⟨h1, h2, h3⟩ := pgs_ok hc hN hf ts h.2
      have ea := asg_cons (es := es) (env := X.env) h.1
      refine ⟨pgs_cons (pg_ok hc hN hf t h.1) h1 (by rw [ea]; rfl), by rw [ea, List.length_cons, h2]; rfl, fun y hy => ?_⟩
      rw [ea] at hy
      rcases List.mem_cons.mp hy with hy | hy
      · rw [hy]
      · exact h3 y hy
end
end
section
variable {K : PySem.W.Frag} {mg : Str → Option Value} {Y : List Addr} {μ : Nat → Addr} {n : Nat} {H : Hp}
theorem wipe_at {σ : L2.St} {j : Nat} : ∀ {vs : List Nat}, (wipe σ vs)[j]? = if j ∈ vs then (σ[j]?.map fun _ => none) else σ[j]?
  | [] => by simp [wipe]
  | v :: vs => by
    unfold wipe
    by_cases q : v = j
    · subst q
      rw [if_pos List.mem_cons_self]
      by_cases hv : v < σ.length
      · rw [List.getElem?_set_self (by rw [wipe_length]; exact hv), List.getElem?_eq_getElem hv]; rfl
      · rw [List.getElem?_eq_none (by rw [List.length_set, wipe_length]; omega), List.getElem?_eq_none (by omega)]; rfl
    · rw [List.getElem?_set_ne q, wipe_at]
      by_cases z : j ∈ vs
      · rw [if_pos z, if_pos (List.mem_cons_of_mem _ z)]
      · rw [if_neg z, if_neg (fun w => by rcases List.mem_cons.mp w with w | w; exact q w.symm; exact z w)]
theorem wipe_set {σ : L2.St} {i : Nat} {v : Option V} {vs : List Nat} (h : i ∈ vs) : wipe (σ.set i v) vs = wipe σ vs := by
  apply List.ext_getElem?
  intro j
  rw [wipe_at, wipe_at]
  by_cases z : j ∈ vs
  · rw [if_pos z, if_pos z]
    by_cases q : i = j
    · subst q
      by_cases hv : i < σ.length
      · rw [List.getElem?_set_self hv, List.getElem?_eq_getElem hv]; rfl
      · rw [List.getElem?_eq_none (by rw [List.length_set]; omega), List.getElem?_eq_none (by omega)]
    · rw [List.getElem?_set_ne q]
  · rw [if_neg z, if_neg z, List.getElem?_set_ne (fun q => z (by rw [← q]; exact h))]
theorem wipe_wipe {σ : L2.St} {vs : List Nat} : wipe (wipe σ vs) vs = wipe σ vs := by
  apply List.ext_getElem?
  intro j
  rw [wipe_at]
  by_cases z : j ∈ vs
  · rw [if_pos z, wipe_at, if_pos z]; cases σ[j]? <;> rfl
  · rw [if_neg z]
theorem RE.wipe {ρ : Rho} {σ : L2.St} (e : RE K mg μ n Y H ρ σ) : ∀ vs : List Nat, RE K mg μ n Y H (wipeR ρ vs) (wipe σ vs)
  | [] => e
  | v :: vs => (RE.wipe e vs).wipe1 v
mutual
theorem gOf_ok : ∀ (t : CT) {u : U} {v : V} {ρ ρ' : Rho} {σ : L2.St} {P : L2.St → Hp → Prop}, RU K mg μ n Y H u v → RE K mg μ n Y H ρ σ → asgT t u ρ = some ρ' →
    (∀ σ', RE K mg μ n Y H ρ' σ' → (∀ vs : List Nat, (∀ i, i ∈ slT t → i ∈ vs) → L2.wipe σ' vs = L2.wipe σ vs) → P σ' H) → gOf K t v σ H P
  | .name i, u, v, ρ, ρ', σ, P, r, e, h, k => by
    simp only [asgT, Option.some.injEq] at h
    subst h
    exact k _ (e.set i r) fun vs hv => wipe_set (hv i (by simp [slT]))
  | .tup ts, u, v, ρ, ρ', σ, P, r, e, h, k => by
    cases r with
    | @tup us a vs h1 h2 =>
      simp only [asgT] at h
      obtain ⟨hl, hk⟩ := gsOf_ok ts h2 e h (P := P) (fun σ' e' w => k σ' e' fun vs hv => w vs (by simpa only [slT] using hv))
      exact ⟨a, vs, rfl, h1, by rw [← h2.length]; exact hl, hk⟩
    | _ => simp [asgT] at h
theorem gsOf_ok : ∀ (ts : CTs) {us : List U} {vs : List V} {ρ ρ' : Rho} {σ : L2.St} {P : L2.St → Hp → Prop}, RUs K mg μ n Y H us vs → RE K mg μ n Y H ρ σ → asgTs ts us ρ = some ρ' →
    (∀ σ', RE K mg μ n Y H ρ' σ' → (∀ vs : List Nat, (∀ i, i ∈ slTs ts → i ∈ vs) → L2.wipe σ' vs = L2.wipe σ vs) → P σ' H) → us.length = lenTs ts ∧ gsOf K ts vs σ H P
  | .nil, us, vs, ρ, ρ', σ, P, r, e, h, k => by
    cases r with
    | nil =>
      simp only [asgTs, Option.some.injEq] at h
      subst h
      exact ⟨rfl, rfl, k σ e fun _ _ => rfl⟩
    | cons _ _ => simp [asgTs] at h
  | .cons t ts, us, vs, ρ, ρ', σ, P, r, e, h, k => by
    cases r with
    | nil => simp [asgTs] at h
    | @cons u v us vs r1 r2 =>
      simp only [asgTs, Option.bind_eq_some_iff] at h
      obtain ⟨ρ1, h1, h2⟩ := h
      have hlen : us.length = lenTs ts := by
        have aux : ∀ (ts : CTs) (us : List U) (ρ ρ' : Rho), asgTs ts us ρ = some ρ' → us.length = lenTs ts := by
          intro ts
          induction ts using CTs.rec (motive_1 := fun _ => True) with
          | name _ => trivial
          | tup _ _ => trivial
          | nil => intro us ρ ρ' h; cases us with
            | nil => rfl
            | cons _ _ => simp [asgTs] at h
          | cons t ts _ ih => intro us ρ ρ' h; cases us with
            | nil => simp [asgTs] at h
            | cons u us =>
              simp only [asgTs, Option.bind_eq_some_iff] at h
              obtain ⟨_, _, h⟩ := h
              simp [lenTs, ih us _ _ h]
        exact aux ts us ρ1 ρ' h2
      refine ⟨by simp [lenTs, hlen], v, vs, rfl, gOf_ok t r1 e h1 fun σ1 e1 w1 => ?_⟩
      exact (gsOf_ok ts r2 e1 h2 fun σ' e' w' => k σ' e' fun vs hv => by
        rw [w' vs fun i hi => hv i (by simp only [slTs, List.mem_append]; exact .inr hi), w1 vs fun i hi => hv i (by simp only [slTs, List.mem_append]; exact .inl hi)]).2
end
end
end Z

set_option Elab.async false
set_option linter.all false
set_option maxRecDepth 100000
set_option maxHeartbeats 1600000
/-! Z8: what is walked. -/
namespace Z
open PySem PySem.Spec PyProof.Rows L2 RZ
section
variable {K : PySem.W.Frag} {mg : Str → Option Value} {Y : List Addr} {μ μ' μ1 : Nat → Addr} {n n' n1 : Nat} {H H' H1 : Hp} {S S1 S' : Sto} {α β : Type} {W : WX} {σ : L2.St}
inductive SrcR (K : PySem.W.Frag) (mg : Str → Option Value) (μ : Nat → Addr) (n : Nat) (Y : List Addr) (H : Hp) : Src → It → Prop
  | lst {u : U} {a : Addr} : RU K mg μ n Y H u (.ref a) → tupOf u = none → SrcR K mg μ n Y H (.seq u) (Itl K a)
  | tup {us : List U} {a : Addr} : RU K mg μ n Y H (.tup us) (.ref a) → SrcR K mg μ n Y H (.seq (.tup us)) (Itt K a)
  | rng {lo : Int} {m : Nat} : SrcR K mg μ n Y H (.rng lo m) (Itr lo m)
  | enum {u : U} {a : Addr} : RU K mg μ n Y H u (.ref a) → tupOf u = none → SrcR K mg μ n Y H (.enum u) (Ite K a)
  | zipL {u w : U} {a b : Addr} : RU K mg μ n Y H u (.ref a) → tupOf u = none → RU K mg μ n Y H w (.ref b) → tupOf w = none → SrcR K mg μ n Y H (.zip false u w) (Itz K a b)
  | zipT {us ws : List U} {a b : Addr} : RU K mg μ n Y H (.tup us) (.ref a) → RU K mg μ n Y H (.tup ws) (.ref b) → SrcR K mg μ n Y H (.zip false (.tup us) (.tup ws)) (ItzT K a b)
  | enumT {us : List U} {a : Addr} : RU K mg μ n Y H (.tup us) (.ref a) → SrcR K mg μ n Y H (.enum (.tup us)) (ZS.IteT K a)
  | zipS {us ws : List U} {a b : Addr} : RU K mg μ n Y H (.tup us) (.ref a) → RU K mg μ n Y H (.tup ws) (.ref b) → SrcR K mg μ n Y H (.zip true (.tup us) (.tup ws)) (ZS.ItzS K a b)
theorem SrcR.mono {src : Src} {J : It} (g : Gr μ n H μ' n' H') (h : SrcR K mg μ n Y H src J) : SrcR K mg μ' n' Y H' src J := by
  cases h with
  | lst a b => exact .lst (a.mono g) b
  | tup a => exact .tup (a.mono g)
  | rng => exact .rng
  | enum a b => exact .enum (a.mono g) b
  | zipL a b c d => exact .zipL (a.mono g) b (c.mono g) d
  | zipT a b => exact .zipT (a.mono g) (b.mono g)
  | enumT a => exact .enumT (a.mono g)
  | zipS a b => exact .zipS (a.mono g) (b.mono g)
theorem SrcR.addY {src : Src} {J : It} {D : Addr} (hD : H D = none) (h : SrcR K mg μ n Y H src J) : SrcR K mg μ n (D :: Y) H src J := by
  cases h with
  | lst a b => exact .lst (a.addY hD) b
  | tup a => exact .tup (a.addY hD)
  | rng => exact .rng
  | enum a b => exact .enum (a.addY hD) b
  | zipL a b c d => exact .zipL (a.addY hD) b (c.addY hD) d
  | zipT a b => exact .zipT (a.addY hD) (b.addY hD)
  | enumT a => exact .enumT (a.addY hD)
  | zipS a b => exact .zipS (a.addY hD) (b.addY hD)
theorem seqOf_lst {u : U} (h : tupOf u = none) : seqOf S u = lstOf S u := by cases u <;> first | rfl | cases h
/-- a turn of a walk -/
theorem SrcR.use {src : Src} {J : It} (r : RS K mg μ S Y H) (h : SrcR K mg μ S.length Y H src J) (i : Nat) : (src.at_ S i = some none → J.stop i H) ∧ ∀ u, src.at_ S i = some (some u) → J.go i H ∧ ∀ x H3, J.yld i H x H3 →
    Gr μ S.length H μ S.length H3 ∧ RS K mg μ S Y H3 ∧ RU K mg μ S.length Y H3 u x := by
  cases h with
  | @lst u a h1 h2 =>
    simp only [Src.at_, seqOf_lst h2]
    cases q : lstOf S u with
    | none => exact ⟨fun e => (by cases e), fun w e => (by cases e)⟩
    | some us =>
      obtain ⟨a', vs, e1, e2, e3⟩ := lstOf_sq r h1 q
      cases e1
      refine ⟨fun e => ⟨vs, e2, ?_⟩, fun w e => ?_⟩
      · rw [← e3.length]
        exact List.getElem?_eq_none_iff.mp (Option.some.inj e)
      · obtain ⟨x, hx, rx⟩ := e3.get (Option.some.inj e)
        refine ⟨⟨vs, x, e2, hx⟩, fun y H3 hy => ?_⟩
        obtain ⟨rfl, hy⟩ := hy
        have := hy vs e2
        rw [hx] at this
        cases this
        exact ⟨Gr.refl, r, rx⟩
  | @tup us a h1 =>
    obtain ⟨a', vs, e1, e2, e3⟩ := tup_sq h1
    cases e1
    simp only [Src.at_, seqOf, Option.map_some, Option.some.injEq]
    refine ⟨fun e => ⟨vs, e2, ?_⟩, fun w e => ?_⟩
    · rw [← e3.length]; exact List.getElem?_eq_none_iff.mp e
    · obtain ⟨x, hx, rx⟩ := e3.get e
      refine ⟨⟨vs, x, e2, hx⟩, fun y H3 hy => ?_⟩
      obtain ⟨rfl, hy⟩ := hy
      have := hy vs e2
      rw [hx] at this
      cases this
      exact ⟨Gr.refl, r, rx⟩
  | @rng lo m =>
    simp only [Src.at_, Option.some.injEq]
    refine ⟨fun e => ?_, fun w e => ?_⟩
    · by_cases q : i < m
      · rw [if_pos q] at e; cases e
      · exact Nat.le_of_not_lt q
    · by_cases q : i < m
      · rw [if_pos q] at e
        cases e
        refine ⟨q, fun y H3 hy => ?_⟩
        obtain ⟨rfl, rfl⟩ := hy
        exact ⟨Gr.refl, r, .int _⟩
      · rw [if_neg q] at e; cases e
  | @enum u a h1 h2 =>
    simp only [Src.at_, seqOf_lst h2]
    cases q : lstOf S u with
    | none => exact ⟨fun e => (by cases e), fun w e => (by cases e)⟩
    | some us =>
      obtain ⟨a', vs, e1, e2, e3⟩ := lstOf_sq r h1 q
      cases e1
      by_cases hz : us.length < i
      · simp only [if_pos hz]
        exact ⟨fun e => (by cases e), fun w e => (by cases e)⟩
      simp only [if_neg hz, Option.some.injEq]
      refine ⟨fun e => ⟨vs, e2, ?_⟩, fun w e => ?_⟩
      · rw [← e3.length]
        rw [Option.map_eq_none_iff] at e
        exact List.getElem?_eq_none_iff.mp e
      · rw [Option.map_eq_some_iff] at e
        obtain ⟨z, e, rfl⟩ := e
        obtain ⟨x, hx, rx⟩ := e3.get e
        refine ⟨⟨vs, x, e2, hx⟩, fun y H3 hy => ?_⟩
        obtain ⟨T, x', rfl, hT, rfl, hy⟩ := hy
        have := hy vs e2
        rw [hx] at this
        cases this
        exact ⟨Gr.fresh r hT, r.fresh hT, RU.newTup r hT (.cons (.int _) (.cons rx .nil))⟩
  | @zipL u w a b h1 h2 h3 h4 =>
    simp only [Src.at_, seqOf_lst h2, seqOf_lst h4]
    cases q : lstOf S u with
    | none => exact ⟨fun e => (by cases e), fun w e => (by cases e)⟩
    | some us =>
      cases q2 : lstOf S w with
      | none => exact ⟨fun e => (by cases e), fun w e => (by cases e)⟩
      | some ws =>
        obtain ⟨a', vs, e1, e2, e3⟩ := lstOf_sq r h1 q
        obtain ⟨b', vs2, f1, f2, f3⟩ := lstOf_sq r h3 q2
        cases e1
        cases f1
        cases z1 : us[i]? with
        | none =>
          have hz : vs.length ≤ i := by rw [← e3.length]; exact List.getElem?_eq_none_iff.mp z1
          cases z2 : ws[i]? <;> exact ⟨fun e => ⟨vs, vs2, e2, f2, .inl hz⟩, fun w e => by simp [z1, z2] at e⟩
        | some z =>
          cases z2 : ws[i]? with
          | none =>
            have hz : vs2.length ≤ i := by rw [← f3.length]; exact List.getElem?_eq_none_iff.mp z2
            exact ⟨fun e => ⟨vs, vs2, e2, f2, .inr hz⟩, fun w e => by simp [z1, z2] at e⟩
          | some z' =>
            refine ⟨fun e => (by simp [z1, z2] at e), fun w e => ?_⟩
            simp only [z1, z2, Option.some.injEq] at e
            subst e
            obtain ⟨x, hx, rx⟩ := e3.get z1
            obtain ⟨y, hy, ry⟩ := f3.get z2
            refine ⟨⟨vs, vs2, x, y, e2, f2, hx, hy⟩, fun v H3 hv => ?_⟩
            obtain ⟨T, x', y', rfl, hT, rfl, k1, k2⟩ := hv
            have := k1 vs e2
            rw [hx] at this
            cases this
            have := k2 vs2 f2
            rw [hy] at this
            cases this
            exact ⟨Gr.fresh r hT, r.fresh hT, RU.newTup r hT (.cons rx (.cons ry .nil))⟩
  | @zipT us ws a b h1 h2 =>
    obtain ⟨a', vs, e1, e2, e3⟩ := tup_sq h1
    obtain ⟨b', vs2, f1, f2, f3⟩ := tup_sq h2
    cases e1
    cases f1
    simp only [Src.at_, seqOf]
    cases z1 : us[i]? with
    | none =>
      have hz : vs.length ≤ i := by rw [← e3.length]; exact List.getElem?_eq_none_iff.mp z1
      cases z2 : ws[i]? <;> exact ⟨fun e => ⟨vs, vs2, e2, f2, .inl hz⟩, fun w e => by simp [z1, z2] at e⟩
    | some z =>
      cases z2 : ws[i]? with
      | none =>
        have hz : vs2.length ≤ i := by rw [← f3.length]; exact List.getElem?_eq_none_iff.mp z2
        exact ⟨fun e => ⟨vs, vs2, e2, f2, .inr hz⟩, fun w e => by simp [z1, z2] at e⟩
      | some z' =>
        refine ⟨fun e => (by simp [z1, z2] at e), fun w e => ?_⟩
        simp only [z1, z2, Option.some.injEq] at e
        subst e
        obtain ⟨x, hx, rx⟩ := e3.get z1
        obtain ⟨y, hy, ry⟩ := f3.get z2
        refine ⟨⟨vs, vs2, x, y, e2, f2, hx, hy⟩, fun v H3 hv => ?_⟩
        obtain ⟨T, x', y', rfl, hT, rfl, k1, k2⟩ := hv
        have := k1 vs e2
        rw [hx] at this
        cases this
        have := k2 vs2 f2
        rw [hy] at this
        cases this
        exact ⟨Gr.fresh r hT, r.fresh hT, RU.newTup r hT (.cons rx (.cons ry .nil))⟩
  | @enumT us a h1 =>
    obtain ⟨a', vs, e1, e2, e3⟩ := tup_sq h1
    cases e1
    simp only [Src.at_, seqOf]
    by_cases hz : us.length < i
    · simp only [if_pos hz]
      exact ⟨fun e => (by cases e), fun w e => (by cases e)⟩
    simp only [if_neg hz, Option.some.injEq]
    refine ⟨fun e => ⟨vs, e2, ?_⟩, fun w e => ?_⟩
    · rw [Option.map_eq_none_iff] at e
      have := List.getElem?_eq_none_iff.mp e
      rw [← e3.length]
      omega
    · rw [Option.map_eq_some_iff] at e
      obtain ⟨z, e, rfl⟩ := e
      obtain ⟨x, hx, rx⟩ := e3.get e
      refine ⟨⟨vs, x, e2, hx⟩, fun y H3 hy => ?_⟩
      obtain ⟨T, x', rfl, hT, rfl, hy⟩ := hy
      have := hy vs e2
      rw [hx] at this
      cases this
      exact ⟨Gr.fresh r hT, r.fresh hT, RU.newTup r hT (.cons (.int _) (.cons rx .nil))⟩
  | @zipS us ws a b h1 h2 =>
    obtain ⟨a', vs, e1, e2, e3⟩ := tup_sq h1
    obtain ⟨b', vs2, f1, f2, f3⟩ := tup_sq h2
    cases e1
    cases f1
    simp only [Src.at_, seqOf]
    cases z1 : us[i]? with
    | none =>
      have hz : vs.length ≤ i := by rw [← e3.length]; exact List.getElem?_eq_none_iff.mp z1
      cases z2 : ws[i]? with
      | none =>
        have hz2 : vs2.length ≤ i := by rw [← f3.length]; exact List.getElem?_eq_none_iff.mp z2
        exact ⟨fun e => ⟨vs, vs2, e2, f2, hz, hz2⟩, fun w e => by simp at e⟩
      | some _ => exact ⟨fun e => by simp at e, fun w e => by simp at e⟩
    | some z =>
      cases z2 : ws[i]? with
      | none => exact ⟨fun e => by simp at e, fun w e => by simp at e⟩
      | some z' =>
        refine ⟨fun e => (by simp [z1, z2] at e), fun w e => ?_⟩
        simp only [z1, z2, Option.some.injEq] at e
        subst e
        obtain ⟨x, hx, rx⟩ := e3.get z1
        obtain ⟨y, hy, ry⟩ := f3.get z2
        refine ⟨⟨vs, vs2, x, y, e2, f2, hx, hy⟩, fun v H3 hv => ?_⟩
        obtain ⟨T, x', y', rfl, hT, rfl, k1, k2⟩ := hv
        have := k1 vs e2
        rw [hx] at this
        cases this
        have := k2 vs2 f2
        rw [hy] at this
        cases this
        exact ⟨Gr.fresh r hT, r.fresh hT, RU.newTup r hT (.cons rx (.cons ry .nil))⟩
/-- the reading of what is walked -/
def tI (K : PySem.W.Frag) (mg : Str → Option Value) (W : WX) (f : Rho → Sto → Res Src) : TI := fun σ H R => ∃ μ ρ S Y, RS K mg μ S Y H ∧ RE K mg μ S.length Y H ρ σ ∧ Fin K mg W σ μ S Y H (f ρ S) fun src S' μ' H' => ∀ J, SrcR K mg μ' S'.length Y H' src J → R J H'
end
end Z

set_option Elab.async false
set_option linter.all false
set_option maxRecDepth 100000
set_option maxHeartbeats 3200000
/-! Z9: what the short form comes to is what the text does. -/
namespace Z
open PySem PySem.Spec PyProof.Rows L2 RZ
section
variable {K : PySem.W.Frag} {mg : Str → Option Value} {Y : List Addr} {μ μ' μ1 : Nat → Addr} {n n' n1 : Nat} {H H' H1 : Hp} {S S1 S' : Sto} {α β : Type} {W : WX} {σ : L2.St}
theorem RU.isN {u : U} {v : V} (h : RU K mg μ n Y H u v) : u.isNon = decide (v = .non) := by
  cases h <;> first | rfl | (symm; exact decide_eq_false (by simp))
/-- a step that stays -/
theorem SlR.imp {X : Cx} {r r' : V → Option Int → Option Int → Hp → VK → Prop} (h : SlR X r) (k : ∀ x lo hi H Q, r' x lo hi H Q → r x lo hi H Q) : SlR X r' :=
  fun pins s σ H x v vl vu lo hi sl Q I rx hs pl pu q => h pins s σ H x v vl vu lo hi sl Q I rx hs pl pu (k _ _ _ _ _ q)
def tO (K : PySem.W.Frag) (mg : Str → Option Value) (W : WX) (f : Rho → Sto → Res (Option Int)) : TO := fun σ H Q => ∃ μ ρ S Y, RS K mg μ S Y H ∧ RE K mg μ S.length Y H ρ σ ∧ Fin K mg W σ μ S Y H (f ρ S) fun o S' μ' H' => Q o H'
theorem tO_of {f : Rho → Sto → Res (Option Int)} {k : Option Int → Sto → Res β} {ρ : Rho} {P : β → Sto → (Nat → Addr) → Hp → Prop} {Q : Option Int → Hp → Prop} (r : RS K mg μ S Y H) (e : RE K mg μ S.length Y H ρ σ) (x : Fin K mg W σ μ S Y H ((f ρ S).bind k) P)
    (h : ∀ o S1 μ1 H1, RS K mg μ1 S1 Y H1 → RE K mg μ1 S1.length Y H1 ρ σ → Gr μ S.length H μ1 S1.length H1 → Fin K mg W σ μ1 S1 Y H1 (k o S1) P → Q o H1) : tO K mg W f σ H Q :=
  ⟨μ, ρ, S, Y, r, e, (Fin.bind x).imp fun u S1 μ1 H1 g r1 y => h u S1 μ1 H1 r1 (e.mono g) g y⟩
theorem BT.inB (t : BT) : (Str.ofString t.nm) ∈ bnames ∧ (Str.ofString t.nm ≠ ("__name__" : Str)) ∧ ((Str.ofString t.nm == ("__debug__" : Str)) = false) ∧ bootBuiltins (Str.ofString t.nm) = some (.type t.nm) := by
  cases t <;> exact ⟨by decide +kernel, by decide +kernel, by decide +kernel, by decide +kernel⟩
theorem BF.inB (f : BF) : f.nm ∈ bnames ∧ (f.nm ≠ ("__name__" : Str)) ∧ ((f.nm == ("__debug__" : Str)) = false) := by
  cases f <;> exact ⟨by decide +kernel, by decide +kernel, by decide +kernel⟩
end
theorem all2 {es : List Expr} {e : Expr} (h : (e :: es).all notStar = true) : notStar e = true ∧ es.all notStar = true := by
  rw [List.all_cons, Bool.and_eq_true] at h; exact h
theorem soundP {X : Cx} {W : WX} {e : Expr} {f : Rho → Sto → Res U} (h : PE X e (tE X.K X.mg W f)) (ho : plainTB e = true) : PT X e (tT X.K X.mg W f) :=
  PT.imp (pt_plain ho h) fun σ H Q ⟨μ, ρ, S, Y, r, re, x⟩ => ⟨μ, ρ, S, Y, r, re, x.imp fun u S1 μ1 H1 g1 r1 z v ru => by
    obtain ⟨b, rfl, q⟩ := z
    cases ru
    exact ⟨b, rfl, q⟩⟩
/-- a comprehension's parts, and what its reading asks -/
theorem lcOk {T : Th} {X : Cx} (G : Good X T) {W : WX} (tk : Takes X W) {tg : CT} {it : CI} {cnd : CEs} {elt : CE} {own : List (Str × Nat)} {x tg' it' : Expr} {ifs : List Expr} {s2 : Scope}
    (hb : blkC X.N X.env.scope s2 own = true) (hsl : ((slT tg).all fun i => decide (i ∈ own.map (·.2))) = true) (ht : matchT X.N s2 tg tg' = true) (hset : notSet it' = true) (hl : ifs.length ≤ 1)
    (hpi : PI X tg' it' (tI X.K X.mg W (evI T it)))
    (hpe : ∀ (s : Shared) (H : Hp) (C : Addr) (cl : List (Str × Addr)) (fp : List Addr), PE (X.blk s H s2 (compEnvC s2 cl C X.env) fp) x (tE X.K X.mg (fun _ _ _ _ => False) (ev T elt)))
    (hpt : ∀ (c : CE) (cs : CEs) (e1 : Expr), cnd = .cons c cs → ifs = [e1] → ∀ (s : Shared) (H : Hp) (C : Addr) (cl : List (Str × Addr)) (fp : List Addr), PT (X.blk s H s2 (compEnvC s2 cl C X.env) fp) e1 (tT X.K X.mg (fun _ _ _ _ => False) (ev T c)))
    (hnil : cnd = .nil → ifs = []) (hcons : ∀ c cs, cnd = .cons c cs → ifs = [] → False) :
    ∃ (wi : TI) (g : TG) (tt : TT) (te : TE), PI X tg' it' wi ∧ BlkOk X.N X.env.scope s2 own ∧ (∀ (s : Shared) (H : Hp) (C : Addr) (cl : List (Str × Addr)) (fp : List Addr), PG (X.blk s H s2 (compEnvC s2 cl C X.env) fp) tg' g) ∧
      (∀ (s : Shared) (H : Hp) (C : Addr) (cl : List (Str × Addr)) (fp : List Addr), PTs (X.blk s H s2 (compEnvC s2 cl C X.env) fp) ifs tt) ∧ (∀ (s : Shared) (H : Hp) (C : Addr) (cl : List (Str × Addr)) (fp : List Addr), PE (X.blk s H s2 (compEnvC s2 cl C X.env) fp) x te) ∧
      (∀ z, foldedSetIterable it' X.env z = pure z) ∧ ∀ σ H Q, tN X.K X.mg W (evN T (.lc tg it cnd elt own)) σ H Q → tLc wi g tt te (own.map (·.2)) σ H Q := by
  have hfn : ∀ (s : Shared) (H : Hp) (C : Addr) (cl : List (Str × Addr)) (fp : List Addr) (y : Str), Loc s2 y → Loc (X.blk s H s2 (compEnvC s2 cl C X.env) fp).env.scope y ∧ ((X.blk s H s2 (compEnvC s2 cl C X.env) fp).fn y = true ∨ (X.blk s H s2 (compEnvC s2 cl C X.env) fp).env.scope.names.lookup y = some .local) := by
    intro s H C cl fp y hy
    rcases hy with hy | hy
    · have := relabel_kept (env := X.env) (by simp) hy
      exact ⟨.inl this, .inr this⟩
    · have := relabel_kept (env := X.env) (by simp) hy
      refine ⟨.inr this, .inl ?_⟩
      show (s2.names.lookup y == some .cell) = true
      rw [hy]; rfl
  have hpg : ∀ (s : Shared) (H : Hp) (C : Addr) (cl : List (Str × Addr)) (fp : List Addr), PG (X.blk s H s2 (compEnvC s2 cl C X.env) fp) tg' (gOf X.K tg) := fun s H C cl fp => pg_ok (X := X.blk s H s2 (compEnvC s2 cl C X.env) fp) G.calm G.nd (hfn s H C cl fp) tg ht
  have hsi : ∀ z, foldedSetIterable it' X.env z = pure z := by
    intro z
    cases it' <;> first | rfl | cases hset
  have hsl' : ∀ i, i ∈ slT tg → i ∈ own.map (·.2) := fun i hi => by
    have := List.all_eq_true.mp hsl i hi
    exact of_decide_eq_true this
  -- the turns, whatever the tests are
  have key : ∀ (tt : TT) (st : U → Sto → Res (Option U)) (σ : L2.St) (H : Hp) (Q : VK) (μ : Nat → Addr) (ρ : Rho) (S : Sto) (Y : List Addr), RS X.K X.mg μ S Y H → RE X.K X.mg μ S.length Y H ρ σ →
      FinN X.K X.mg W σ μ S Y H ((evI T it ρ S).bind fun src S1 => lcGo src st (src.len S1) 0 [] S1) Q →
      (∀ (u : U) (S2 : Sto) (o : Option U) (S3 : Sto) (D : Addr) (σ2 : L2.St) (ρ' : Rho) (μ2 : Nat → Addr) (H2 : Hp) (P : Option V → Hp → Prop), st u S2 = .ok o S3 → asgT tg u (wipeR ρ (own.map (·.2))) = some ρ' → RS X.K X.mg μ2 S2 (D :: Y) H2 → RE X.K X.mg μ2 S2.length (D :: Y) H2 ρ' σ2 →
        (∀ μ3 H3 ov, Gr μ2 S2.length H2 μ3 S3.length H3 → RS X.K X.mg μ3 S3 (D :: Y) H3 → (match o with | some w => ∃ v, ov = some v ∧ RU X.K X.mg μ3 S3.length (D :: Y) H3 w v | none => ov = none) → P ov H3) →
        tt σ2 H2 fun b H3 => if b = true then tE X.K X.mg (fun _ _ _ _ => False) (ev T elt) σ2 H3 fun y H4 => P (some y) H4 else P none H3) →
      (∀ u S2 o S3, st u S2 = .ok o S3 → ∃ ρ', asgT tg u (wipeR ρ (own.map (·.2))) = some ρ') →
      tLc (tI X.K X.mg W (evI T it)) (gOf X.K tg) tt (tE X.K X.mg (fun _ _ _ _ => False) (ev T elt)) (own.map (·.2)) σ H Q := by
    intro tt st σ H Q μ ρ S Y r re f htt hst
    refine ⟨μ, ρ, S, Y, r, re, (f.bind Gr.refl).imp fun src S1 μ1 H1 g1 r1 f1 J hJ D hD => ?_⟩
    have hD0 : H D = none := Gr.none_of r1 g1 hD
    refine ⟨fun i m H' => ∃ μ2 S2 acc accV nl, Gr μ1 S1.length H1 μ2 S2.length H' ∧ RS X.K X.mg μ2 S2 (D :: Y) H' ∧ H' D = some (.lst accV) ∧ RUs X.K X.mg μ2 S2.length (D :: Y) H' acc accV ∧ m = nl ∧
      FinN X.K X.mg W σ μ S Y H (lcGo src st nl i acc S2) Q, ⟨src.len S1, μ1, S1, [], [], src.len S1, Gr.fresh r1 hD, r1.resv hD, upd_same, .nil, rfl, f1⟩, ?_⟩
    rintro i m H' ⟨μ2, S2, acc, accV, nl, g2, r2, hl2, ra, rfl, f2⟩
    have hJ2 : SrcR X.K X.mg μ2 S2.length (D :: Y) H' src J := (hJ.addY hD).mono g2
    obtain ⟨ustop, ugo⟩ := hJ2.use r2 i
    have f2' := f2
    unfold lcGo at f2'
    cases z : src.at_ S2 i with
    | none => rw [z] at f2'; exact f2'.elim
    | some o =>
      cases o with
      | none =>
        rw [z] at f2'
        exact .inl ⟨ustop z, f2' μ2 H' D accV (g1.trans g2 r2.inj) hD0 hl2 r2 ra⟩
      | some u =>
        rw [z] at f2'
        cases m with
        | zero => exact f2'.elim
        | succ m =>
          right
          obtain ⟨hgo, hy⟩ := ugo u z
          refine ⟨hgo, ?_⟩
          simp only at f2'
          cases zs : st u S2 with
          | ex _ _ => rw [zs] at f2'; exact f2'.elim
          | no => rw [zs] at f2'; exact f2'.elim
          | ok o S3 =>
            rw [zs] at f2'
            refine ⟨fun H3 => ∃ μ3 acc' accV', Gr μ1 S1.length H1 μ3 S3.length H3 ∧ RS X.K X.mg μ3 S3 (D :: Y) H3 ∧ H3 D = some (.lst accV') ∧ RUs X.K X.mg μ3 S3.length (D :: Y) H3 acc' accV' ∧
              FinN X.K X.mg W σ μ S Y H (lcGo src st m (i + 1) acc' S3) Q, fun H3 ⟨μ3, acc', accV', k1, k2, k3, k4, k5⟩ => ⟨m, Nat.lt_succ_self _, μ3, S3, acc', accV', m, k1, k2, k3, k4, rfl, k5⟩, ?_⟩
            intro y H3 hyld
            obtain ⟨g3, r3, ry⟩ := hy y H3 hyld
            obtain ⟨ρ', hρ⟩ := hst u S2 o S3 zs
            have reW : RE X.K X.mg μ2 S2.length (D :: Y) H3 (wipeR ρ (own.map (·.2))) (wipe σ (own.map (·.2))) := ((((re.mono g1).addY hD).mono g2).mono g3).wipe _
            refine gOf_ok tg ry reW hρ fun σ2 re2 hw => ⟨by rw [hw _ hsl', wipe_wipe], ?_⟩
            have hl3 : H3 D = some (.lst accV) := g3.all D _ (r2.res D List.mem_cons_self).2 hl2
            refine (htt u S2 o S3 D σ2 ρ' μ2 H3 (fun ov H4 => match ov with
              | some y => ∃ acc, H4 D = some (.lst acc) ∧ acc.length < sizeLine ∧ ∃ μ3 acc' accV', Gr μ1 S1.length H1 μ3 S3.length (upd H4 D (.lst (acc ++ [y]))) ∧ RS X.K X.mg μ3 S3 (D :: Y) (upd H4 D (.lst (acc ++ [y]))) ∧ (upd H4 D (.lst (acc ++ [y]))) D = some (.lst accV') ∧ RUs X.K X.mg μ3 S3.length (D :: Y) (upd H4 D (.lst (acc ++ [y]))) acc' accV' ∧ FinN X.K X.mg W σ μ S Y H (lcGo src st m (i + 1) acc' S3) Q
              | none => ∃ μ3 acc' accV', Gr μ1 S1.length H1 μ3 S3.length H4 ∧ RS X.K X.mg μ3 S3 (D :: Y) H4 ∧ H4 D = some (.lst accV') ∧ RUs X.K X.mg μ3 S3.length (D :: Y) H4 acc' accV' ∧ FinN X.K X.mg W σ μ S Y H (lcGo src st m (i + 1) acc' S3) Q) zs hρ r3 re2 fun μ3 H4 ov g4 r4 hov => ?_)
            have hl4 : H4 D = some (.lst accV) := g4.all D _ (r3.res D List.mem_cons_self).2 hl3
            have gg : Gr μ1 S1.length H1 μ3 S3.length H4 := (g2.trans g3 r3.inj).trans g4 r4.inj
            have ra4 : RUs X.K X.mg μ3 S3.length (D :: Y) H4 acc accV := (ra.mono g3).mono g4
            cases o with
            | none =>
              subst hov
              exact ⟨μ3, acc, accV, gg, r4, hl4, ra4, f2'⟩
            | some w =>
              obtain ⟨v, rfl, rv⟩ := hov
              simp only at f2'
              by_cases hz : acc.length < sizeLine
              · rw [if_pos hz] at f2'
                refine ⟨accV, hl4, by rw [← ra4.length]; exact hz, μ3, acc ++ [w], accV ++ [v], gg.upd_new hD, r4.reput List.mem_cons_self hl4, upd_same, RUs.reput List.mem_cons_self hl4 (ra4.append (.cons rv .nil)), f2'⟩
              · rw [if_neg hz] at f2'; exact f2'.elim
  cases cnd with
  | nil =>
    have := hnil rfl
    subst this
    refine ⟨_, _, tYes, _, hpi, blkOk_by hb, hpg, fun _ _ _ _ _ => pts_nil, hpe, hsi, fun σ H Q ⟨μ, ρ, S, Y, r, re, f⟩ => ?_⟩
    simp only [evN] at f
    refine key tYes _ σ H Q μ ρ S Y r re f (fun u S2 o S3 D σ2 ρ' μ2 H2 P hs ha r2 re2 hP => ?_) (fun u S2 o S3 hs => ?_)
    · simp only [ha] at hs
      show if true = true then tE X.K X.mg (fun _ _ _ _ => False) (ev T elt) σ2 H2 (fun y H4 => P (some y) H4) else P none H2
      refine iteT ⟨μ2, ρ', S2, D :: Y, r2, re2, ?_⟩
      cases z : ev T elt ρ' S2 with
      | ok w S4 =>
        rw [z] at hs
        cases hs
        exact fun μ3 H3 g3 r3 v rv => hP μ3 H3 (some v) g3 r3 ⟨v, rfl, rv⟩
      | ex _ _ => rw [z] at hs; cases hs
      | no => rw [z] at hs; cases hs
    · cases z : asgT tg u (wipeR ρ (own.map (·.2))) with
      | none => simp only [z] at hs; cases hs
      | some ρ' => exact ⟨ρ', rfl⟩
  | cons c cs =>
    rcases ifs with _ | ⟨e1, _ | ⟨e2, ifs⟩⟩
    · exact (hcons c cs rfl rfl).elim
    · have hpt := hpt c cs e1 rfl rfl
      refine ⟨_, _, _, _, hpi, blkOk_by hb, hpg, fun s H C cl fp => pts_one (hpt s H C cl fp), hpe, hsi, fun σ H Q ⟨μ, ρ, S, Y, r, re, f⟩ => ?_⟩
      simp only [evN] at f
      refine key _ _ σ H Q μ ρ S Y r re f (fun u S2 o S3 D σ2 ρ' μ2 H2 P hs ha r2 re2 hP => ?_) (fun u S2 o S3 hs => ?_)
      · simp only [ha] at hs
        refine ⟨μ2, ρ', S2, D :: Y, r2, re2, ?_⟩
        cases z : ev T c ρ' S2 with
        | ex _ _ => rw [z] at hs; cases hs
        | no => rw [z] at hs; cases hs
        | ok b S4 =>
          rw [z] at hs
          intro μ4 H4 g4 r4
          cases b with
          | bl b0 =>
            refine ⟨b0, rfl, ?_⟩
            cases b0 with
            | false =>
              simp only [Res.bind] at hs
              cases hs
              exact iteF (hP μ4 H4 none g4 r4 rfl)
            | true =>
              simp only [Res.bind] at hs
              refine iteT ⟨μ4, ρ', S4, D :: Y, r4, re2.mono g4, ?_⟩
              cases z2 : ev T elt ρ' S4 with
              | ok w S5 =>
                rw [z2] at hs
                cases hs
                exact fun μ3 H3 g3 r3 v rv => hP μ3 H3 (some v) (g4.trans g3 r3.inj) r3 ⟨v, rfl, rv⟩
              | ex _ _ => rw [z2] at hs; cases hs
              | no => rw [z2] at hs; cases hs
          | _ => simp only [Res.bind] at hs; cases hs
      · cases z : asgT tg u (wipeR ρ (own.map (·.2))) with
        | none => simp only [z] at hs; cases hs
        | some ρ' => exact ⟨ρ', rfl⟩
    · simp at hl

theorem PE.or {X : Cx} {e : Expr} {t t' : TE} (h : PE X e t) (h' : PE X e t') : PE X e (fun σ H Q => t σ H Q ∨ t' σ H Q) := ⟨fun pins s σ H Q I q => q.elim (h.run pins s σ H Q I) (h'.run pins s σ H Q I)⟩
theorem PT.false {X : Cx} {e : Expr} {t : TT} (k : ∀ σ H Q, ¬ t σ H Q) : PT X e t := ⟨fun _ _ σ H Q _ q => (k σ H Q q).elim⟩
theorem din_ok {X : Cx} {a : Addr} {es : Array DictEntry} {n : Nat} (D : KDict X.K X.w a es n) (no : Bool) : ∃ rr, OpR X (compareOp (if no then .NotIn else .In)) rr ∧
    ∀ z (o : Option U) H Q, (∃ r : Option Value, PySem.W.nsIn X.K a z = some r ∧ r.isSome = o.isSome) → Q (.bl (if no then !o.isSome else o.isSome)) H → rr (.str z) (.ref a) H Q := by
  cases no with
  | true => exact ⟨_, op_notIn_kd D, fun z o H Q ⟨r, h1, h2⟩ q => ⟨z, r, rfl, rfl, h1, by rw [h2]; exact q⟩⟩
  | false => exact ⟨_, op_in_kd D, fun z o H Q ⟨r, h1, h2⟩ q => ⟨z, r, rfl, rfl, h1, by rw [h2]; exact q⟩⟩
theorem din_at {K : PySem.W.Frag} {mg : Str → Option Value} {a : Addr} {z : Str} {o : Option U} (h : match o with
    | none => PySem.W.nsIn K a z = some none
    | some u => ∃ u0 v, PySem.W.nsIn K a z = some (some u0) ∧ RelV v u0 ∧ ∀ μ n Y H, RU K mg μ n Y H u v) : ∃ r : Option Value, PySem.W.nsIn K a z = some r ∧ r.isSome = o.isSome := by
  cases o with
  | none => exact ⟨none, h, rfl⟩
  | some u => obtain ⟨u0, v, h, _⟩ := h; exact ⟨some u0, h, rfl⟩
section
variable {T : Th}
mutual
theorem soundE : ∀ (c : CE) {X : Cx} (_ : Good X T) {W : WX} (_ : Takes X W) {e : Expr}, matchE X.N X.env.scope c e = true → PE X e (tE X.K X.mg W (ev T c))
  | .var i, X, G, W, tk, e, h => by
    simp only [matchE] at h
    cases q : asName e with
    | none => rw [q] at h; cases h
    | some x =>
      rw [q] at h
      obtain ⟨pos, rfl⟩ := asName_ok q
      obtain ⟨h1, h2, h3, h4⟩ := visB_ok h
      refine PE.imp (pe_var h1 h2 h3 h4) fun σ H Q ⟨μ, ρ, S, Y, r, re, f⟩ => ?_
      simp only [ev] at f
      cases z : ρ[i]? with
      | none => rw [z] at f; exact f.elim
      | some o =>
        cases o with
        | none => rw [z] at f; exact f.elim
        | some u =>
          rw [z] at f
          obtain ⟨v, e1, e2⟩ := re.2 i u z
          exact ⟨v, e1, Nx.here f r v e2⟩
  | .int i, X, G, W, tk, e, h => by
    simp only [matchE] at h
    obtain ⟨k, pos, rfl⟩ := asInt_ok (eq_of_beq h)
    exact PE.imp pe_int fun σ H Q ⟨μ, ρ, S, Y, r, re, f⟩ => Nx.here f r _ (.int i)
  | .str s, X, G, W, tk, e, h => by
    simp only [matchE, decide_eq_true_eq] at h
    obtain ⟨k, pos, rfl⟩ := asStr_ok h
    exact PE.imp pe_str fun σ H Q ⟨μ, ρ, S, Y, r, re, f⟩ => Nx.here f r _ (.str s)
  | .non, X, G, W, tk, e, h => by
    simp only [matchE] at h
    obtain ⟨k, pos, rfl⟩ := asNon_ok h
    exact PE.imp pe_non fun σ H Q ⟨μ, ρ, S, Y, r, re, f⟩ => Nx.here f r _ .non
  | .bl b, X, G, W, tk, e, h => by
    simp only [matchE] at h
    obtain ⟨k, pos, rfl⟩ := asBool_ok (eq_of_beq h)
    exact PE.imp pe_bl fun σ H Q ⟨μ, ρ, S, Y, r, re, f⟩ => Nx.here f r _ (.bl b)
  | .glob x, X, G, W, tk, e, h => by
    simp only [matchE, Bool.and_eq_true, decide_eq_true_eq] at h
    obtain ⟨pos, rfl⟩ := asName_ok h.1
    obtain ⟨h1, h2⟩ := glB_ok h.2
    cases q : T.gl x with
    | none => exact PE.false fun σ H Q ⟨μ, ρ, S, Y, r, re, f⟩ => by simp only [ev, q] at f; exact f
    | some u =>
      obtain ⟨v, w, e1, e2, e3⟩ := G.gl x u q
      refine PE.imp (pe_glob h1 e1 e2 h2) fun σ H Q ⟨μ, ρ, S, Y, r, re, f⟩ => ?_
      simp only [ev, q] at f
      exact Nx.here f r v (e3 _ _ _ _)
  | .bin o a b, X, G, W, tk, e, h => by
    simp only [matchE] at h
    cases q : asBin e with
    | none => rw [q] at h; cases h
    | some z =>
      obtain ⟨op, p, q'⟩ := z
      rw [q] at h
      simp only [Bool.and_eq_true, decide_eq_true_eq] at h
      obtain ⟨pos, rfl⟩ := asBin_ok q
      obtain ⟨rfl, ha, hb⟩ := h
      obtain ⟨rr, ho, hh⟩ := bin_ok (X := X) o
      refine PE.imp (pe_op ho (soundE a G tk ha) (soundE b G tk hb)) fun σ H Q ⟨μ, ρ, S, Y, r, re, f⟩ => ?_
      simp only [ev] at f
      exact tE_of r re f fun u S1 μ1 H1 v r1 re1 g1 ru f1 => tE_of r1 re1 f1 fun w S2 μ2 H2 y r2 re2 g2 rw' f2 => by
        obtain ⟨z, e1, k⟩ := f2.ofO
        exact hh _ _ _ _ _ _ _ _ _ _ r2 (ru.mono g2) rw' e1 k
  | .neg a, X, G, W, tk, e, h => by
    simp only [matchE] at h
    cases q : asUn e with
    | none => rw [q] at h; cases h
    | some z =>
      obtain ⟨op, p⟩ := z
      rw [q] at h
      simp only [Bool.and_eq_true, decide_eq_true_eq] at h
      obtain ⟨pos, rfl⟩ := asUn_ok q
      obtain ⟨rfl, ha⟩ := h
      refine PE.imp (pe_un un_neg (soundE a G tk ha)) fun σ H Q ⟨μ, ρ, S, Y, r, re, f⟩ => ?_
      simp only [ev] at f
      exact tE_of r re f fun u S1 μ1 H1 v r1 re1 g1 ru f1 => by
        cases ru with
        | int i => exact ⟨i, rfl, Nx.here f1 r1 _ (.int _)⟩
        | _ => exact f1.elim
  | .cmp o a b, X, G, W, tk, e, h => by
    simp only [matchE] at h
    cases q : asCmp e with
    | none => rw [q] at h; cases h
    | some z =>
      obtain ⟨p, op, q'⟩ := z
      rw [q] at h
      simp only [Bool.and_eq_true, decide_eq_true_eq, Bool.not_eq_true'] at h
      obtain ⟨pos, rfl⟩ := asCmp_ok q
      obtain ⟨⟨rfl, hm⟩, ha, hb⟩ := h
      obtain ⟨rr, ho, hh⟩ := cmp_ok (X := X) (by have := G.units; omega) o
      refine PE.imp (pe_cmpR ho (soundE a G tk ha) (soundE b G tk hb) hm) fun σ H Q ⟨μ, ρ, S, Y, r, re, f⟩ => ?_
      simp only [ev] at f
      exact tE_of r re f fun u S1 μ1 H1 v r1 re1 g1 ru f1 => tE_of r1 re1 f1 fun w S2 μ2 H2 y r2 re2 g2 rw' f2 => by
        obtain ⟨z, e1, k⟩ := f2.ofO
        exact hh _ _ _ _ _ _ _ _ _ _ r2 (ru.mono g2) rw' e1 k
  | .isN a, X, G, W, tk, e, h => by
    simp only [matchE] at h
    cases q : asCmp e with
    | none => rw [q] at h; cases h
    | some z =>
      obtain ⟨p, op, q'⟩ := z
      rw [q] at h
      simp only [Bool.and_eq_true, decide_eq_true_eq] at h
      obtain ⟨pos, rfl⟩ := asCmp_ok q
      obtain ⟨⟨rfl, hn⟩, ha⟩ := h
      obtain ⟨k, pos', rfl⟩ := asNon_ok hn
      refine PE.imp (pe_cmpR op_isN (soundE a G tk ha) pe_non (nomark _)) fun σ H Q ⟨μ, ρ, S, Y, r, re, f⟩ => ?_
      simp only [ev] at f
      exact tE_of r re f fun u S1 μ1 H1 v r1 re1 g1 ru f1 => by
        rw [ru.isN] at f1
        exact ⟨rfl, Nx.here f1 r1 _ (.bl _)⟩
  | .notN a, X, G, W, tk, e, h => by
    simp only [matchE] at h
    cases q : asCmp e with
    | none => rw [q] at h; cases h
    | some z =>
      obtain ⟨p, op, q'⟩ := z
      rw [q] at h
      simp only [Bool.and_eq_true, decide_eq_true_eq] at h
      obtain ⟨pos, rfl⟩ := asCmp_ok q
      obtain ⟨⟨rfl, hn⟩, ha⟩ := h
      obtain ⟨k, pos', rfl⟩ := asNon_ok hn
      refine PE.imp (pe_cmpR op_notN (soundE a G tk ha) pe_non (nomark _)) fun σ H Q ⟨μ, ρ, S, Y, r, re, f⟩ => ?_
      simp only [ev] at f
      exact tE_of r re f fun u S1 μ1 H1 v r1 re1 g1 ru f1 => by
        rw [ru.isN] at f1
        exact ⟨rfl, Nx.here f1 r1 _ (.bl _)⟩
  | .chn o o' a b c, X, G, W, tk, e, h => by
    simp only [matchE] at h
    cases q : asChn e with
    | none => rw [q] at h; cases h
    | some z =>
      obtain ⟨p, op, q', op', r'⟩ := z
      rw [q] at h
      simp only [Bool.and_eq_true, decide_eq_true_eq, Bool.not_eq_true'] at h
      obtain ⟨pos, rfl⟩ := asChn_ok q
      obtain ⟨⟨⟨rfl, rfl⟩, hm⟩, ha, hb, hc⟩ := h
      have hu : X.A.units + 64 < cLine := by have := G.units; omega
      obtain ⟨rr, ho, hh⟩ := cmp_ok (X := X) hu o
      obtain ⟨rr', ho', hh'⟩ := cmp_ok (X := X) hu o'
      refine PE.imp (pe_chain ho ho' (soundE a G tk ha) (soundE b G tk hb) (soundE c G tk hc) hm) fun σ H Q ⟨μ, ρ, S, Y, r, re, f⟩ => ?_
      simp only [ev] at f
      exact tE_of r re f fun u S1 μ1 H1 v r1 re1 g1 ru f1 => tE_of r1 re1 f1 fun w S2 μ2 H2 y r2 re2 g2 rw' f2 => by
        cases z1 : cmpE S2 o u w with
        | none => rw [z1] at f2; exact f2.elim
        | some b0 =>
          rw [z1] at f2
          refine hh μ2 S2 Y H2 u w (.bl b0) v y _ r2 (ru.mono g2) rw' (show (cmpE S2 o u w).map U.bl = some (.bl b0) by rw [z1]; rfl) fun μ3 H3 g3 r3 v3 rv3 => ?_
          cases rv3
          refine ⟨b0, rfl, ?_⟩
          cases b0 with
          | false => exact iteF (Nx.here (Nx.shift f2 g3) r3 _ (.bl _))
          | true =>
            refine iteT (tE_of r3 (re2.mono g3) (Fin.shift f2 g3) fun z S4 μ4 H4 y4 r4 re4 g4 rz f4 => ?_)
            obtain ⟨z', e1, k⟩ := f4.ofO
            exact hh' _ _ _ _ _ _ _ _ _ _ r4 ((rw'.mono g3).mono g4) rz e1 k
  | .bop an as, X, G, W, tk, e, h => by
    simp only [matchE] at h
    cases q : asBop e with
    | none => rw [q] at h; cases h
    | some z =>
      obtain ⟨op, es⟩ := z
      rw [q] at h
      simp only [Bool.and_eq_true, decide_eq_true_eq] at h
      obtain ⟨pos, rfl⟩ := asBop_ok q
      obtain ⟨rfl, ha⟩ := h
      exact PE.imp (soundB as G tk an ha) fun σ H Q x => x
  | .not a, X, G, W, tk, e, h => by
    simp only [matchE] at h
    cases q : asUn e with
    | none => rw [q] at h; cases h
    | some z =>
      obtain ⟨op, p⟩ := z
      rw [q] at h
      simp only [Bool.and_eq_true, decide_eq_true_eq] at h
      obtain ⟨pos, rfl⟩ := asUn_ok q
      obtain ⟨rfl, ha⟩ := h
      refine PE.imp (pe_not (soundE a G tk ha)) fun σ H Q ⟨μ, ρ, S, Y, r, re, f⟩ => ?_
      simp only [ev] at f
      exact tE_of r re f fun u S1 μ1 H1 v r1 re1 g1 ru f1 => by
        cases ru with
        | bl b => exact ⟨b, rfl, Nx.here f1 r1 _ (.bl _)⟩
        | _ => exact f1.elim
  | .ite t a b, X, G, W, tk, e, h => by
    simp only [matchE] at h
    cases q : asIf e with
    | none => rw [q] at h; cases h
    | some z =>
      obtain ⟨c, p, q'⟩ := z
      rw [q] at h
      simp only [Bool.and_eq_true] at h
      obtain ⟨pos, rfl⟩ := asIf_ok q
      obtain ⟨⟨hk, ht⟩, ha, hb⟩ := h
      refine PE.imp (pe_ifExp (soundT t G tk hk ht) (soundE a G tk ha) (soundE b G tk hb)) fun σ H Q ⟨μ, ρ, S, Y, r, re, f⟩ => ?_
      simp only [ev] at f
      exact tT_of r re f fun u S1 μ1 H1 r1 re1 g1 f1 => by
        cases u with
        | bl b0 =>
          refine ⟨b0, rfl, ?_⟩
          cases b0 with
          | true => exact iteT ⟨μ1, ρ, S1, Y, r1, re1, f1⟩
          | false => exact iteF ⟨μ1, ρ, S1, Y, r1, re1, f1⟩
        | _ => exact f1.elim
  | .call fn as, X, G, W, tk, e, h => by
    simp only [matchE] at h
    cases q : asCall e with
    | none => rw [q] at h; cases h
    | some z =>
      obtain ⟨g, es⟩ := z
      rw [q] at h
      simp only [Bool.and_eq_true, decide_eq_true_eq, Bool.not_eq_true'] at h
      obtain ⟨p, pos, rfl⟩ := asCall_ok q
      obtain ⟨⟨⟨rfl, hg⟩, hs⟩, hne, ha⟩ := h
      obtain ⟨k, hr, tb⟩ := G.tab
      cases hd : T.dom fn with
      | true =>
        obtain ⟨fa, fd, ps, hm, hk, F, hb⟩ := tb fn hd
        obtain ⟨h1, h2⟩ := glB_ok hg
        cases es with
        | nil => cases hne
        | cons e1 es =>
          obtain ⟨s1, s2⟩ := all2 hs
          refine PE.imp (ZG.pe_callG F hr G.gu h1 hm hk hb tk (soundEs as G tk hs ha) h2 (star_cons s1) (noStar_any s2)) fun σ H Q ⟨μ, ρ, S, Y, r, re, f⟩ => ?_
          simp only [ev, hd, if_true] at f
          exact tA_of r re f fun us S1 μ1 H1 vs r1 re1 g1 rus f1 => ⟨μ1, S1, Y, us, r1, rus, f1.w fun cls d H z => z⟩
      | false =>
        refine PE.false fun σ H Q ⟨μ, ρ, S, Y, r, re, f⟩ => ?_
        simp only [ev, hd] at f
        exact f
  | .bi fn as, X, G, W, tk, e, h => by
    simp only [matchE] at h
    cases q : asCall e with
    | none => rw [q] at h; cases h
    | some z =>
      obtain ⟨g, es⟩ := z
      rw [q] at h
      simp only [Bool.and_eq_true, decide_eq_true_eq, Bool.not_eq_true'] at h
      obtain ⟨p, pos, rfl⟩ := asCall_ok q
      obtain ⟨⟨⟨rfl, hg⟩, hs⟩, hne, ha⟩ := h
      obtain ⟨h1, h2⟩ := glB_ok hg
      obtain ⟨b1, b2, b3⟩ := fn.inB
      cases es with
      | nil => cases hne
      | cons e1 es =>
        obtain ⟨s1, s2⟩ := all2 hs
        rcases bi_ok G.calm fn with ⟨id, rr, hv, hc, hh⟩ | ⟨id, rr, hv, hc, hh⟩
        · refine PE.imp (pe_callB hc h1 (G.free _ b1) hv (soundEs as G tk hs ha) b2 b3 (star_cons s1) (noStar_any s2)) fun σ H Q ⟨μ, ρ, S, Y, r, re, f⟩ => ?_
          simp only [ev] at f
          exact tA_of r re f fun us S1 μ1 H1 vs r1 re1 g1 rus f1 => by
            obtain ⟨z, e1, k⟩ := f1.ofO
            exact hh _ _ _ _ _ _ _ _ r1 rus e1 k
        · refine PE.imp (pe_callTy hc h1 (G.free _ b1) hv (soundEs as G tk hs ha) b2 b3 (star_cons s1) (noStar_any s2)) fun σ H Q ⟨μ, ρ, S, Y, r, re, f⟩ => ?_
          simp only [ev] at f
          exact tA_of r re f fun us S1 μ1 H1 vs r1 re1 g1 rus f1 => by
            obtain ⟨z, e1, k⟩ := f1.ofO
            exact hh _ _ _ _ _ _ _ _ r1 rus e1 k
  | .isi a t, X, G, W, tk, e, h => by
    simp only [matchE] at h
    cases q : asCall e with
    | none => rw [q] at h; cases h
    | some z =>
      obtain ⟨g, es⟩ := z
      rw [q] at h
      rcases es with _ | ⟨p, _ | ⟨q', _ | ⟨q2, es⟩⟩⟩ <;> first | (cases h; done) | skip
      simp only [Bool.and_eq_true, decide_eq_true_eq] at h
      obtain ⟨p0, pos, rfl⟩ := asCall_ok q
      obtain ⟨⟨⟨⟨rfl, hg⟩, hq⟩, hg2⟩, hs, ha⟩ := h
      obtain ⟨pos2, rfl⟩ := asName_ok hq
      obtain ⟨h1, h2⟩ := glB_ok hg
      obtain ⟨h3, h4⟩ := glB_ok hg2
      obtain ⟨b1, b2, b3, b4⟩ := t.inB
      refine PE.imp (pe_callB call_isi h1 (G.free _ (by decide +kernel)) PyProof.Rows.boot_isinstance (pa_cons (soundE a G tk ha) (pa_cons (pe_bltn (v := .ty t.nm) h3 (G.free _ b1) b4 rfl b2 b3) pa_nil rfl) (star_cons hs)) (by decide +kernel) h2 (star_cons hs) (by rfl)) fun σ H Q ⟨μ, ρ, S, Y, r, re, f⟩ => ?_
      simp only [ev] at f
      exact tE_of r re f fun u S1 μ1 H1 v r1 re1 g1 ru f1 => by
        obtain ⟨z, e1, k⟩ := f1.ofO
        exact isi_ok r1 ru e1 k
  | .idx a i, X, G, W, tk, e, h => by
    simp only [matchE] at h
    cases q : asSub e with
    | none => rw [q] at h; cases h
    | some z =>
      obtain ⟨p, q'⟩ := z
      rw [q] at h
      simp only [Bool.and_eq_true] at h
      obtain ⟨pos, rfl⟩ := asSub_ok q
      obtain ⟨hp, ha, hb⟩ := h
      refine PE.imp (pe_ix (IxR.or ix_list ix_tup) (soundE a G tk ha) (soundE i G tk hb) (plainIx_of hp)) fun σ H Q ⟨μ, ρ, S, Y, r, re, f⟩ => ?_
      simp only [ev] at f
      exact tE_of r re f fun u S1 μ1 H1 v r1 re1 g1 ru f1 => tE_of r1 re1 f1 fun w S2 μ2 H2 y r2 re2 g2 rw' f2 => by
        obtain ⟨z, e1, k⟩ := f2.ofO
        exact ix_ok r2 (ru.mono g2) rw' e1 k
  | .sl a lo hi, X, G, W, tk, e, h => by
    simp only [matchE] at h
    cases q : asSub e with
    | none => rw [q] at h; cases h
    | some z =>
      obtain ⟨p, q'⟩ := z
      rw [q] at h
      simp only at h
      cases q2 : asSl q' with
      | none => rw [q2] at h; cases h
      | some z2 =>
        obtain ⟨l, u⟩ := z2
        rw [q2] at h
        simp only [Bool.and_eq_true] at h
        obtain ⟨pos, rfl⟩ := asSub_ok q
        obtain ⟨pos2, rfl⟩ := asSl_ok q2
        obtain ⟨ha, hl, hu⟩ := h
        refine PE.imp (pe_slice (SlR.or sl_list sl_tupA) (soundE a G tk ha) (soundO lo G tk hl) (soundO hi G tk hu)) fun σ H Q ⟨μ, ρ, S, Y, r, re, f⟩ => ?_
        simp only [ev] at f
        exact tE_of r re f fun u S1 μ1 H1 v r1 re1 g1 ru f1 => tO_of r1 re1 f1 fun o S2 μ2 H2 r2 re2 g2 f2 => tO_of r2 re2 f2 fun o' S3 μ3 H3 r3 re3 g3 f3 => by
          obtain ⟨z, e1, k⟩ := f3.ofO
          exact sl_ok r3 ((ru.mono g2).mono g3) e1 k
  | .rev a, X, G, W, tk, e, h => by
    simp only [matchE] at h
    cases q : asSub e with
    | none => rw [q] at h; cases h
    | some z =>
      obtain ⟨p, q'⟩ := z
      rw [q] at h
      simp only [Bool.and_eq_true] at h
      obtain ⟨pos, rfl⟩ := asSub_ok q
      obtain ⟨k, p1, p2, p3, rfl⟩ := asRev_ok h.1
      refine PE.imp (PE.or (pe_revL (soundE a G tk h.2)) (ZS.pe_revT (soundE a G tk h.2))) fun σ H Q ⟨μ, ρ, S, Y, r, re, f⟩ => ?_
      simp only [ev] at f
      have lf : (∀ u S1, ev T a ρ S = .ok u S1 → tupOf u = none) → _ := fun hu => Or.inl (b := ZS.tRevT X.K (tE X.K X.mg W (ev T a)) σ H Q) (⟨μ, ρ, S, Y, r, re, by
        cases z : ev T a ρ S with
        | ok u S1 =>
          rw [z] at f
          intro μ1 H1 g1 r1 v ru
          replace f : Fin X.K X.mg W σ μ S Y H (ofO S1 (revE S1 u)) _ := f
          have hu' := hu u S1 z
          have f1 := Fin.shift f g1
          obtain ⟨z, e1, k⟩ := f1.ofO
          have e1' : (lstOf S1 u).map (fun us => U.tl us.reverse) = some z := by
            cases u <;> first | (cases hu'; done) | exact e1
          simp only [Option.map_eq_some_iff] at e1'
          obtain ⟨us, e5, rfl⟩ := e1'
          obtain ⟨a', vs, rfl, e2, e3⟩ := lstOf_sq r1 ru e5
          exact ⟨a', vs, rfl, e2, fun p hp => Nx.fresh k r1 hp _ (RU.newTl r1 hp e3.reverse)⟩
        | ex _ _ => rw [z] at f; exact f
        | no => rw [z] at f; exact f⟩ : tRevL X.K (tE X.K X.mg W (ev T a)) σ H Q)
      cases z : ev T a ρ S with
      | ok u S1 =>
        cases q : tupOf u with
        | none => exact lf fun u' S' e' => by rw [z] at e'; cases e'; exact q
        | some us =>
          right
          refine ⟨μ, ρ, S, Y, r, re, ?_⟩
          rw [z] at f ⊢
          intro μ1 H1 g1 r1 v ru
          cases u <;> first | (cases q; done) | skip
          obtain ⟨a', vs, rfl, e2, e3⟩ := tup_sq ru
          have f1 := Fin.shift (show Fin X.K X.mg W σ μ S Y H (ofO S1 (revE S1 (.tup _))) _ from f) g1
          obtain ⟨z, e1, k⟩ := f1.ofO
          cases e1
          exact ⟨a', vs, rfl, e2, fun p hp => Nx.fresh k r1 hp _ (RU.newTup r1 hp e3.reverse)⟩
      | ex _ _ => exact lf fun u' S' e' => by rw [z] at e'; cases e'
      | no => exact lf fun u' S' e' => by rw [z] at e'; cases e'
  | .tup as, X, G, W, tk, e, h => by
    simp only [matchE] at h
    cases q : asTup e with
    | none => rw [q] at h; cases h
    | some es =>
      rw [q] at h
      simp only [Bool.and_eq_true] at h
      obtain ⟨k, pos, rfl⟩ := asTup_ok q
      refine PE.imp (pe_tup (soundEs as G tk h.1 h.2)) fun σ H Q ⟨μ, ρ, S, Y, r, re, f⟩ => ?_
      simp only [ev] at f
      exact tA_of r re f fun us S1 μ1 H1 vs r1 re1 g1 rus f1 => by
        by_cases hz : us.length ≤ sizeLine
        · rw [if_pos hz] at f1
          exact ⟨by rw [← rus.length]; exact hz, fun p hp => Nx.fresh f1 r1 hp _ (RU.newTup r1 hp rus)⟩
        · rw [if_neg hz] at f1; exact f1.elim
  | .tmp c, X, G, W, tk, e, h => by
    simp only [matchE] at h
    refine PE.imp (soundN c G tk h) fun σ H Q x => tN_tmp ?_
    obtain ⟨μ, ρ, S, Y, r, re, f⟩ := x
    simp only [ev] at f
    exact ⟨μ, ρ, S, Y, r, re, f⟩
  | .mk c, X, G, W, tk, e, h => by
    simp only [matchE] at h
    refine PE.imp (soundN c G tk h) fun σ H Q x => tN_mk ?_
    obtain ⟨μ, ρ, S, Y, r, re, f⟩ := x
    simp only [ev] at f
    exact ⟨μ, ρ, S, Y, r, re, f⟩
  | .meth m o as, X, G, W, tk, e, h => by
    simp only [matchE] at h
    cases h
  | .nope, X, G, W, tk, e, h => PE.false fun σ H Q ⟨μ, ρ, S, Y, r, re, f⟩ => by simp only [ev] at f; exact f
  | .repr a, X, G, W, tk, e, h => by
    simp only [matchE] at h
    cases q : asCall e with
    | none => rw [q] at h; cases h
    | some z =>
      obtain ⟨g, es⟩ := z
      rw [q] at h
      rcases es with _ | ⟨p, _ | ⟨q', es⟩⟩ <;> first | (cases h; done) | skip
      simp only [Bool.and_eq_true, decide_eq_true_eq] at h
      obtain ⟨p0, pos, rfl⟩ := asCall_ok q
      obtain ⟨⟨rfl, hg⟩, hs, ha⟩ := h
      obtain ⟨h1, h2⟩ := glB_ok hg
      refine PE.imp (pe_callB (ZS.call_repr G.gu (by have := G.units; omega)) h1 (G.free _ (by decide +kernel)) (by decide +kernel) (pa_cons (soundE a G tk ha) pa_nil (star_cons hs)) (by decide +kernel) h2 (star_cons hs) (by rfl)) fun σ H Q ⟨μ, ρ, S, Y, r, re, f⟩ => ?_
      simp only [ev] at f
      exact tE_of r re f fun u S1 μ1 H1 v r1 re1 g1 ru f1 => by
        obtain ⟨z, e1, k⟩ := f1.ofO
        unfold reprE at e1
        cases qd : dat S1 12 u with
        | none => rw [qd] at e1; cases e1
        | some d =>
          rw [qd] at e1
          replace e1 : (if (u.isRef && (d.showable && decide (d.shown.length ≤ sizeLine))) = true then some (U.str d.shown) else none) = some z := e1
          by_cases hz : (u.isRef && (d.showable && decide (d.shown.length ≤ sizeLine))) = true
          · rw [if_pos hz] at e1
            cases e1
            rw [Bool.and_eq_true, Bool.and_eq_true, decide_eq_true_eq] at hz
            obtain ⟨a', rfl⟩ := ru.isRef hz.1
            obtain ⟨d1, d2⟩ := dat_depth 12 u qd
            exact ⟨a', d, rfl, dat_ok r1 12 ru qd, hz.2.1, by omega, d2, hz.2.2, Nx.here k r1 _ (.str _)⟩
          · rw [if_neg hz] at e1; cases e1
  | .dget x a, X, G, W, tk, e, h => by
    simp only [matchE] at h
    cases q : asSub e with
    | none => rw [q] at h; cases h
    | some z =>
      obtain ⟨p, q'⟩ := z
      rw [q] at h
      simp only [Bool.and_eq_true, decide_eq_true_eq] at h
      obtain ⟨pos, rfl⟩ := asSub_ok q
      obtain ⟨⟨⟨hp, hn⟩, hg⟩, ha⟩ := h
      obtain ⟨pos2, rfl⟩ := asName_ok hn
      obtain ⟨h1, h2⟩ := glB_ok hg
      cases hd : T.dct x with
      | none => exact PE.false fun σ H Q ⟨μ, ρ, S, Y, r, re, f⟩ => by simp only [ev, hd] at f; exact f
      | some d =>
        obtain ⟨a0, es, n, hm, hkd, hz⟩ := G.dct x d hd
        refine PE.imp (pe_ix ix_kdict (pe_glob (v := .ref a0) h1 hm rfl h2) (soundE a G tk ha) (plainIx_of hp)) fun σ H Q ⟨μ, ρ, S, Y, r, re, f⟩ => ?_
        simp only [ev, hd] at f
        exact tE_of r re f fun u S1 μ1 H1 v r1 re1 g1 ru f1 => by
          cases ru with
          | str z =>
            obtain ⟨w, e1, k⟩ := f1.ofO
            rw [Option.bind_eq_some_iff] at e1
            obtain ⟨o, e1, e2⟩ := e1
            cases o with
            | none => cases e2
            | some w' =>
              cases e2
              obtain ⟨u0, v0, e1, e2, e3⟩ := hz z _ e1
              exact ⟨a0, z, v0, rfl, rfl, ⟨es, n, u0, hkd.at_, hkd.lit, e1, e2⟩, Nx.here k r1 _ (e3 _ _ _ _)⟩
          | _ => exact f1.elim
  | .din x no a, X, G, W, tk, e, h => by
    simp only [matchE] at h
    cases q : asCmp e with
    | none => rw [q] at h; cases h
    | some z =>
      obtain ⟨p, op, q'⟩ := z
      rw [q] at h
      simp only [Bool.and_eq_true, decide_eq_true_eq, Bool.not_eq_true'] at h
      obtain ⟨pos, rfl⟩ := asCmp_ok q
      obtain ⟨⟨⟨⟨rfl, hmk⟩, hn⟩, hg⟩, ha⟩ := h
      obtain ⟨pos2, rfl⟩ := asName_ok hn
      obtain ⟨h1, h2⟩ := glB_ok hg
      cases hd : T.dct x with
      | none => exact PE.false fun σ H Q ⟨μ, ρ, S, Y, r, re, f⟩ => by simp only [ev, hd] at f; exact f
      | some d =>
        obtain ⟨a0, es, n, hm, hkd, hz⟩ := G.dct x d hd
        obtain ⟨rr, ho, hh⟩ := din_ok (X := X) hkd no
        refine PE.imp (pe_cmpR ho (soundE a G tk ha) (pe_glob (v := .ref a0) h1 hm rfl h2) hmk) fun σ H Q ⟨μ, ρ, S, Y, r, re, f⟩ => ?_
        simp only [ev, hd] at f
        exact tE_of r re f fun u S1 μ1 H1 v r1 re1 g1 ru f1 => by
          cases ru with
          | str z =>
            obtain ⟨w, e1, k⟩ := f1.ofO
            rw [Option.map_eq_some_iff] at e1
            obtain ⟨o, e1, rfl⟩ := e1
            refine hh z o H1 Q (din_at (hz z _ e1)) (Nx.here k r1 _ (.bl _))
          | _ => exact f1.elim
  | .callL i as, X, G, W, tk, e, h => by
    simp only [matchE] at h
    cases q : asCall e with
    | none => rw [q] at h; cases h
    | some z =>
      obtain ⟨g, es⟩ := z
      rw [q] at h
      simp only [Bool.and_eq_true, decide_eq_true_eq, Bool.not_eq_true'] at h
      obtain ⟨p, pos, rfl⟩ := asCall_ok q
      obtain ⟨⟨hv, hs⟩, hne, ha⟩ := h
      obtain ⟨v1, v2, v3, v4⟩ := visB_ok hv
      obtain ⟨k, hr, tb⟩ := G.tab
      cases es with
      | nil => cases hne
      | cons e1 es =>
        obtain ⟨s1, s2⟩ := all2 hs
        refine PE.imp (ZG.pe_callLG v1 v2 v3 v4 (hold := fun fa sp => ∃ f fd ps, X.mg f = some (.ref fa) ∧ T.dom f = true ∧ PySem.W.keepIn X.K (.ref fa) = true ∧ ZG.FnG X.prog X.w X.K X.mg X.base k fa fd ps sp ∧ Binds X.K fd ps [])
          (fun fa sp ⟨f, fd, ps, q1, q2, q3, q4, q5⟩ => ⟨k, fd, ps, q4, hr, q3, q5⟩) G.gu tk (soundEs as G tk hs ha) (star_cons s1) (noStar_any s2)) fun σ H Q ⟨μ, ρ, S, Y, r, re, f⟩ => ?_
        simp only [ev] at f
        cases z : ρ[i]? with
        | none => rw [z] at f; exact f.elim
        | some o =>
          cases o with
          | none => rw [z] at f; exact f.elim
          | some u =>
            rw [z] at f
            obtain ⟨v, e1, e2⟩ := re.2 i u z
            cases u <;> first | exact f.elim | skip
            rename_i fx
            cases e2 with
            | fn hmx =>
            cases hd : T.dom fx with
            | true =>
              simp only [hd, if_true] at f
              obtain ⟨fa, fd, ps, hm, hk, F, hb⟩ := tb fx hd
              rw [hmx] at hm
              cases hm
              exact ⟨_, _, ⟨fx, fd, ps, hmx, hd, hk, F, hb⟩, e1, tA_of r re f fun us S1 μ1 H1 vs r1 re1 g1 rus f1 => ⟨μ1, S1, Y, us, r1, rus, f1.w fun cls d H z => z⟩⟩
            | false =>
              simp only [hd] at f
              exact f.elim
theorem soundT : ∀ (c : CE) {X : Cx} (_ : Good X T) {W : WX} (_ : Takes X W) {e : Expr}, okT c e = true → matchE X.N X.env.scope c e = true → PT X e (tT X.K X.mg W (ev T c))
  | .bop an as, X, G, W, tk, e, ho, h => by
    simp only [matchE] at h
    simp only [okT] at ho
    cases q : asBop e with
    | none => rw [q] at h; cases h
    | some z =>
      obtain ⟨op, es⟩ := z
      rw [q] at h ho
      simp only [Bool.and_eq_true, decide_eq_true_eq] at h
      obtain ⟨pos, rfl⟩ := asBop_ok q
      obtain ⟨rfl, ha⟩ := h
      exact PT.imp (PW.pt (soundW as G tk an ho ha)) fun σ H Q x => x
  | .not a, X, G, W, tk, e, ho, h => by
    simp only [matchE] at h
    simp only [okT] at ho
    cases q : asUn e with
    | none => rw [q] at h; cases h
    | some z =>
      obtain ⟨op, p⟩ := z
      rw [q] at h ho
      simp only [Bool.and_eq_true, decide_eq_true_eq] at h
      obtain ⟨pos, rfl⟩ := asUn_ok q
      obtain ⟨rfl, ha⟩ := h
      refine PT.imp (pt_not (soundT a G tk ho ha)) fun σ H Q ⟨μ, ρ, S, Y, r, re, f⟩ => ?_
      simp only [ev] at f
      exact tT_of r re f fun u S1 μ1 H1 r1 re1 g1 f1 => by
        cases u with
        | bl b =>
          obtain ⟨b', e1, q'⟩ := Nx.here f1 r1
          cases e1
          exact ⟨b, rfl, q'⟩
        | _ => exact f1.elim
  | .cmp o a b, X, G, W, tk, e, ho, h => by
    simp only [matchE] at h
    cases q : asCmp e with
    | none => rw [q] at h; cases h
    | some z =>
      obtain ⟨p, op, q'⟩ := z
      rw [q] at h
      simp only [Bool.and_eq_true, decide_eq_true_eq, Bool.not_eq_true'] at h
      obtain ⟨pos, rfl⟩ := asCmp_ok q
      obtain ⟨⟨rfl, hm⟩, ha, hb⟩ := h
      obtain ⟨rr, ho, hh⟩ := cmp_ok (X := X) (by have := G.units; omega) o
      refine PT.imp (pt_cmpR ho (soundE a G tk ha) (soundE b G tk hb) hm) fun σ H Q ⟨μ, ρ, S, Y, r, re, f⟩ => ?_
      simp only [ev] at f
      exact tE_of r re f fun u S1 μ1 H1 v r1 re1 g1 ru f1 => tE_of r1 re1 f1 fun w S2 μ2 H2 y r2 re2 g2 rw' f2 => by
        obtain ⟨z, e1, k⟩ := f2.ofO
        refine hh _ _ _ _ _ _ _ _ _ _ r2 (ru.mono g2) rw' e1 fun μ3 H3 g3 r3 v3 rv3 => ?_
        obtain ⟨b', rfl, q'⟩ := k μ3 H3 g3 r3
        cases rv3
        exact ⟨b', rfl, q'⟩
  | .isN a, X, G, W, tk, e, ho, h => by
    simp only [matchE] at h
    cases q : asCmp e with
    | none => rw [q] at h; cases h
    | some z =>
      obtain ⟨p, op, q'⟩ := z
      rw [q] at h
      simp only [Bool.and_eq_true, decide_eq_true_eq] at h
      obtain ⟨pos, rfl⟩ := asCmp_ok q
      obtain ⟨⟨rfl, hn⟩, ha⟩ := h
      obtain ⟨k, pos', rfl⟩ := asNon_ok hn
      refine PT.imp (pt_cmpR op_isN (soundE a G tk ha) pe_non (nomark _)) fun σ H Q ⟨μ, ρ, S, Y, r, re, f⟩ => ?_
      simp only [ev] at f
      exact tE_of r re f fun u S1 μ1 H1 v r1 re1 g1 ru f1 => by
        obtain ⟨b', e1, q'⟩ := Nx.here f1 r1
        cases e1
        rw [ru.isN] at q'
        exact ⟨rfl, _, rfl, q'⟩
  | .notN a, X, G, W, tk, e, ho, h => by
    simp only [matchE] at h
    cases q : asCmp e with
    | none => rw [q] at h; cases h
    | some z =>
      obtain ⟨p, op, q'⟩ := z
      rw [q] at h
      simp only [Bool.and_eq_true, decide_eq_true_eq] at h
      obtain ⟨pos, rfl⟩ := asCmp_ok q
      obtain ⟨⟨rfl, hn⟩, ha⟩ := h
      obtain ⟨k, pos', rfl⟩ := asNon_ok hn
      refine PT.imp (pt_cmpR op_notN (soundE a G tk ha) pe_non (nomark _)) fun σ H Q ⟨μ, ρ, S, Y, r, re, f⟩ => ?_
      simp only [ev] at f
      exact tE_of r re f fun u S1 μ1 H1 v r1 re1 g1 ru f1 => by
        obtain ⟨b', e1, q'⟩ := Nx.here f1 r1
        cases e1
        rw [ru.isN] at q'
        exact ⟨rfl, _, rfl, q'⟩
  | .chn o o' a b c, X, G, W, tk, e, ho, h => by
    simp only [matchE] at h
    cases q : asChn e with
    | none => rw [q] at h; cases h
    | some z =>
      obtain ⟨p, op, q', op', r'⟩ := z
      rw [q] at h
      simp only [Bool.and_eq_true, decide_eq_true_eq, Bool.not_eq_true'] at h
      obtain ⟨pos, rfl⟩ := asChn_ok q
      obtain ⟨⟨⟨rfl, rfl⟩, hm⟩, ha, hb, hc⟩ := h
      have hu : X.A.units + 64 < cLine := by have := G.units; omega
      obtain ⟨rr, ho, hh⟩ := cmp_ok (X := X) hu o
      obtain ⟨rr', ho', hh'⟩ := cmp_ok (X := X) hu o'
      refine PT.imp (pt_chain ho ho' (soundE a G tk ha) (soundE b G tk hb) (soundE c G tk hc) hm) fun σ H Q ⟨μ, ρ, S, Y, r, re, f⟩ => ?_
      simp only [ev] at f
      exact tE_of r re f fun u S1 μ1 H1 v r1 re1 g1 ru f1 => tE_of r1 re1 f1 fun w S2 μ2 H2 y r2 re2 g2 rw' f2 => by
        cases z1 : cmpE S2 o u w with
        | none => rw [z1] at f2; exact f2.elim
        | some b0 =>
          rw [z1] at f2
          refine hh μ2 S2 Y H2 u w (.bl b0) v y _ r2 (ru.mono g2) rw' (show (cmpE S2 o u w).map U.bl = some (.bl b0) by rw [z1]; rfl) fun μ3 H3 g3 r3 v3 rv3 => ?_
          cases rv3
          refine ⟨b0, rfl, ?_⟩
          cases b0 with
          | false =>
            obtain ⟨b', e1, q'⟩ := Nx.here (Nx.shift f2 g3) r3
            cases e1
            exact iteF ⟨_, rfl, q'⟩
          | true =>
            refine iteT (tE_of r3 (re2.mono g3) (Fin.shift f2 g3) fun z S4 μ4 H4 y4 r4 re4 g4 rz f4 => ?_)
            obtain ⟨z', e1, k⟩ := f4.ofO
            refine hh' _ _ _ _ _ _ _ _ _ _ r4 ((rw'.mono g3).mono g4) rz e1 fun μ5 H5 g5 r5 v5 rv5 => ?_
            obtain ⟨b', rfl, q'⟩ := k μ5 H5 g5 r5
            cases rv5
            exact ⟨b', rfl, q'⟩
  | .var i, X, G, W, tk, e, ho, h => soundP (soundE (.var i) G tk h) ho
  | .int i, X, G, W, tk, e, ho, h => soundP (soundE (.int i) G tk h) ho
  | .str i, X, G, W, tk, e, ho, h => soundP (soundE (.str i) G tk h) ho
  | .non, X, G, W, tk, e, ho, h => soundP (soundE .non G tk h) ho
  | .bl i, X, G, W, tk, e, ho, h => soundP (soundE (.bl i) G tk h) ho
  | .glob i, X, G, W, tk, e, ho, h => soundP (soundE (.glob i) G tk h) ho
  | .bin o a b, X, G, W, tk, e, ho, h => soundP (soundE (.bin o a b) G tk h) ho
  | .neg a, X, G, W, tk, e, ho, h => soundP (soundE (.neg a) G tk h) ho
  | .ite t a b, X, G, W, tk, e, ho, h => soundP (soundE (.ite t a b) G tk h) ho
  | .call f as, X, G, W, tk, e, ho, h => soundP (soundE (.call f as) G tk h) ho
  | .bi f as, X, G, W, tk, e, ho, h => soundP (soundE (.bi f as) G tk h) ho
  | .isi a t, X, G, W, tk, e, ho, h => soundP (soundE (.isi a t) G tk h) ho
  | .idx a i, X, G, W, tk, e, ho, h => soundP (soundE (.idx a i) G tk h) ho
  | .sl a lo hi, X, G, W, tk, e, ho, h => soundP (soundE (.sl a lo hi) G tk h) ho
  | .rev a, X, G, W, tk, e, ho, h => soundP (soundE (.rev a) G tk h) ho
  | .tup as, X, G, W, tk, e, ho, h => soundP (soundE (.tup as) G tk h) ho
  | .tmp c, X, G, W, tk, e, ho, h => soundP (soundE (.tmp c) G tk h) ho
  | .mk c, X, G, W, tk, e, ho, h => soundP (soundE (.mk c) G tk h) ho
  | .meth m o as, X, G, W, tk, e, ho, h => soundP (soundE (.meth m o as) G tk h) ho
  | .nope, X, G, W, tk, e, ho, h => PT.false fun σ H Q ⟨μ, ρ, S, Y, r, re, f⟩ => by simp only [ev] at f; exact f
  | .repr a, X, G, W, tk, e, ho, h => soundP (soundE (.repr a) G tk h) ho
  | .dget x a, X, G, W, tk, e, ho, h => soundP (soundE (.dget x a) G tk h) ho
  | .callL i as, X, G, W, tk, e, ho, h => soundP (soundE (.callL i as) G tk h) ho
  | .din x no a, X, G, W, tk, e, ho, h => by
    simp only [matchE] at h
    cases q : asCmp e with
    | none => rw [q] at h; cases h
    | some z =>
      obtain ⟨p, op, q'⟩ := z
      rw [q] at h
      simp only [Bool.and_eq_true, decide_eq_true_eq, Bool.not_eq_true'] at h
      obtain ⟨pos, rfl⟩ := asCmp_ok q
      obtain ⟨⟨⟨⟨rfl, hmk⟩, hn⟩, hg⟩, ha⟩ := h
      obtain ⟨pos2, rfl⟩ := asName_ok hn
      obtain ⟨h1, h2⟩ := glB_ok hg
      cases hd : T.dct x with
      | none => exact PT.false fun σ H Q ⟨μ, ρ, S, Y, r, re, f⟩ => by simp only [ev, hd] at f; exact f
      | some d =>
        obtain ⟨a0, es, n, hm, hkd, hz⟩ := G.dct x d hd
        obtain ⟨rr, ho, hh⟩ := din_ok (X := X) hkd no
        refine PT.imp (pt_cmpR ho (soundE a G tk ha) (pe_glob (v := .ref a0) h1 hm rfl h2) hmk) fun σ H Q ⟨μ, ρ, S, Y, r, re, f⟩ => ?_
        simp only [ev, hd] at f
        exact tE_of r re f fun u S1 μ1 H1 v r1 re1 g1 ru f1 => by
          cases ru with
          | str z =>
            obtain ⟨w, e1, k⟩ := f1.ofO
            rw [Option.map_eq_some_iff] at e1
            obtain ⟨o, e1, rfl⟩ := e1
            obtain ⟨b', e2, q'⟩ := Nx.here k r1
            cases e2
            exact hh z o H1 _ (din_at (hz z _ e1)) ⟨_, rfl, q'⟩
          | _ => exact f1.elim
theorem soundEs : ∀ (cs : CEs) {X : Cx} (_ : Good X T) {W : WX} (_ : Takes X W) {es : List Expr}, es.all notStar = true → matchEs X.N X.env.scope cs es = true → PA X es (tA X.K X.mg W (evs T cs))
  | .nil, X, G, W, tk, es, hs, h => by
    cases es with
    | cons _ _ => simp [matchEs] at h
    | nil => exact PA.imp pa_nil fun σ H Q ⟨μ, ρ, S, Y, r, re, f⟩ => Nx.here f r _ .nil
  | .cons c cs, X, G, W, tk, es, hs, h => by
    cases es with
    | nil => simp [matchEs] at h
    | cons e es =>
      simp only [matchEs, Bool.and_eq_true] at h
      obtain ⟨s1, s2⟩ := all2 hs
      refine PA.imp (pa_cons (soundE c G tk h.1) (soundEs cs G tk s2 h.2) (star_cons s1)) fun σ H Q ⟨μ, ρ, S, Y, r, re, f⟩ => ?_
      simp only [evs] at f
      exact tE_of r re f fun u S1 μ1 H1 v r1 re1 g1 ru f1 => tA_of r1 re1 f1 fun us S2 μ2 H2 vs r2 re2 g2 rus f2 => Nx.here f2 r2 _ (.cons (ru.mono g2) rus)
theorem soundB : ∀ (cs : CEs) {X : Cx} (_ : Good X T) {W : WX} (_ : Takes X W) (an : Bool) {es : List Expr} {pos : Pos}, matchEs X.N X.env.scope cs es = true → PE X (.BoolOp (if an then .And else .Or) es pos) (tE X.K X.mg W (evB T an cs))
  | .nil, X, G, W, tk, an, es, pos, h => PE.false fun σ H Q ⟨μ, ρ, S, Y, r, re, f⟩ => by simp only [evB] at f; exact f
  | .cons c .nil, X, G, W, tk, an, es, pos, h => by
    rcases es with _ | ⟨e, _ | ⟨e2, es⟩⟩ <;> simp only [matchEs, Bool.and_eq_true, List.isEmpty] at h <;> first | (cases h; done) | (cases h.2; done) | skip
    refine PE.imp (pe_one (soundE c G tk h.1)) fun σ H Q ⟨μ, ρ, S, Y, r, re, f⟩ => ⟨μ, ρ, S, Y, r, re, ?_⟩
    simp only [evB] at f
    exact f
  | .cons c (.cons c2 cs), X, G, W, tk, an, es, pos, h => by
    rcases es with _ | ⟨e, _ | ⟨e2, es⟩⟩
    · simp [matchEs] at h
    · simp [matchEs] at h
    · have h' : matchE X.N X.env.scope c e = true ∧ matchEs X.N X.env.scope (.cons c2 cs) (e2 :: es) = true := by
        rw [matchEs, Bool.and_eq_true] at h; exact h
      cases an with
      | true =>
        refine PE.imp (pe_and (soundE c G tk h'.1) (soundB (.cons c2 cs) G tk true h'.2)) fun σ H Q ⟨μ, ρ, S, Y, r, re, f⟩ => ?_
        rw [evB] at f
        rotate_left
        · exact fun z => by cases z
        exact tE_of r re f fun u S1 μ1 H1 v r1 re1 g1 ru f1 => by
          cases ru with
          | bl b =>
            refine ⟨b, rfl, ?_⟩
            cases b with
            | true => exact iteT ⟨μ1, ρ, S1, Y, r1, re1, f1⟩
            | false => exact iteF (Nx.here f1 r1 _ (.bl _))
          | _ => exact f1.elim
      | false =>
        refine PE.imp (pe_or (soundE c G tk h'.1) (soundB (.cons c2 cs) G tk false h'.2)) fun σ H Q ⟨μ, ρ, S, Y, r, re, f⟩ => ?_
        rw [evB] at f
        rotate_left
        · exact fun z => by cases z
        exact tE_of r re f fun u S1 μ1 H1 v r1 re1 g1 ru f1 => by
          cases ru with
          | bl b =>
            refine ⟨b, rfl, ?_⟩
            cases b with
            | true => exact iteT (Nx.here f1 r1 _ (.bl _))
            | false => exact iteF ⟨μ1, ρ, S1, Y, r1, re1, f1⟩
          | _ => exact f1.elim
theorem soundW : ∀ (cs : CEs) {X : Cx} (_ : Good X T) {W : WX} (_ : Takes X W) (an : Bool) {es : List Expr} {pos : Pos}, okTs cs es = true → matchEs X.N X.env.scope cs es = true → PW X (.BoolOp (if an then .And else .Or) es pos) (tT X.K X.mg W (evB T an cs))
  | .nil, X, G, W, tk, an, es, pos, ho, h => ⟨fun _ _ _ σ H Q _ ⟨μ, ρ, S, Y, r, re, f⟩ => by simp only [evB] at f; exact f.elim⟩
  | .cons c .nil, X, G, W, tk, an, es, pos, ho, h => by
    rcases es with _ | ⟨e, _ | ⟨e2, es⟩⟩ <;> simp only [matchEs, Bool.and_eq_true, List.isEmpty] at h <;> first | (cases h; done) | (cases h.2; done) | skip
    simp only [okTs, Bool.and_eq_true] at ho
    cases an with
    | true =>
      refine PW.imp (pw_and1 (soundT c G tk ho.1 h.1)) fun σ H Q ⟨μ, ρ, S, Y, r, re, f⟩ => ⟨μ, ρ, S, Y, r, re, ?_⟩
      simp only [evB] at f
      exact f
    | false =>
      refine PW.imp (pw_or1 (soundT c G tk ho.1 h.1)) fun σ H Q ⟨μ, ρ, S, Y, r, re, f⟩ => ⟨μ, ρ, S, Y, r, re, ?_⟩
      simp only [evB] at f
      exact f
  | .cons c (.cons c2 cs), X, G, W, tk, an, es, pos, ho, h => by
    rcases es with _ | ⟨e, _ | ⟨e2, es⟩⟩
    · simp [matchEs] at h
    · simp [matchEs] at h
    · have h' : matchE X.N X.env.scope c e = true ∧ matchEs X.N X.env.scope (.cons c2 cs) (e2 :: es) = true := by
        rw [matchEs, Bool.and_eq_true] at h; exact h
      have ho' : okT c e = true ∧ okTs (.cons c2 cs) (e2 :: es) = true := by
        rw [okTs, Bool.and_eq_true] at ho; exact ho
      cases an with
      | true =>
        refine PW.imp (pw_and (soundT c G tk ho'.1 h'.1) (soundW (.cons c2 cs) G tk true ho'.2 h'.2)) fun σ H Q ⟨μ, ρ, S, Y, r, re, f⟩ => ?_
        rw [evB] at f
        rotate_left
        · exact fun z => by cases z
        exact tT_of r re f fun u S1 μ1 H1 r1 re1 g1 f1 => by
          cases u with
          | bl b =>
            refine ⟨b, rfl, ?_⟩
            cases b with
            | true => exact iteT ⟨μ1, ρ, S1, Y, r1, re1, f1⟩
            | false =>
              obtain ⟨b', e1, q'⟩ := Nx.here f1 r1
              cases e1
              exact iteF q'
          | _ => exact f1.elim
      | false =>
        refine PW.imp (pw_or (soundT c G tk ho'.1 h'.1) (soundW (.cons c2 cs) G tk false ho'.2 h'.2)) fun σ H Q ⟨μ, ρ, S, Y, r, re, f⟩ => ?_
        rw [evB] at f
        rotate_left
        · exact fun z => by cases z
        exact tT_of r re f fun u S1 μ1 H1 r1 re1 g1 f1 => by
          cases u with
          | bl b =>
            refine ⟨b, rfl, ?_⟩
            cases b with
            | false => exact iteF ⟨μ1, ρ, S1, Y, r1, re1, f1⟩
            | true =>
              obtain ⟨b', e1, q'⟩ := Nx.here f1 r1
              cases e1
              exact iteT q'
          | _ => exact f1.elim
theorem soundO : ∀ (cs : CEs) {X : Cx} (_ : Good X T) {W : WX} (_ : Takes X W) {o : Option Expr}, matchO X.N X.env.scope cs o = true → PO X o (tO X.K X.mg W (evO T cs))
  | .nil, X, G, W, tk, o, h => by
    cases o with
    | some _ => simp [matchO] at h
    | none => exact PO.imp po_none fun σ H Q ⟨μ, ρ, S, Y, r, re, f⟩ => Nx.here f r
  | .cons c cs, X, G, W, tk, o, h => by
    cases o with
    | none => simp [matchO] at h
    | some e =>
      simp only [matchO] at h
      refine PO.imp (po_some (soundE c G tk h)) fun σ H Q ⟨μ, ρ, S, Y, r, re, f⟩ => ?_
      simp only [evO] at f
      exact tE_of r re f fun u S1 μ1 H1 v r1 re1 g1 ru f1 => by
        cases ru with
        | int i => exact ⟨i, rfl, Nx.here f1 r1⟩
        | _ => exact f1.elim
theorem soundN : ∀ (c : CN) {X : Cx} (_ : Good X T) {W : WX} (_ : Takes X W) {e : Expr}, matchN X.N X.env.scope c e = true → PE X e (tN X.K X.mg W (evN T c))
  | .lst as, X, G, W, tk, e, h => by
    simp only [matchN] at h
    cases q : asLst e with
    | none => rw [q] at h; cases h
    | some es =>
      rw [q] at h
      simp only [Bool.and_eq_true] at h
      obtain ⟨pos, rfl⟩ := asLst_ok q
      refine PE.imp (pe_lst (soundEs as G tk h.1 h.2)) fun σ H Q ⟨μ, ρ, S, Y, r, re, f⟩ => ?_
      simp only [evN] at f
      refine ⟨μ, ρ, S, Y, r, re, (f.bind Gr.refl).imp fun us S1 μ1 H1 g1 r1 f1 vs rus => ?_⟩
      by_cases hz : us.length ≤ sizeLine
      · rw [if_pos hz] at f1
        exact ⟨by rw [← rus.length]; exact hz, fun p hp => FinN.lay r1 g1 r f1 rus hp⟩
      · rw [if_neg hz] at f1; exact f1.elim
  | .listOf a, X, G, W, tk, e, h => by
    simp only [matchN] at h
    cases q : asCall e with
    | none => rw [q] at h; cases h
    | some z =>
      obtain ⟨g, es⟩ := z
      rw [q] at h
      rcases es with _ | ⟨p, _ | ⟨q', es⟩⟩ <;> first | (cases h; done) | skip
      simp only [Bool.and_eq_true, decide_eq_true_eq] at h
      obtain ⟨p0, pos, rfl⟩ := asCall_ok q
      obtain ⟨⟨rfl, hg⟩, hs, ha⟩ := h
      obtain ⟨h1, h2⟩ := glB_ok hg
      refine PE.imp (pe_callTy call_list_of h1 (G.free _ (by decide +kernel)) PyProof.Rows.boot_list (pa_cons (soundE a G tk ha) pa_nil (star_cons hs)) (by decide +kernel) h2 (star_cons hs) (by rfl)) fun σ H Q ⟨μ, ρ, S, Y, r, re, f⟩ => ?_
      simp only [evN] at f
      refine ⟨μ, ρ, S, Y, r, re, (f.bind Gr.refl).imp fun u S1 μ1 H1 g1 r1 f1 v ru => ?_⟩
      obtain ⟨us, e1, k⟩ := f1.ofO
      obtain ⟨a', vs, rfl, e2, e3⟩ := seqOf_sq r1 ru e1
      exact ⟨a', vs, rfl, e2, fun p hp => FinN.lay r1 g1 r k e3 hp⟩
  | .cat a b, X, G, W, tk, e, h => by
    simp only [matchN] at h
    cases q : asBin e with
    | none => rw [q] at h; cases h
    | some z =>
      obtain ⟨op, p, q'⟩ := z
      rw [q] at h
      simp only [Bool.and_eq_true, decide_eq_true_eq] at h
      obtain ⟨pos, rfl⟩ := asBin_ok q
      obtain ⟨rfl, ha, hb⟩ := h
      refine PE.imp (pe_op op_cat (soundE a G tk ha) (soundE b G tk hb)) fun σ H Q ⟨μ, ρ, S, Y, r, re, f⟩ => ?_
      simp only [evN] at f
      refine ⟨μ, ρ, S, Y, r, re, (f.bind Gr.refl).imp fun u S1 μ1 H1 g1 r1 f1 v ru => ?_⟩
      refine ⟨μ1, ρ, S1, Y, r1, re.mono g1, (f1.bind g1).imp fun w S2 μ2 H2 g2 r2 f2 y rw' => ?_⟩
      cases q1 : lstH S2 u with
      | none => rw [q1] at f2; exact f2.elim
      | some xs =>
        cases q2 : lstH S2 w with
        | none => rw [q1, q2] at f2; exact f2.elim
        | some ys =>
          rw [q1, q2] at f2
          obtain ⟨l, vs, rfl, k1, k2⟩ := lstH_sq r2 (ru.mono g2) q1
          obtain ⟨l', ws, rfl, k3, k4⟩ := lstH_sq r2 rw' q2
          by_cases hz : xs.length + ys.length ≤ sizeLine
          · simp only [if_pos hz] at f2
            exact ⟨l, l', vs, ws, rfl, rfl, k1, k3, by rw [← k2.length, ← k4.length]; exact hz, fun p hp => FinN.lay r2 (g1.trans g2 r2.inj) r f2 (k2.append k4) hp⟩
          · simp only [if_neg hz] at f2
            exact f2.elim
  | .lc tg it cnd elt own, X, G, W, tk, e, h => by
    simp only [matchN] at h
    cases q : asLc e with
    | none => rw [q] at h; cases h
    | some z =>
      obtain ⟨x, tg', it', ifs, s2⟩ := z
      rw [q] at h
      simp only [Bool.and_eq_true, decide_eq_true_eq] at h
      obtain ⟨pos, rfl⟩ := asLc_ok q
      obtain ⟨⟨⟨⟨hb, hsl⟩, ht⟩, hset⟩, ⟨hi, ⟨hc, hl⟩, hk⟩, he⟩ := h
      obtain ⟨wi, g, tt, te, h1, h2, h3, h4, h5, h6, h7⟩ := lcOk (cnd := cnd) (it := it) (elt := elt) G tk hb hsl ht hset hl (soundI it G tk hi)
        (fun s H C cl fp => soundE elt (G.blk s H s2 (compEnvC s2 cl C X.env) fp) takes0 (e := x) he)
        (fun c cs e1 hcc he1 s H C cl fp => by
          subst hcc
          subst he1
          simp only [matchEs, Bool.and_eq_true] at hc
          simp only [okTs, Bool.and_eq_true] at hk
          exact soundT c (G.blk s H s2 (compEnvC s2 cl C X.env) fp) takes0 (e := e1) hk.1 hc.1)
        (fun hn => by
          subst hn
          cases ifs with
          | nil => rfl
          | cons _ _ => simp [matchEs] at hc)
        (fun c cs hcc hn => by
          subst hcc
          subst hn
          simp [matchEs] at hc)
      exact PE.imp (pe_lc G.calm G.nd h1 h2 h3 h4 h5 h6) h7
theorem soundI : ∀ (c : CI) {X : Cx} (_ : Good X T) {W : WX} (_ : Takes X W) {tg e : Expr}, matchI X.N X.env.scope c tg e = true → PI X tg e (tI X.K X.mg W (evI T c))
  | .seq a, X, G, W, tk, tg, e, h => by
    simp only [matchI] at h
    refine PI.imp (PI.or (pi_list (soundE a G tk h)) (pi_tup (soundE a G tk h))) fun σ H R ⟨μ, ρ, S, Y, r, re, f⟩ => ?_
    simp only [evI] at f
    have lf : (∀ u S1, ev T a ρ S = .ok u S1 → tupOf u = none) → iList X.K (tE X.K X.mg W (ev T a)) σ H R := fun hu => ⟨μ, ρ, S, Y, r, re, by
      cases z : ev T a ρ S with
      | ok u S1 =>
        rw [z] at f
        intro μ1 H1 g1 r1 v ru
        replace f : Fin X.K X.mg W σ μ S Y H (if (seqOf S1 u).isSome then Res.ok (Src.seq u) S1 else .no) _ := f
        have hu' := hu u S1 z
        rw [seqOf_lst hu'] at f
        cases q : lstOf S1 u with
        | none => rw [q] at f; exact f.elim
        | some us =>
          rw [q] at f
          obtain ⟨a', vs, rfl, e2, e3⟩ := lstOf_sq r1 ru q
          exact ⟨a', rfl, ⟨vs, e2⟩, f μ1 H1 g1 r1 _ (.lst ru hu')⟩
      | ex _ _ => rw [z] at f; exact f
      | no => rw [z] at f; exact f⟩
    cases z : ev T a ρ S with
    | ok u S1 =>
      cases q : tupOf u with
      | none => exact .inl (lf fun u' S' e' => by rw [z] at e'; cases e'; exact q)
      | some us =>
        right
        refine ⟨μ, ρ, S, Y, r, re, ?_⟩
        rw [z] at f ⊢
        intro μ1 H1 g1 r1 v ru
        cases u <;> first | (cases q; done) | skip
        obtain ⟨a', vs, rfl, e2, e3⟩ := tup_sq ru
        exact ⟨a', rfl, ⟨vs, e2⟩, f μ1 H1 g1 r1 _ (.tup ru)⟩
    | ex _ _ => exact .inl (lf fun u' S' e' => by rw [z] at e'; cases e')
    | no => exact .inl (lf fun u' S' e' => by rw [z] at e'; cases e')
  | .rng1 a, X, G, W, tk, tg, e, h => by
    simp only [matchI] at h
    cases q : asCall e with
    | none => rw [q] at h; cases h
    | some z =>
      obtain ⟨g, es⟩ := z
      rw [q] at h
      rcases es with _ | ⟨p, _ | ⟨q', es⟩⟩ <;> first | (cases h; done) | skip
      simp only [Bool.and_eq_true, decide_eq_true_eq] at h
      obtain ⟨p0, pos, rfl⟩ := asCall_ok q
      obtain ⟨⟨rfl, hg⟩, hs, ha⟩ := h
      obtain ⟨h1, h2⟩ := glB_ok hg
      refine PI.imp (pi_range1 h1 (G.free _ (by decide +kernel)) (pa_cons (soundE a G tk ha) pa_nil (star_cons hs)) (star_cons hs)) fun σ H R ⟨μ, ρ, S, Y, r, re, f⟩ => ?_
      simp only [evI] at f
      exact tE_of r re f fun u S1 μ1 H1 v r1 re1 g1 ru f1 => by
        cases ru with
        | int j =>
          replace f1 : Fin X.K X.mg W σ μ1 S1 Y H1 (if -(2 ^ 62) ≤ j ∧ j < 2 ^ 62 then Res.ok (Src.rng 0 j.toNat) S1 else .no) _ := f1
          by_cases hz : -(2 ^ 62) ≤ j ∧ j < 2 ^ 62
          · rw [if_pos hz] at f1
            exact ⟨j, rfl, hz.1, hz.2, Nx.here f1 r1 _ .rng⟩
          · rw [if_neg hz] at f1; exact f1.elim
        | _ => exact f1.elim
  | .rng2 a b, X, G, W, tk, tg, e, h => by
    simp only [matchI] at h
    cases q : asCall e with
    | none => rw [q] at h; cases h
    | some z =>
      obtain ⟨g, es⟩ := z
      rw [q] at h
      rcases es with _ | ⟨p, _ | ⟨q', _ | ⟨q2, es⟩⟩⟩ <;> first | (cases h; done) | skip
      simp only [Bool.and_eq_true, decide_eq_true_eq] at h
      obtain ⟨p0, pos, rfl⟩ := asCall_ok q
      obtain ⟨⟨rfl, hg⟩, ⟨hs1, hs2⟩, ha, hb⟩ := h
      obtain ⟨h1, h2⟩ := glB_ok hg
      refine PI.imp (pi_range2 h1 (G.free _ (by decide +kernel)) (pa_cons (soundE a G tk ha) (pa_cons (soundE b G tk hb) pa_nil (star_cons hs2)) (star_cons hs1)) (by rw [star_cons hs1, star_cons hs2]; rfl) (by rw [star_cons hs2]; rfl)) fun σ H R ⟨μ, ρ, S, Y, r, re, f⟩ => ?_
      simp only [evI] at f
      exact tE_of r re f fun u S1 μ1 H1 v r1 re1 g1 ru f1 => tE_of r1 re1 f1 fun w S2 μ2 H2 y r2 re2 g2 rw' f2 => by
        cases ru with
        | int i =>
          cases rw' with
          | int j =>
            replace f2 : Fin X.K X.mg W σ μ2 S2 Y H2 (if -(2 ^ 62) ≤ i ∧ i < 2 ^ 62 ∧ -(2 ^ 62) ≤ j ∧ j < 2 ^ 62 then Res.ok (Src.rng i (j - i).toNat) S2 else .no) _ := f2
            by_cases hz : -(2 ^ 62) ≤ i ∧ i < 2 ^ 62 ∧ -(2 ^ 62) ≤ j ∧ j < 2 ^ 62
            · rw [if_pos hz] at f2
              exact ⟨i, j, rfl, hz, Nx.here f2 r2 _ .rng⟩
            · rw [if_neg hz] at f2; exact f2.elim
          | _ => exact f2.elim
        | _ => exact f2.elim
  | .enum a, X, G, W, tk, tg, e, h => by
    simp only [matchI] at h
    cases q : asCall e with
    | none => rw [q] at h; cases h
    | some z =>
      obtain ⟨g, es⟩ := z
      rw [q] at h
      rcases es with _ | ⟨p, _ | ⟨q', es⟩⟩ <;> first | (cases h; done) | skip
      simp only [Bool.and_eq_true, decide_eq_true_eq] at h
      obtain ⟨p0, pos, rfl⟩ := asCall_ok q
      obtain ⟨⟨⟨rfl, hg⟩, htg⟩, hs, ha⟩ := h
      obtain ⟨h1, h2⟩ := glB_ok hg
      obtain ⟨ts, hts⟩ := Option.isSome_iff_exists.mp htg
      obtain ⟨k, tpos, rfl⟩ := asTup_ok hts
      have pa : PA X [p] _ := pa_cons (soundE a G tk ha) pa_nil (star_cons hs)
      refine PI.imp (PI.or (pi_enum h1 (G.free _ (by decide +kernel)) pa (star_cons hs)) (ZS.pi_enT h1 (G.free _ (by decide +kernel)) pa (star_cons hs))) fun σ H R ⟨μ, ρ, S, Y, r, re, f⟩ => ?_
      simp only [evI] at f
      by_cases hu : ∃ us S1, ev T a ρ S = .ok (.tup us) S1
      · obtain ⟨us, S1, hu⟩ := hu
        right
        refine ⟨μ, ρ, S, Y, r, re, ?_⟩
        rw [hu] at f ⊢
        intro μ1 H1 g1 r1 v ru
        obtain ⟨a', vs, rfl, e2, e3⟩ := tup_sq ru
        exact ⟨a', vs, rfl, e2, f μ1 H1 g1 r1 _ (.enumT ru)⟩
      · left
        refine ⟨μ, ρ, S, Y, r, re, ?_⟩
        cases z : ev T a ρ S with
        | ok u S1 =>
          rw [z] at f
          intro μ1 H1 g1 r1 v ru
          replace f : Fin X.K X.mg W σ μ S Y H (if (seqOf S1 u).isSome then Res.ok (Src.enum u) S1 else .no) _ := f
          have hu' : tupOf u = none := by
            cases u <;> first | rfl | exact absurd ⟨_, _, z⟩ hu
          rw [seqOf_lst hu'] at f
          cases q : lstOf S1 u with
          | none => rw [q] at f; exact f.elim
          | some us =>
            rw [q] at f
            obtain ⟨a', vs, rfl, e2, e3⟩ := lstOf_sq r1 ru q
            exact ⟨a', vs, rfl, e2, f μ1 H1 g1 r1 _ (.enum ru hu')⟩
        | ex _ _ => rw [z] at f; exact f
        | no => rw [z] at f; exact f
  | .zip true a b, X, G, W, tk, tg, e, h => by
    simp only [matchI] at h
    cases q : asZipS e with
    | none => rw [q] at h; cases h
    | some z =>
      obtain ⟨p, q'⟩ := z
      rw [q] at h
      simp only [Bool.and_eq_true] at h
      obtain ⟨p1, j, cp, kp, pos, rfl⟩ := asZipS_ok q
      obtain ⟨⟨hg, htg⟩, ⟨hs1, hs2⟩, ha, hb⟩ := h
      obtain ⟨h1, h2⟩ := glB_ok hg
      obtain ⟨ts, hts⟩ := Option.isSome_iff_exists.mp htg
      obtain ⟨k, tpos, rfl⟩ := asTup_ok hts
      refine PI.imp (ZS.pi_zipS h1 (G.free _ (by decide +kernel)) (pa_cons (soundE a G tk ha) (pa_cons (soundE b G tk hb) pa_nil (star_cons hs2)) (star_cons hs1)) (star_cons hs1) (by rw [star_cons hs2]; rfl)) fun σ H R ⟨μ, ρ, S, Y, r, re, f⟩ => ?_
      simp only [evI] at f
      exact tE_of r re f fun u S1 μ1 H1 v r1 re1 g1 ru f1 => tE_of r1 re1 f1 fun w S2 μ2 H2 y r2 re2 g2 rw' f2 => by
        simp only [if_true, decide_eq_true_eq] at f2
        by_cases hz : (tupOf u).isSome = true ∧ (tupOf u).map List.length = (tupOf w).map List.length
        · rw [if_pos hz] at f2
          have ru2 := ru.mono g2
          obtain ⟨z1, z2⟩ := hz
          cases u <;> first | (cases z1; done) | skip
          cases w <;> first | (cases z2; done) | skip
          obtain ⟨a', vs, rfl, e2, e3⟩ := tup_sq ru2
          obtain ⟨b', vs2, rfl, e4, e5⟩ := tup_sq rw'
          exact ⟨a', b', vs, vs2, rfl, e2, e4, Nx.here f2 r2 _ (.zipS ru2 rw')⟩
        · rw [if_neg hz] at f2; exact f2.elim
  | .zip false a b, X, G, W, tk, tg, e, h => by
    simp only [matchI] at h
    cases q : asCall e with
    | none => rw [q] at h; cases h
    | some z =>
      obtain ⟨g, es⟩ := z
      rw [q] at h
      rcases es with _ | ⟨p, _ | ⟨q', _ | ⟨q2, es⟩⟩⟩ <;> first | (cases h; done) | skip
      simp only [Bool.and_eq_true, decide_eq_true_eq, Bool.not_eq_true'] at h
      obtain ⟨p0, pos, rfl⟩ := asCall_ok q
      obtain ⟨⟨⟨rfl, hg⟩, htg⟩, ⟨hs1, hs2⟩, ha, hb⟩ := h
      obtain ⟨h1, h2⟩ := glB_ok hg
      obtain ⟨ts, hts⟩ := Option.isSome_iff_exists.mp htg
      obtain ⟨k, tpos, rfl⟩ := asTup_ok hts
      refine PI.imp (pi_zipA h1 (G.free _ (by decide +kernel)) (pa_cons (soundE a G tk ha) (pa_cons (soundE b G tk hb) pa_nil (star_cons hs2)) (star_cons hs1)) (star_cons hs1) (by rw [star_cons hs2]; rfl)) fun σ H R ⟨μ, ρ, S, Y, r, re, f⟩ => ?_
      simp only [evI] at f
      exact tE_of r re f fun u S1 μ1 H1 v r1 re1 g1 ru f1 => tE_of r1 re1 f1 fun w S2 μ2 H2 y r2 re2 g2 rw' f2 => by
        simp only [Bool.false_eq_true, if_false] at f2
        by_cases hz : (((lstOf S2 u).isSome && (lstOf S2 w).isSome) || ((tupOf u).isSome && (tupOf w).isSome)) = true
        · rw [if_pos hz] at f2
          have ru2 := ru.mono g2
          rw [Bool.or_eq_true, Bool.and_eq_true, Bool.and_eq_true] at hz
          rcases hz with ⟨z1, z2⟩ | ⟨z1, z2⟩
          · obtain ⟨us, z1⟩ := Option.isSome_iff_exists.mp z1
            obtain ⟨ws, z2⟩ := Option.isSome_iff_exists.mp z2
            obtain ⟨a', vs, rfl, e2, e3⟩ := lstOf_sq r2 ru2 z1
            obtain ⟨b', vs2, rfl, e4, e5⟩ := lstOf_sq r2 rw' z2
            exact ⟨a', b', vs, vs2, rfl, .inl ⟨e2, e4, Nx.here f2 r2 _ (.zipL ru2 (by cases u <;> first | rfl | cases z1) rw' (by cases w <;> first | rfl | cases z2))⟩⟩
          · cases u <;> first | (cases z1; done) | skip
            cases w <;> first | (cases z2; done) | skip
            obtain ⟨a', vs, rfl, e2, e3⟩ := tup_sq ru2
            obtain ⟨b', vs2, rfl, e4, e5⟩ := tup_sq rw'
            exact ⟨a', b', vs, vs2, rfl, .inr ⟨e2, e4, Nx.here f2 r2 _ (.zipT ru2 rw')⟩⟩
        · rw [if_neg hz] at f2; exact f2.elim
end
end
end Z

set_option Elab.async false
set_option linter.all false
set_option maxRecDepth 100000
set_option maxHeartbeats 1600000
/-! Z10: statements in short, what they come to. -/
namespace Z
open PySem PySem.Spec PyProof.Rows L2 RZ
mutual
inductive CS where
  | asg (t : CT) (e : CE) | par (i j : Nat) (a b : CE) | setI (o i e : CE) | app (o e : CE)
  | expr (e : CE) | ret (e : CE) | ret0 | ite (t : CE) (a b : CSs) | for_ (t : CT) (it : CI) (b : CSs) | whl (t : CE) (b : CSs) | brk | cnt | pass | nope | tryT (b : CSs)
inductive CSs where
  | nil | cons (s : CS) (ss : CSs)
end
/-- where a statement ends -/
inductive SR where
  | nx (ρ : Rho) (S : Sto) | rt (u : U) (S : Sto) | bk (ρ : Rho) (S : Sto) | ct (ρ : Rho) (S : Sto) | ex (x : Xn) (ρ : Rho) (S : Sto) | no
def Res.toS {α : Type} (r : Res α) (ρ : Rho) (k : α → Sto → SR) : SR := match r with
  | .ok a S => k a S
  | .ex x S => .ex x ρ S
  | .no => .no
def SR.andThen (r : SR) (k : Rho → Sto → SR) : SR := match r with
  | .nx ρ S => k ρ S
  | r => r
def forGo (src : Src) (t : CT) (body : Rho → Sto → SR) : Nat → Nat → Rho → Sto → SR
  | n, i, ρ, S => match src.at_ S i with
    | none => .no
    | some none => .nx ρ S
    | some (some x) => match n with
      | 0 => .no
      | n + 1 => match asgT t x ρ with
        | none => .no
        | some ρ' => match body ρ' S with
          | .nx ρ2 S2 => forGo src t body n (i + 1) ρ2 S2
          | .ct ρ2 S2 => forGo src t body n (i + 1) ρ2 S2
          | .bk ρ2 S2 => .nx ρ2 S2
          | r => r
def whGo (test : Rho → Sto → Res U) (body : Rho → Sto → SR) : Nat → Rho → Sto → SR
  | n, ρ, S => (test ρ S).toS ρ fun u S1 => match u with
    | .bl false => .nx ρ S1
    | .bl true => match n with
      | 0 => .no
      | n + 1 => match body ρ S1 with
        | .nx ρ2 S2 => whGo test body n ρ2 S2
        | .ct ρ2 S2 => whGo test body n ρ2 S2
        | .bk ρ2 S2 => .nx ρ2 S2
        | r => r
    | _ => .no
section
variable (T : Th) (F : Nat)
mutual
def evS : CS → Rho → Sto → SR
  | .asg t e, ρ, S => (ev T e ρ S).toS ρ fun u S1 => match asgT t u ρ with
    | some ρ' => .nx ρ' S1
    | none => .no
  | .par i j a b, ρ, S => (ev T a ρ S).toS ρ fun u S1 => (ev T b ρ S1).toS ρ fun w S2 => .nx ((ρ.set i (some u)).set j (some w)) S2
  | .setI o i e, ρ, S => (ev T e ρ S).toS ρ fun w S1 => (ev T o ρ S1).toS ρ fun u S2 => (ev T i ρ S2).toS ρ fun z S3 => match u, z with
    | .obj k, .int n => match S3[k]? with
      | some (.lst us) => match ixN us.length n with
        | some j => .nx ρ (S3.set k (.lst (us.set j w)))
        | none => .no
      | _ => .no
    | _, _ => .no
  | .app o e, ρ, S => (ev T o ρ S).toS ρ fun u S1 => if (lstOf S1 u).isSome = true then (ev T e ρ S1).toS ρ fun w S2 => match u with
    | .obj k => match S2[k]? with
      | some (.lst us) => if us.length < sizeLine then .nx ρ (S2.set k (.lst (us ++ [w]))) else .no
      | _ => .no
    | _ => .no
    else .no
  | .expr e, ρ, S => (ev T e ρ S).toS ρ fun _ S1 => .nx ρ S1
  | .ret e, ρ, S => (ev T e ρ S).toS ρ fun u S1 => .rt u S1
  | .ret0, _, S => .rt .non S
  | .ite t a b, ρ, S => (ev T t ρ S).toS ρ fun u S1 => match u with
    | .bl true => evSs a ρ S1
    | .bl false => evSs b ρ S1
    | _ => .no
  | .for_ t it b, ρ, S => (evI T it ρ S).toS ρ fun src S1 => forGo src t (evSs b) (src.len S1) 0 ρ S1
  | .whl t b, ρ, S => whGo (ev T t) (evSs b) F ρ S
  | .brk, ρ, S => .bk ρ S
  | .cnt, ρ, S => .ct ρ S
  | .pass, ρ, S => .nx ρ S
  | .nope, _, _ => .no
  | .tryT b, ρ, S => match evSs b ρ S with
    | .ex _ _ _ => .no
    | r => r
def evSs : CSs → Rho → Sto → SR
  | .nil, ρ, S => .nx ρ S
  | .cons s ss, ρ, S => (evS s ρ S).andThen (evSs ss)
end
end
section
variable {K : PySem.W.Frag} {mg : Str → Option Value} {Y : List Addr} {μ μ' μ1 : Nat → Addr} {n n' n1 : Nat} {H H' H1 : Hp} {S S1 S' : Sto} {α β : Type} {W : WX} {σ : L2.St}
def FinS (K : PySem.W.Frag) (mg : Str → Option Value) (W : WX) (D : Ends) (μ : Nat → Addr) (S : Sto) (Y : List Addr) (H : Hp) : SR → Prop
  | .nx ρ S' => Nx K mg μ S Y H S' fun μ' H' => ∀ σ', RE K mg μ' S'.length Y H' ρ σ' → D.nx σ' H'
  | .bk ρ S' => Nx K mg μ S Y H S' fun μ' H' => ∀ σ', RE K mg μ' S'.length Y H' ρ σ' → D.bk σ' H'
  | .ct ρ S' => Nx K mg μ S Y H S' fun μ' H' => ∀ σ', RE K mg μ' S'.length Y H' ρ σ' → D.ct σ' H'
  | .rt u S' => Nx K mg μ S Y H S' fun μ' H' => ∀ v, RU K mg μ' S'.length Y H' u v → D.rt v H'
  | .ex x ρ S' => Nx K mg μ S Y H S' fun μ' H' => ∀ σ' cls d, RE K mg μ' S'.length Y H' ρ σ' → RX K mg μ' S'.length Y H' x cls d → W cls d σ' H'
  | .no => False
theorem FinS.shift {D : Ends} {r : SR} (x : FinS K mg W D μ S Y H r) (g : Gr μ S.length H μ1 S1.length H1) : FinS K mg W D μ1 S1 Y H1 r := by
  cases r <;> first | exact Nx.shift x g | exact x
theorem FinS.toS {D : Ends} {r : Res α} {ρ : Rho} {k : α → Sto → SR} (re : RE K mg μ S.length Y H ρ σ) (x : FinS K mg W D μ S Y H (r.toS ρ k)) : Fin K mg W σ μ S Y H r fun a S1 μ1 H1 => FinS K mg W D μ1 S1 Y H1 (k a S1) := by
  cases r with
  | ok a S1 => exact fun μ1 H1 g _ => FinS.shift (show FinS K mg W D μ S Y H (k a S1) from x) g
  | ex e S' => exact fun μ' H' g r cls d z => x μ' H' g r σ cls d (re.mono g) z
  | no => exact x
/-- the reading of statements -/
def tS (K : PySem.W.Frag) (mg : Str → Option Value) (W : WX) (f : Rho → Sto → SR) : TS := fun D σ H => ∃ μ ρ S Y, RS K mg μ S Y H ∧ RE K mg μ S.length Y H ρ σ ∧ FinS K mg W D μ S Y H (f ρ S)
theorem sE_of {D : Ends} {f : Rho → Sto → Res U} {k : U → Sto → SR} {ρ : Rho} {Q : VK} (r : RS K mg μ S Y H) (e : RE K mg μ S.length Y H ρ σ) (x : FinS K mg W D μ S Y H ((f ρ S).toS ρ k))
    (h : ∀ u S1 μ1 H1 v, RS K mg μ1 S1 Y H1 → RE K mg μ1 S1.length Y H1 ρ σ → Gr μ S.length H μ1 S1.length H1 → RU K mg μ1 S1.length Y H1 u v → FinS K mg W D μ1 S1 Y H1 (k u S1) → Q v H1) : tE K mg W f σ H Q :=
  ⟨μ, ρ, S, Y, r, e, (FinS.toS e x).imp fun u S1 μ1 H1 g r1 y v ru => h u S1 μ1 H1 v r1 (e.mono g) g ru y⟩
theorem sT_of {D : Ends} {f : Rho → Sto → Res U} {k : U → Sto → SR} {ρ : Rho} {Q : Bool → Hp → Prop} (r : RS K mg μ S Y H) (e : RE K mg μ S.length Y H ρ σ) (x : FinS K mg W D μ S Y H ((f ρ S).toS ρ k))
    (h : ∀ u S1 μ1 H1, RS K mg μ1 S1 Y H1 → RE K mg μ1 S1.length Y H1 ρ σ → Gr μ S.length H μ1 S1.length H1 → FinS K mg W D μ1 S1 Y H1 (k u S1) → ∃ b, u = .bl b ∧ Q b H1) : tT K mg W f σ H Q :=
  ⟨μ, ρ, S, Y, r, e, (FinS.toS e x).imp fun u S1 μ1 H1 g r1 y => h u S1 μ1 H1 r1 (e.mono g) g y⟩
end
/-! ### the text beside its short form -/
def isTup : Expr → Bool
  | .Tuple .. => true
  | _ => false
def isTL : Expr → Bool
  | .Tuple .. => true
  | .List .. => true
  | _ => false
def notComp : Expr → Bool
  | .ListComp .. | .SetComp .. | .DictComp .. => false
  | _ => true
theorem sw_none {tg e : Expr} {env : Env} (h : (isTL tg && isTup e) = false) : swappedStores [tg] e env = pure none := by
  cases tg <;> first | rfl | (cases e <;> first | rfl | (simp [isTL, isTup] at h))
theorem sole_false {tg e : Expr} {n : Nat} {env : Env} (h : notComp e = true) : swapsWithSole [tg] e n env = pure false := by
  cases e <;> first | rfl | cases h
theorem swith_false {e : Expr} {t : Option Expr} {n : Nat} {env : Env} (h : notComp e = true) : swapsWith e t n env = pure false := by
  cases e <;> first | rfl | cases h
theorem sw_folded {ts vs : List Expr} {env : Env} {k k2 : Nat} {p p2 : Pos} (h : vs.all (foldedForSure 8) = true) : swappedStores [.Tuple ts k p] (.Tuple vs k2 p2) env = pure none := by
  unfold swappedStores
  simp only [h, if_true]
  repeat (first | rfl | split)
end Z

set_option Elab.async false
set_option linter.all false
set_option maxRecDepth 100000
set_option maxHeartbeats 3200000
/-! Z11: what statements in short come to is what the text does. -/
namespace Z
open PySem PySem.Spec PyProof.Rows L2 RZ
-- views
def asAsg : Stmt → Option (Expr × Expr × Pos)
  | .Assign [tg] v pos => some (tg, v, pos)
  | _ => none
def asSt : Stmt → Option Expr
  | .Expr v _ => some v
  | _ => none
def asRet : Stmt → Option (Option Expr)
  | .Return o _ => some o
  | _ => none
def asIfS : Stmt → Option (Expr × List Stmt × List Stmt)
  | .If c a b _ => some (c, a, b)
  | _ => none
def asFor : Stmt → Option (Expr × Expr × List Stmt)
  | .For tg it b [] _ => some (tg, it, b)
  | _ => none
def asWh : Stmt → Option (Expr × List Stmt)
  | .While c b [] _ => some (c, b)
  | _ => none
def isBrk : Stmt → Bool
  | .Break _ => true
  | _ => false
def isCnt : Stmt → Bool
  | .Continue _ => true
  | _ => false
def isPass : Stmt → Bool
  | .Pass _ => true
  | _ => false
theorem asAsg_ok {s : Stmt} {tg v : Expr} {pos : Pos} (h : asAsg s = some (tg, v, pos)) : s = .Assign [tg] v pos := by
  unfold asAsg at h; split at h <;> simp at h; obtain ⟨rfl, rfl, rfl⟩ := h; rfl
theorem asSt_ok {s : Stmt} {v : Expr} (h : asSt s = some v) : ∃ pos, s = .Expr v pos := by cases s <;> simp [asSt] at h; subst h; exact ⟨_, rfl⟩
theorem asRet_ok {s : Stmt} {o : Option Expr} (h : asRet s = some o) : ∃ pos, s = .Return o pos := by cases s <;> simp [asRet] at h; subst h; exact ⟨_, rfl⟩
theorem asIfS_ok {s : Stmt} {c : Expr} {a b : List Stmt} (h : asIfS s = some (c, a, b)) : ∃ pos, s = .If c a b pos := by cases s <;> simp [asIfS] at h; obtain ⟨rfl, rfl, rfl⟩ := h; exact ⟨_, rfl⟩
theorem asFor_ok {s : Stmt} {tg it : Expr} {b : List Stmt} (h : asFor s = some (tg, it, b)) : ∃ pos, s = .For tg it b [] pos := by
  unfold asFor at h; split at h <;> simp at h; obtain ⟨rfl, rfl, rfl⟩ := h; exact ⟨_, rfl⟩
theorem asWh_ok {s : Stmt} {c : Expr} {b : List Stmt} (h : asWh s = some (c, b)) : ∃ pos, s = .While c b [] pos := by
  unfold asWh at h; split at h <;> simp at h; obtain ⟨rfl, rfl⟩ := h; exact ⟨_, rfl⟩
def asTry : Stmt → Option (List Stmt)
  | .Try b (_ :: _) [] [] _ => some b
  | _ => none
theorem asTry_ok {s : Stmt} {b : List Stmt} (h : asTry s = some b) : ∃ h0 hs pos, s = .Try b (h0 :: hs) [] [] pos := by
  unfold asTry at h; split at h <;> simp at h; subst h; exact ⟨_, _, _, rfl⟩
theorem isBrk_ok {s : Stmt} (h : isBrk s = true) : ∃ pos, s = .Break pos := by cases s <;> simp [isBrk] at h; exact ⟨_, rfl⟩
theorem isCnt_ok {s : Stmt} (h : isCnt s = true) : ∃ pos, s = .Continue pos := by cases s <;> simp [isCnt] at h; exact ⟨_, rfl⟩
theorem isPass_ok {s : Stmt} (h : isPass s = true) : ∃ pos, s = .Pass pos := by cases s <;> simp [isPass] at h; exact ⟨_, rfl⟩
def foldAll : Expr → Bool
  | .Tuple vs _ _ => vs.all (foldedForSure 8)
  | _ => false
def isTuple : Expr → Bool
  | .Tuple .. => true
  | _ => false
/-- an assignment of one target that goes the plain way -/
def asgB (tg v : Expr) : Bool := notComp v && (!(isTL tg && isTup v) || (isTuple tg && foldAll v))
theorem asgB_ok {tg v : Expr} {env : Env} (h : asgB tg v = true) : (∀ n, swapsWithSole [tg] v n env = pure false) ∧ swappedStores [tg] v env = pure none := by
  unfold asgB at h
  rw [Bool.and_eq_true, Bool.or_eq_true, Bool.and_eq_true] at h
  refine ⟨fun n => sole_false h.1, ?_⟩
  rcases h.2 with q | ⟨q1, q2⟩
  · exact sw_none (by cases h1 : isTL tg <;> cases h2 : isTup v <;> simp_all)
  · cases tg <;> first | (cases q1; done) | skip
    cases v <;> first | (cases q2; done) | skip
    exact sw_folded q2
-- name = [..] on one line, the name a local
def nmOf : Expr → Option (Str × Pos)
  | .Name y p => some (y, p)
  | _ => none
theorem nmOf_ok {e : Expr} {y : Str} {p : Pos} (h : nmOf e = some (y, p)) : e = .Name y p := by cases e <;> simp [nmOf] at h; obtain ⟨rfl, rfl⟩ := h; rfl
def posOf : Expr → Pos
  | .ListComp _ _ _ p => p
  | _ => ⟨0, 0, 0, 0⟩
def swB (sc s2 : Scope) (y : Str) (p q : Pos) : Bool := (sc.kind == .function) && (sc.names.lookup y == some .local) && (p.line == q.line) && !(s2.names.any fun (n, k) => n == y && (k == .local || k == .cell))
theorem swB_ok {env : Env} {s2 : Scope} {y : Str} {p q : Pos} {x : Expr} {cs : List Comprehension} {n : Nat} (h : swB env.scope s2 y p q = true) : swapsWith (.ListComp x cs s2 q) (some (.Name y p)) n env = pure true := by
  unfold swB at h
  simp only [Bool.and_eq_true] at h
  obtain ⟨⟨⟨h1, h2⟩, h3⟩, h4⟩ := h
  have k : env.scope.kind = .function := by
    cases z : env.scope.kind <;> rw [z] at h1 <;> first | rfl | cases h1
  have e : (env.blockKind == .function && env.kindOf y == some .local && p.line == (Expr.ListComp x cs s2 q).pos.line && !(s2.names.any fun (n, k) => n == y && (k == .local || k == .cell))) = true := by
    have b : env.blockKind = .function := by unfold Env.blockKind; rw [k]; rfl
    rw [b]
    show ((ScopeKind.function == ScopeKind.function) && (env.scope.names.lookup y == some .local) && (p.line == q.line) && _) = true
    rw [h2, h3, h4]; rfl
  show (do return _ : Sem Bool) = pure true
  exact congrArg pure e
def isLcN : CE → Option CN
  | .tmp (.lc a b c d e) => some (.lc a b c d e)
  | .mk (.lc a b c d e) => some (.lc a b c d e)
  | _ => none
-- o.append(e)
def asApp : Expr → Option (Expr × Expr × Pos × Pos)
  | .Call (.Attribute o m p) [e] [] q => if m = ("append" : Str) then some (o, e, p, q) else none
  | _ => none
theorem asApp_ok {x o e : Expr} {p q : Pos} (h : asApp x = some (o, e, p, q)) : x = .Call (.Attribute o "append" p) [e] [] q := by
  unfold asApp at h
  split at h
  · split at h
    · simp at h; obtain ⟨rfl, rfl, rfl, rfl⟩ := h; rename_i e1; rw [e1]
    · cases h
  · cases h
def plainO : Expr → Bool
  | .Name .. | .Subscript .. | .Attribute .. => true
  | _ => false
theorem attr_plain {o : Expr} {m : Str} {env : Env} {w : Sem Value} (h : plainO o = true) : attributeBase o m env w = w := by cases o <;> first | rfl | cases h
-- a, b = x, y
def asPar : Expr → Expr → Option (Str × Pos × Str × Pos × Nat × Pos × Expr × Expr × Nat × Pos)
  | .Tuple [.Name x px, .Name y py] k p, .Tuple [a, b] k2 p2 => some (x, px, y, py, k, p, a, b, k2, p2)
  | _, _ => none
theorem asPar_ok {tg v : Expr} {x y : Str} {px py p p2 : Pos} {k k2 : Nat} {a b : Expr} (h : asPar tg v = some (x, px, y, py, k, p, a, b, k2, p2)) : tg = .Tuple [.Name x px, .Name y py] k p ∧ v = .Tuple [a, b] k2 p2 := by
  unfold asPar at h
  split at h <;> simp at h
  obtain ⟨rfl, rfl, rfl, rfl, rfl, rfl, rfl, rfl, rfl, rfl⟩ := h
  exact ⟨rfl, rfl⟩
def parB (sc : Scope) (x y : Str) (px py : Pos) (a b : Expr) : Bool := (sc.kind == .function) && (sc.names.lookup x == some .local) && (sc.names.lookup y == some .local) && (py.line == px.line) && !(x == y) && notStar a && notStar b && !([a, b].all (foldedForSure 8)) && !([a, b].all (constantsAlone 8))
mutual
def matchS (N : List Str) (sc : Scope) : CS → Stmt → Bool
  | .asg t e, s => match asAsg s with
    | some (tg, v, _) => matchT N sc t tg && matchE N sc e v && (asgB tg v || (match asLc v, nmOf tg, isLcN e with
      | some (_, _, _, _, s2), some (y, p), some _ => swB sc s2 y p (posOf v)
      | _, _, _ => false))
    | none => false
  | .par i j a b, s => match asAsg s with
    | some (tg, v, _) => match asPar tg v with
      | some (x, px, y, py, _, _, p, q, _, _) => locB N sc i x && locB N sc j y && parB sc x y px py p q && (matchE N sc a p && matchE N sc b q)
      | none => false
    | none => false
  | .setI o i e, s => match asAsg s with
    | some (tg, v, _) => match asSub tg with
      | some (p, q) => asgB tg v && plainIxB q && (matchE N sc o p && (matchE N sc i q && matchE N sc e v))
      | none => false
    | none => false
  | .app o e, s => match asSt s with
    | some x => match asApp x with
      | some (p, q, p1, p2) => plainO p && notStar q && (p1.endLine == p2.line) && (matchE N sc o p && matchE N sc e q)
      | none => false
    | none => false
  | .expr e, s => match asSt s with
    | some x => notComp x && matchE N sc e x
    | none => false
  | .ret e, s => match asRet s with
    | some (some x) => matchE N sc e x
    | _ => false
  | .ret0, s => match asRet s with
    | some none => true
    | _ => false
  | .ite t a b, s => match asIfS s with
    | some (c, p, q) => (okT t c && matchE N sc t c) && (matchSs N sc a p && matchSs N sc b q)
    | none => false
  | .for_ t it b, s => match asFor s with
    | some (tg, x, q) => matchT N sc t tg && notSet x && (matchI N sc it tg x && matchSs N sc b q)
    | none => false
  | .whl t b, s => match asWh s with
    | some (c, q) => (okT t c && matchE N sc t c) && matchSs N sc b q
    | none => false
  | .brk, s => isBrk s
  | .cnt, s => isCnt s
  | .pass, s => isPass s
  | .nope, _ => true
  | .tryT b, s => match asTry s with
    | some q => matchSs N sc b q
    | none => false
def matchSs (N : List Str) (sc : Scope) : CSs → List Stmt → Bool
  | .nil, ss => ss.isEmpty
  | .cons c cs, ss => match ss with
    | s :: ss => matchS N sc c s && matchSs N sc cs ss
    | [] => false
end
structure GoodS (X : Cx) (T : Th) : Prop extends Good X T where
  own : PassesOwn (model X.prog X.w) X.A X.env X.xe
  fn : ∀ x, Loc X.env.scope x → X.fn x = true ∨ X.env.scope.names.lookup x = some .local
section
variable {X : Cx}
theorem PS.imp {s : Stmt} {t t' : TS} (h : PS X s t) (k : ∀ D σ H, t' D σ H → t D σ H) : PS X s t' := ⟨fun pins s σ H D I q => h.run pins s σ H D I (k D σ H q)⟩
theorem PSs.imp {s : List Stmt} {t t' : TS} (h : PSs X s t) (k : ∀ D σ H, t' D σ H → t D σ H) : PSs X s t' := ⟨fun pins s σ H D I q => h.run pins s σ H D I (k D σ H q)⟩
theorem PS.false {s : Stmt} {t : TS} (k : ∀ D σ H, ¬ t D σ H) : PS X s t := ⟨fun _ _ σ H D _ q => (k D σ H q).elim⟩
end
end Z

set_option Elab.async false
set_option linter.all false
set_option maxRecDepth 100000
set_option maxHeartbeats 3200000
/-! Z12: what statements in short come to is what the text does. -/
namespace Z
open PySem PySem.Spec PyProof.Rows L2 RZ
theorem sw_par {env : Env} {x y : Str} {px py p p2 : Pos} {k k2 : Nat} {a b : Expr} (h : parB env.scope x y px py a b = true) : swappedStores [.Tuple [.Name x px, .Name y py] k p] (.Tuple [a, b] k2 p2) env = pure (some [x, y]) := by
  unfold parB at h
  simp only [Bool.and_eq_true, Bool.not_eq_true'] at h
  obtain ⟨⟨⟨⟨⟨⟨⟨⟨h1, h2⟩, h3⟩, h4⟩, h5⟩, h6⟩, h7⟩, h8⟩, h9⟩ := h
  have k1 : env.scope.kind = .function := by
    cases z : env.scope.kind <;> rw [z] at h1 <;> first | rfl | cases h1
  have bk : env.blockKind = .function := by unfold Env.blockKind; rw [k1]; rfl
  have e1 : (env.kindOf x == some NameKind.local) = true := h2
  have e2 : (env.kindOf y == some NameKind.local) = true := h3
  have n1 : [Expr.Name x px, Expr.Name y py].filterMap (fun | .Name id pos => if env.kindOf id == some .local && pos.line == px.line then some id else none | _ => none) = [x, y] := by
    simp only [List.filterMap, e1, e2, h4, beq_self_eq_true, Bool.and_true, if_true]
  have n2 : ([x, y].eraseDups.length != [x, y].length) = false := by
    have h5' : (y == x) = false := by
      cases z : y == x with
      | false => rfl
      | true => rw [eq_of_beq z] at h5; simp at h5
    simp [List.eraseDups_cons, h5']
  have n3 : [a, b].any (fun | .Starred .. => true | _ => false) = false := by
    cases a <;> first | (cases h6; done) | skip
    all_goals cases b <;> first | (cases h7; done) | rfl
  unfold swappedStores
  have hk : (env.blockKind != ScopeKind.function) = false := by rw [bk]; rfl
  simp only [hk, n3, Bool.or_false, Bool.false_or]
  show (if _ then _ else _) = _
  refine (if_neg (by show ¬ (false = true); decide)).trans ?_
  refine (if_neg (fun hh => absurd (n3.symm.trans hh) (by decide))).trans ?_
  generalize hN : List.filterMap _ [Expr.Name x px, Expr.Name y py] = N
  have hN' : N = [x, y] := hN.symm.trans n1
  subst hN'
  refine (if_neg (fun hh => by rw [n2] at hh; cases hh)).trans ?_
  rw [h8, if_neg (by decide), h9, if_neg (by decide)]
section
variable {K : PySem.W.Frag} {mg : Str → Option Value} {Y : List Addr} {μ μ' μ1 : Nat → Addr} {n n' n1 : Nat} {H H' H1 : Hp} {S S1 S' : Sto} {α β : Type} {W : WX} {σ : L2.St}
theorem FinS.seq {D : Ends} {r : SR} {f : Rho → Sto → SR} (x : FinS K mg W D μ S Y H (r.andThen f)) : FinS K mg W { D with nx := tS K mg W f D } μ S Y H r := by
  cases r with
  | nx ρ S' => exact fun μ' H' g r σ' re => ⟨μ', ρ, S', Y, r, re, FinS.shift (show FinS K mg W D μ S Y H (f ρ S') from x) g⟩
  | _ => exact x
/-- a loop's body: what comes after each end -/
theorem FinS.body {D : Ends} {N : L2.St → Hp → Prop} {r : SR} {go : Rho → Sto → SR} (x : FinS K mg W D μ S Y H (match r with | .nx ρ S => go ρ S | .ct ρ S => go ρ S | .bk ρ S => .nx ρ S | r => r))
    (hN : ∀ ρ' S' μ' H' σ', Gr μ S.length H μ' S'.length H' → RS K mg μ' S' Y H' → RE K mg μ' S'.length Y H' ρ' σ' → FinS K mg W D μ' S' Y H' (go ρ' S') → N σ' H') :
    FinS K mg W { D with nx := N, ct := N, bk := D.nx } μ S Y H r := by
  cases r with
  | nx ρ S' => exact fun μ' H' g r σ' re => hN _ _ _ _ _ g r re (FinS.shift (show FinS K mg W D μ S Y H (go ρ S') from x) g)
  | ct ρ S' => exact fun μ' H' g r σ' re => hN _ _ _ _ _ g r re (FinS.shift (show FinS K mg W D μ S Y H (go ρ S') from x) g)
  | bk ρ S' => exact x
  | rt u S' => exact x
  | ex e ρ S' => exact x
  | no => exact x
end
section
variable {T : Th} {F : Nat}
theorem lcUse {X : Cx} (G : Good X T) {W : WX} (tk : Takes X W) {tg : CT} {it : CI} {cnd : CEs} {elt : CE} {own : List (Str × Nat)} {x tg' it' : Expr} {ifs : List Expr} {s2 : Scope} {pos : Pos} (h : matchN X.N X.env.scope (.lc tg it cnd elt own) (.ListComp x [⟨tg', it', ifs, 0⟩] s2 pos) = true) :
    ∃ (wi : TI) (g : TG) (tt : TT) (te : TE), PI X tg' it' wi ∧ BlkOk X.N X.env.scope s2 own ∧ (∀ (s : Shared) (H : Hp) (C : Addr) (cl : List (Str × Addr)) (fp : List Addr), PG (X.blk s H s2 (compEnvC s2 cl C X.env) fp) tg' g) ∧
      (∀ (s : Shared) (H : Hp) (C : Addr) (cl : List (Str × Addr)) (fp : List Addr), PTs (X.blk s H s2 (compEnvC s2 cl C X.env) fp) ifs tt) ∧ (∀ (s : Shared) (H : Hp) (C : Addr) (cl : List (Str × Addr)) (fp : List Addr), PE (X.blk s H s2 (compEnvC s2 cl C X.env) fp) x te) ∧
      (∀ z, foldedSetIterable it' X.env z = pure z) ∧ ∀ σ H Q, tN X.K X.mg W (evN T (.lc tg it cnd elt own)) σ H Q → tLc wi g tt te (own.map (·.2)) σ H Q := by
  simp only [matchN, asLc] at h
  simp only [Bool.and_eq_true, decide_eq_true_eq] at h
  obtain ⟨⟨⟨⟨hb, hsl⟩, ht⟩, hset⟩, ⟨hi, ⟨hc, hl⟩, hk⟩, he⟩ := h
  exact lcOk (cnd := cnd) (it := it) (elt := elt) G tk hb hsl ht hset hl (soundI it G tk hi)
    (fun s H C cl fp => soundE elt (G.blk s H s2 (compEnvC s2 cl C X.env) fp) takes0 (e := x) he)
    (fun c cs e1 hcc he1 s H C cl fp => by
      subst hcc
      subst he1
      simp only [matchEs, Bool.and_eq_true] at hc
      simp only [okTs, Bool.and_eq_true] at hk
      exact soundT c (G.blk s H s2 (compEnvC s2 cl C X.env) fp) takes0 (e := e1) hk.1 hc.1)
    (fun hn => by
      subst hn
      cases ifs with
      | nil => rfl
      | cons _ _ => simp [matchEs] at hc)
    (fun c cs hcc hn => by
      subst hcc
      subst hn
      simp [matchEs] at hc)
/-- name = [..], the value told -/
theorem asgUse {K : PySem.W.Frag} {mg : Str → Option Value} {W : WX} {D : Ends} {σ : L2.St} {H : Hp} {t : CT} {e : CE} (x : tS K mg W (evS T F (.asg t e)) D σ H) : tE K mg W (ev T e) σ H fun v H1 => gOf K t v σ H1 D.nx := by
  obtain ⟨μ, ρ, S, Y, r, re, f⟩ := x
  simp only [evS] at f
  exact sE_of r re f fun u S1 μ1 H1 v r1 re1 g1 ru f1 => by
    cases q : asgT t u ρ with
    | none => rw [q] at f1; exact f1.elim
    | some ρ' =>
      rw [q] at f1
      exact gOf_ok t ru re1 q fun σ' re' _ => Nx.here f1 r1 σ' re'
theorem hgOf {X : Cx} (G : GoodS X T) : ∀ x, Loc X.env.scope x → Loc X.env.scope x ∧ (X.fn x = true ∨ X.env.scope.names.lookup x = some .local) := fun x h => ⟨h, G.fn x h⟩
theorem ps_asgM {X : Cx} (G : GoodS X T) {W : WX} (tk : Takes X W) {t : CT} {e : CE} {tg v : Expr} {pos : Pos} (ht : matchT X.N X.env.scope t tg = true) (he : matchE X.N X.env.scope e v = true) (hb : asgB tg v = true) :
    PS X (.Assign [tg] v pos) (tS X.K X.mg W (evS T F (.asg t e))) :=
  PS.imp (ps_asg (soundE e G.toGood tk he) (pg_ok G.calm G.nd (hgOf G) t ht) ((asgB_ok hb).1 _) (asgB_ok hb).2 (by rw [asg_cons ht]; rfl)) fun D σ H x => asgUse x
theorem ps_setM {X : Cx} (G : GoodS X T) {W : WX} (tk : Takes X W) {t : CT} {e : CE} {y : Str} {p : Pos} {v : Expr} {pos : Pos} {x tg' it' : Expr} {ifs : List Expr} {s2 : Scope} (ht : matchT X.N X.env.scope t (.Name y p) = true) (he : matchE X.N X.env.scope e v = true)
    (hv : asLc v = some (x, tg', it', ifs, s2)) (hl : (isLcN e).isSome = true) (hb : swB X.env.scope s2 y p (posOf v) = true) : PS X (.Assign [.Name y p] v pos) (tS X.K X.mg W (evS T F (.asg t e))) := by
  obtain ⟨q, rfl⟩ := asLc_ok hv
  cases t with
  | tup ts => simp [matchT, asTup] at ht
  | name i =>
    have ht' : locB X.N X.env.scope i y = true := by simpa only [matchT, asName] using ht
    obtain ⟨h1, h2⟩ := locB_ok ht'
    have hyl : X.env.scope.names.lookup y = some .local := by
      unfold swB at hb
      simp only [Bool.and_eq_true] at hb
      exact eq_of_beq hb.1.1.2
    cases e <;> first | (simp [isLcN] at hl; done) | skip
    all_goals
      rename_i c
      cases c <;> first | (simp [isLcN] at hl; done) | skip
      simp only [matchE] at he
      obtain ⟨wi, g, tt, te, k1, k2, k3, k4, k5, k6, k7⟩ := lcUse G.toGood tk he
      refine PS.imp (ps_setLc G.calm G.nd h1 hyl (swB_ok hb) k1 k2 k3 k4 k5 k6) fun D σ H z => k7 σ H _ ?_
      have z' := asgUse z
      simp only [ev] at z'
      first | exact tN_tmp z' | exact tN_mk z'
theorem forUse {X : Cx} {W : WX} {src : Src} {J : It} {t : CT} {body : Rho → Sto → SR} {D : Ends} {Y : List Addr} {μ1 : Nat → Addr} {S1 : Sto} {H1 : Hp} {σ : L2.St} {ρ : Rho} (r : RS X.K X.mg μ1 S1 Y H1) (re : RE X.K X.mg μ1 S1.length Y H1 ρ σ) (hJ : SrcR X.K X.mg μ1 S1.length Y H1 src J) {m : Nat}
    (f : FinS X.K X.mg W D μ1 S1 Y H1 (forGo src t body m 0 ρ S1)) :
    ∃ V : Nat → Nat → L2.St → Hp → Prop, (∃ m, V 0 m σ H1) ∧ ∀ i m σ H, V i m σ H →
      (J.stop i H ∧ D.nx σ H) ∨ (J.go i H ∧ ∃ N : L2.St → Hp → Prop, (∀ σ' H', N σ' H' → ∃ m', m' < m ∧ V (i + 1) m' σ' H') ∧ ∀ x H', J.yld i H x H' → gOf X.K t x σ H' fun σ2 H2 => tS X.K X.mg W body { D with nx := N, ct := N, bk := D.nx } σ2 H2) := by
  refine ⟨fun i m σ H => ∃ μ ρ S, Gr μ1 S1.length H1 μ S.length H ∧ RS X.K X.mg μ S Y H ∧ RE X.K X.mg μ S.length Y H ρ σ ∧ FinS X.K X.mg W D μ S Y H (forGo src t body m i ρ S), ⟨m, μ1, ρ, S1, Gr.refl, r, re, f⟩, ?_⟩
  rintro i m σ H ⟨μ, ρ, S, g, r, re, f⟩
  obtain ⟨ustop, ugo⟩ := (hJ.mono g).use r i
  unfold forGo at f
  cases z : src.at_ S i with
  | none => rw [z] at f; exact f.elim
  | some o =>
    cases o with
    | none =>
      rw [z] at f
      exact .inl ⟨ustop z, Nx.here f r σ re⟩
    | some u =>
      rw [z] at f
      cases m with
      | zero => exact f.elim
      | succ m =>
        obtain ⟨hgo, hy⟩ := ugo u z
        simp only at f
        cases q : asgT t u ρ with
        | none => rw [q] at f; exact f.elim
        | some ρ' =>
          rw [q] at f
          refine .inr ⟨hgo, fun σ' H' => ∃ μ ρ S, Gr μ1 S1.length H1 μ S.length H' ∧ RS X.K X.mg μ S Y H' ∧ RE X.K X.mg μ S.length Y H' ρ σ' ∧ FinS X.K X.mg W D μ S Y H' (forGo src t body m (i + 1) ρ S), fun σ' H' n => ⟨m, Nat.lt_succ_self _, n⟩, fun x H' y => ?_⟩
          obtain ⟨g2, r2, ru⟩ := hy x H' y
          refine gOf_ok t ru (re.mono g2) q fun σ2 re2 _ => ⟨μ, ρ', S, Y, r2, re2, ?_⟩
          exact FinS.body (go := fun ρ S => forGo src t body m (i + 1) ρ S) (FinS.shift f g2) fun ρ3 S3 μ3 H3 σ3 g3 r3 re3 f3 => ⟨μ3, ρ3, S3, (g.trans g2 r2.inj).trans g3 r3.inj, r3, re3, f3⟩
theorem whUse {X : Cx} {W : WX} {test : Rho → Sto → Res U} {body : Rho → Sto → SR} {D : Ends} {Y : List Addr} {μ1 : Nat → Addr} {S1 : Sto} {H1 : Hp} {σ : L2.St} {ρ : Rho} (r : RS X.K X.mg μ1 S1 Y H1) (re : RE X.K X.mg μ1 S1.length Y H1 ρ σ) {m : Nat}
    (f : FinS X.K X.mg W D μ1 S1 Y H1 (whGo test body m ρ S1)) : tWhile (tT X.K X.mg W test) (tS X.K X.mg W body) D σ H1 := by
  refine ⟨fun m σ H => ∃ μ ρ S, RS X.K X.mg μ S Y H ∧ RE X.K X.mg μ S.length Y H ρ σ ∧ FinS X.K X.mg W D μ S Y H (whGo test body m ρ S), ⟨m, μ1, ρ, S1, r, re, f⟩, ?_⟩
  rintro m σ H ⟨μ, ρ, S, r, re, f⟩
  unfold whGo at f
  refine sT_of r re f fun u S2 μ2 H2 r2 re2 g2 f2 => ?_
  cases u with
  | bl b =>
    refine ⟨b, rfl, ?_⟩
    cases b with
    | false => exact iteF (Nx.here f2 r2 σ re2)
    | true =>
      refine iteT ?_
      cases m with
      | zero => exact f2.elim
      | succ m =>
        refine ⟨fun σ' H' => ∃ μ ρ S, RS X.K X.mg μ S Y H' ∧ RE X.K X.mg μ S.length Y H' ρ σ' ∧ FinS X.K X.mg W D μ S Y H' (whGo test body m ρ S), fun σ' H' n => ⟨m, Nat.lt_succ_self _, n⟩, ⟨μ2, ρ, S2, Y, r2, re2, ?_⟩⟩
        exact FinS.body (go := fun ρ S => whGo test body m ρ S) f2 fun ρ3 S3 μ3 H3 σ3 g3 r3 re3 f3 => ⟨μ3, ρ3, S3, r3, re3, f3⟩
  | _ => exact f2.elim
mutual
theorem soundS : ∀ (c : CS) {X : Cx} (_ : GoodS X T) {W : WX} (_ : Takes X W) {s : Stmt}, matchS X.N X.env.scope c s = true → PS X s (tS X.K X.mg W (evS T F c))
  | .asg t e, X, G, W, tk, s, h => by
    simp only [matchS] at h
    cases q : asAsg s with
    | none => rw [q] at h; cases h
    | some z =>
      obtain ⟨tg, v, pos⟩ := z
      rw [q] at h
      rw [asAsg_ok q]
      simp only [Bool.and_eq_true, Bool.or_eq_true] at h
      obtain ⟨⟨h1, h2⟩, h3⟩ := h
      rcases h3 with h3 | h3
      · exact ps_asgM G tk h1 h2 h3
      · cases k1 : asLc v with
        | none => rw [k1] at h3; cases h3
        | some a1 =>
          obtain ⟨x, tg', it', ifs, s2⟩ := a1
          rw [k1] at h3
          cases k2 : nmOf tg with
          | none => rw [k2] at h3; cases h3
          | some a2 =>
            obtain ⟨y, p⟩ := a2
            rw [k2] at h3
            cases k3 : isLcN e with
            | none => rw [k3] at h3; cases h3
            | some a3 =>
              rw [k3] at h3
              have := nmOf_ok k2
              subst this
              exact ps_setM G tk h1 h2 k1 (by rw [k3]; rfl) h3
  | .par i j a b, X, G, W, tk, s, h => by
    simp only [matchS] at h
    cases q : asAsg s with
    | none => rw [q] at h; cases h
    | some z =>
      obtain ⟨tg, v, pos⟩ := z
      rw [q] at h
      rw [asAsg_ok q]
      cases q2 : asPar tg v with
      | none => simp only [q2] at h; cases h
      | some z2 =>
        obtain ⟨x, px, y, py, k, p, a', b', k2, p2⟩ := z2
        simp only [q2, Bool.and_eq_true] at h
        obtain ⟨rfl, rfl⟩ := asPar_ok q2
        obtain ⟨⟨⟨h1, h2⟩, h3⟩, h4, h5⟩ := h
        have hw := sw_par (k := k) (p := p) (k2 := k2) (p2 := p2) h3
        unfold parB at h3
        simp only [Bool.and_eq_true, Bool.not_eq_true'] at h3
        obtain ⟨⟨⟨⟨⟨⟨⟨⟨_, l1⟩, l2⟩, _⟩, l5⟩, l6⟩, l7⟩, _⟩, _⟩ := h3
        have i1 := (locB_ok h1).1
        have i2 := (locB_ok h2).1
        have hij : i ≠ j := fun e => by
          subst e
          rw [i1] at i2
          cases i2
          simp at l5
        refine PS.imp (ps_par G.calm G.nd i1 i2 hij (eq_of_beq l1) (eq_of_beq l2) (pa_cons (soundE a G.toGood tk h4) (pa_cons (soundE b G.toGood tk h5) pa_nil (star_cons l7)) (star_cons l6)) hw rfl) fun D σ H ⟨μ, ρ, S, Y, r, re, f⟩ => ?_
        simp only [evS] at f
        exact sE_of r re f fun u S1 μ1 H1 v1 r1 re1 g1 ru f1 => sE_of r1 re1 f1 fun w S2 μ2 H2 v2 r2 re2 g2 rw' f2 => ⟨v1, v2, rfl, Nx.here f2 r2 _ ((re2.set i (ru.mono g2)).set j rw')⟩
  | .setI o i e, X, G, W, tk, s, h => by
    simp only [matchS] at h
    cases q : asAsg s with
    | none => rw [q] at h; cases h
    | some z =>
      obtain ⟨tg, v, pos⟩ := z
      rw [q] at h
      rw [asAsg_ok q]
      cases q2 : asSub tg with
      | none => simp only [q2] at h; cases h
      | some z2 =>
        obtain ⟨p, ix⟩ := z2
        simp only [q2, Bool.and_eq_true] at h
        obtain ⟨pos2, rfl⟩ := asSub_ok q2
        obtain ⟨⟨h1, h2⟩, h3, h4, h5⟩ := h
        refine PS.imp (ps_asg (soundE e G.toGood tk h5) (pg_sub (soundE o G.toGood tk h3) (soundE i G.toGood tk h4) set_list (by cases ix <;> first | (cases h2; done) | (intro _; rfl))) ((asgB_ok h1).1 _) (asgB_ok h1).2 rfl) fun D σ H ⟨μ, ρ, S, Y, r, re, f⟩ => ?_
        simp only [evS] at f
        refine sE_of r re f fun w S1 μ1 H1 v1 r1 re1 g1 rw1 f1 => sE_of r1 re1 f1 fun u S2 μ2 H2 v2 r2 re2 g2 ru f2 => sE_of r2 re2 f2 fun z S3 μ3 H3 v3 r3 re3 g3 rz f3 => ?_
        cases u <;> first | exact f3.elim | skip
        cases z <;> first | exact f3.elim | skip
        rename_i k n
        simp only at f3
        cases e1 : S3[k]? with
        | none => rw [e1] at f3; exact f3.elim
        | some so =>
          rw [e1] at f3
          cases so with
          | lst us =>
            simp only at f3
            cases e2 : ixN us.length n with
            | none => rw [e2] at f3; exact f3.elim
            | some jj =>
              rw [e2] at f3
              cases ru with
              | obj hk ha =>
                cases rz
                obtain ⟨vs, hv, rv⟩ := r3.at_ k _ e1
                subst ha
                have hk3 : k < S3.length := Nat.lt_of_lt_of_le hk g3.le
                rw [← g3.at_ k hk]
                have rw3 := (rw1.mono g2).mono g3
                refine ⟨_, vs, n, jj, rfl, rfl, hv, by rw [← rv.length]; exact e2, ?_⟩
                exact f3 μ3 _ (by rw [List.length_set]; exact Gr.write r3 hk3) (r3.write hk3 ⟨_, upd_same, (rv.set rw3 jj).mono (Gr.write r3 hk3)⟩) σ (by rw [List.length_set]; exact re3.mono (Gr.write r3 hk3))
          | _ => exact f3.elim
  | .app o e, X, G, W, tk, s, h => by
    simp only [matchS] at h
    cases q : asSt s with
    | none => rw [q] at h; cases h
    | some x =>
      rw [q] at h
      obtain ⟨pos, rfl⟩ := asSt_ok q
      cases q2 : asApp x with
      | none => simp only [q2] at h; cases h
      | some z2 =>
        obtain ⟨p, q', p1, p2⟩ := z2
        simp only [q2, Bool.and_eq_true] at h
        rw [asApp_ok q2]
        obtain ⟨⟨⟨h1, h2⟩, h3⟩, h4, h5⟩ := h
        have hst : starEach [q'] X.env = [(false, eval q' X.env)] := star_cons h2
        refine PS.imp (ps_expr (pe_bm PySem.F.plainAttrs_list PySem.F.slot_list_append PySem.F.type_list_append mt_append (soundE o G.toGood tk h4) (pa_cons (soundE e G.toGood tk h5) pa_nil hst) (attr_plain h1) (by rw [hst]; rfl) h3 hst rfl) rfl) fun D σ H ⟨μ, ρ, S, Y, r, re, f⟩ => ?_
        simp only [evS] at f
        refine sE_of r re f fun u S1 μ1 H1 v1 r1 re1 g1 ru f1 => ?_
        cases e0 : lstOf S1 u with
        | none => rw [if_neg (by rw [e0]; decide)] at f1; exact f1.elim
        | some us0 =>
          rw [if_pos (by rw [e0]; rfl)] at f1
          obtain ⟨a', vs0, rfl, k1, k2⟩ := lstOf_sq r1 ru e0
          refine ⟨.inl ⟨rfl, vs0, k1⟩, sE_of r1 re1 f1 fun w S2 μ2 H2 v2 r2 re2 g2 rw2 f2 => ?_⟩
          cases u <;> first | exact f2.elim | skip
          rename_i k
          simp only at f2
          cases e1 : S2[k]? with
          | none => rw [e1] at f2; exact f2.elim
          | some so =>
            rw [e1] at f2
            cases so with
            | lst us =>
              simp only at f2
              by_cases hz : us.length < sizeLine
              · rw [if_pos hz] at f2
                cases ru with
                | obj hk ha =>
                  obtain ⟨vs, hv, rv⟩ := r2.at_ k _ e1
                  subst ha
                  have hk3 : k < S2.length := Nat.lt_of_lt_of_le hk g2.le
                  rw [← g2.at_ k hk]
                  refine ⟨_, vs, v2, rfl, rfl, hv, by rw [← rv.length]; exact hz, ?_⟩
                  exact f2 μ2 _ (by rw [List.length_set]; exact Gr.write r2 hk3) (r2.write hk3 ⟨_, upd_same, (rv.append (.cons rw2 .nil)).mono (Gr.write r2 hk3)⟩) σ (by rw [List.length_set]; exact re2.mono (Gr.write r2 hk3))
              · rw [if_neg hz] at f2; exact f2.elim
            | _ => exact f2.elim
  | .expr e, X, G, W, tk, s, h => by
    simp only [matchS] at h
    cases q : asSt s with
    | none => rw [q] at h; cases h
    | some x =>
      rw [q] at h
      obtain ⟨pos, rfl⟩ := asSt_ok q
      simp only [Bool.and_eq_true] at h
      refine PS.imp (ps_expr (soundE e G.toGood tk h.2) (swith_false h.1)) fun D σ H ⟨μ, ρ, S, Y, r, re, f⟩ => ?_
      simp only [evS] at f
      exact sE_of r re f fun u S1 μ1 H1 v1 r1 re1 g1 ru f1 => Nx.here f1 r1 σ re1
  | .ret e, X, G, W, tk, s, h => by
    simp only [matchS] at h
    cases q : asRet s with
    | none => rw [q] at h; cases h
    | some x =>
      rw [q] at h
      obtain ⟨pos, rfl⟩ := asRet_ok q
      cases x with
      | none => cases h
      | some x =>
        refine PS.imp (ps_ret (soundE e G.toGood tk h)) fun D σ H ⟨μ, ρ, S, Y, r, re, f⟩ => ?_
        simp only [evS] at f
        exact sE_of r re f fun u S1 μ1 H1 v1 r1 re1 g1 ru f1 => Nx.here f1 r1 v1 ru
  | .ret0, X, G, W, tk, s, h => by
    simp only [matchS] at h
    cases q : asRet s with
    | none => rw [q] at h; cases h
    | some x =>
      rw [q] at h
      obtain ⟨pos, rfl⟩ := asRet_ok q
      cases x with
      | some x => cases h
      | none =>
        refine PS.imp ps_retN fun D σ H ⟨μ, ρ, S, Y, r, re, f⟩ => ?_
        simp only [evS] at f
        exact Nx.here f r .non .non
  | .ite t a b, X, G, W, tk, s, h => by
    simp only [matchS] at h
    cases q : asIfS s with
    | none => rw [q] at h; cases h
    | some z =>
      obtain ⟨c, p, q'⟩ := z
      rw [q] at h
      obtain ⟨pos, rfl⟩ := asIfS_ok q
      simp only [Bool.and_eq_true] at h
      obtain ⟨⟨h1, h2⟩, h3, h4⟩ := h
      refine PS.imp (ps_if (soundT t G.toGood tk h1 h2) (soundSs a G tk h3) (soundSs b G tk h4)) fun D σ H ⟨μ, ρ, S, Y, r, re, f⟩ => ?_
      simp only [evS] at f
      refine sT_of r re f fun u S1 μ1 H1 r1 re1 g1 f1 => ?_
      cases u with
      | bl b0 =>
        refine ⟨b0, rfl, ?_⟩
        cases b0 with
        | true => exact iteT ⟨μ1, ρ, S1, Y, r1, re1, f1⟩
        | false => exact iteF ⟨μ1, ρ, S1, Y, r1, re1, f1⟩
      | _ => exact f1.elim
  | .for_ t it b, X, G, W, tk, s, h => by
    simp only [matchS] at h
    cases q : asFor s with
    | none => rw [q] at h; cases h
    | some z =>
      obtain ⟨tg, x, bd⟩ := z
      rw [q] at h
      obtain ⟨pos, rfl⟩ := asFor_ok q
      simp only [Bool.and_eq_true] at h
      obtain ⟨⟨h1, h2⟩, h3, h4⟩ := h
      refine PS.imp (ps_for G.own G.calm (soundI it G.toGood tk h3) (pg_ok G.calm G.nd (hgOf G) t h1) (soundSs b G tk h4) (by intro z; cases x <;> first | rfl | cases h2)) fun D σ H ⟨μ, ρ, S, Y, r, re, f⟩ => ?_
      simp only [evS] at f
      exact ⟨μ, ρ, S, Y, r, re, (FinS.toS re f).imp fun src S1 μ1 H1 g1 r1 f1 J hJ => forUse r1 (re.mono g1) hJ f1⟩
  | .whl t b, X, G, W, tk, s, h => by
    simp only [matchS] at h
    cases q : asWh s with
    | none => rw [q] at h; cases h
    | some z =>
      obtain ⟨c, bd⟩ := z
      rw [q] at h
      obtain ⟨pos, rfl⟩ := asWh_ok q
      simp only [Bool.and_eq_true] at h
      obtain ⟨⟨h1, h2⟩, h3⟩ := h
      refine PS.imp (ps_while G.own (soundT t G.toGood tk h1 h2) (soundSs b G tk h3)) fun D σ H ⟨μ, ρ, S, Y, r, re, f⟩ => ?_
      simp only [evS] at f
      exact whUse r re f
  | .brk, X, G, W, tk, s, h => by
    simp only [matchS] at h
    obtain ⟨pos, rfl⟩ := isBrk_ok h
    refine PS.imp ps_break fun D σ H ⟨μ, ρ, S, Y, r, re, f⟩ => ?_
    simp only [evS] at f
    exact Nx.here f r σ re
  | .cnt, X, G, W, tk, s, h => by
    simp only [matchS] at h
    obtain ⟨pos, rfl⟩ := isCnt_ok h
    refine PS.imp ps_continue fun D σ H ⟨μ, ρ, S, Y, r, re, f⟩ => ?_
    simp only [evS] at f
    exact Nx.here f r σ re
  | .pass, X, G, W, tk, s, h => by
    simp only [matchS] at h
    obtain ⟨pos, rfl⟩ := isPass_ok h
    refine PS.imp ps_pass fun D σ H ⟨μ, ρ, S, Y, r, re, f⟩ => ?_
    simp only [evS] at f
    exact Nx.here f r σ re
  | .nope, X, G, W, tk, s, h => PS.false fun D σ H ⟨μ, ρ, S, Y, r, re, f⟩ => by simp only [evS] at f; exact f
  | .tryT b, X, G, W, tk, s, h => by
    simp only [matchS] at h
    cases q : asTry s with
    | none => rw [q] at h; cases h
    | some bd =>
      rw [q] at h
      obtain ⟨h0, hs, pos, rfl⟩ := asTry_ok q
      have G' : GoodS X.nox T := ⟨⟨G.calm, G.units, G.gu, G.nd, G.free, G.gl, G.dct, G.tab⟩, PassesOwn.never, G.fn⟩
      refine PS.imp (ps_try_thru0 (soundSs b G' (W := fun _ _ _ _ => False) takes0 h)) fun D σ H ⟨μ, ρ, S, Y, r, re, f⟩ => ⟨μ, ρ, S, Y, r, re, ?_⟩
      simp only [evS] at f
      cases z : evSs T F b ρ S <;> rw [z] at f <;> first | exact f.elim | exact f
theorem soundSs : ∀ (cs : CSs) {X : Cx} (_ : GoodS X T) {W : WX} (_ : Takes X W) {ss : List Stmt}, matchSs X.N X.env.scope cs ss = true → PSs X ss (tS X.K X.mg W (evSs T F cs))
  | .nil, X, G, W, tk, ss, h => by
    simp only [matchSs] at h
    cases ss with
    | cons _ _ => cases h
    | nil =>
      refine PSs.imp pss_nil fun D σ H ⟨μ, ρ, S, Y, r, re, f⟩ => ?_
      simp only [evSs] at f
      exact Nx.here f r σ re
  | .cons c cs, X, G, W, tk, ss, h => by
    simp only [matchSs] at h
    cases ss with
    | nil => cases h
    | cons s ss =>
      simp only [Bool.and_eq_true] at h
      refine PSs.imp (pss_cons (soundS c G tk h.1) (soundSs cs G tk h.2)) fun D σ H ⟨μ, ρ, S, Y, r, re, f⟩ => ?_
      simp only [evSs] at f
      exact ⟨μ, ρ, S, Y, r, re, f.seq⟩
end
end
end Z

set_option Elab.async false
set_option linter.all false
set_option maxRecDepth 100000
set_option maxHeartbeats 3200000
/-! Z13: a def of the text by what its body in short comes to. -/
namespace Z
open PySem PySem.Spec PyProof.Rows L2 RZ
/-! ### a value with the things from m on told as their items -/
section
variable (S1 : Sto) (m : Nat)
mutual
inductive Low : U → U → Prop
  | non : Low .non .non
  | bl (b : Bool) : Low (.bl b) (.bl b)
  | int (i : Int) : Low (.int i) (.int i)
  | str (x : Str) : Low (.str x) (.str x)
  | fn (x : Str) : Low (.fn x) (.fn x)
  | tup {us ws : List U} : Lows us ws → Low (.tup us) (.tup ws)
  | tl {us ws : List U} : Lows us ws → Low (.tl us) (.tl ws)
  | rl {us ws : List U} : Lows us ws → Low (.rl us) (.rl ws)
  | obj {k : Nat} : k < m → Low (.obj k) (.obj k)
  | cut {k : Nat} {us ws : List U} : S1[k]? = some (.lst us) → m ≤ k → Lows us ws → Low (.obj k) (.tl ws)
inductive Lows : List U → List U → Prop
  | nil : Lows [] []
  | cons {u w : U} {us ws : List U} : Low u w → Lows us ws → Lows (u :: us) (w :: ws)
end
inductive LowF : List (Str × U) → List (Str × U) → Prop
  | nil : LowF [] []
  | cons {k : Str} {u w : U} {us ws : List (Str × U)} : Low S1 m u w → LowF us ws → LowF ((k, u) :: us) ((k, w) :: ws)
inductive LowK : List (Key × U) → List (Key × U) → Prop
  | nil : LowK [] []
  | cons {k : Key} {u w : U} {us ws : List (Key × U)} : Low S1 m u w → LowK us ws → LowK ((k, u) :: us) ((k, w) :: ws)
def LowO : SO → SO → Prop
  | .lst us, .lst ws => Lows S1 m us ws
  | .dct us, .dct ws => LowK S1 m us ws
  | .ins C us, .ins D ws => C = D ∧ LowF S1 m us ws
  | _, _ => False
end
def LowS (S1 S' : Sto) : Prop := S'.length ≤ S1.length ∧ ∀ (i : Nat) (o' : SO), S'[i]? = some o' → ∃ o, S1[i]? = some o ∧ LowO S1 S'.length o o'
def LowX (S1 : Sto) (m : Nat) (x y : Xn) : Prop := x.1 = y.1 ∧ match x.2, y.2 with
  | none, none => True
  | some (f, u), some (g, w) => f = g ∧ Low S1 m u w
  | _, _ => False
section
variable {K : PySem.W.Frag} {mg : Str → Option Value} {Y : List Addr} {μ μ' μ1 : Nat → Addr} {n n' n1 m : Nat} {H H' H1 : Hp} {S S1 S' : Sto} {α β : Type} {W : WX} {σ : L2.St}
mutual
theorem RU.low (r : RS K mg μ S1 Y H) (hm : m ≤ S1.length) : ∀ {u w : U} {v : V}, Low S1 m u w → RU K mg μ S1.length Y H u v → RU K mg μ m Y H w v
  | _, _, _, .non, .non => .non
  | _, _, _, .bl b, .bl _ => .bl b
  | _, _, _, .int b, .int _ => .int b
  | _, _, _, .str b, .str _ => .str b
  | _, _, _, .fn b, .fn h => .fn h
  | _, _, _, .tup l, .tup h q => .tup h (RUs.low r hm l q)
  | _, _, _, .tl l, .tl h h1 h2 q => .tl h (fun i hi => h1 i (Nat.lt_of_lt_of_le hi hm)) h2 (RUs.low r hm l q)
  | _, _, _, .rl l, .rl h q => .rl h (RUs.low r hm l q)
  | _, _, _, .obj hk, .obj _ e => .obj hk e
  | _, _, _, .cut (k := k) e hk l, .obj hn ha => by
    have q := r.at_ k _ e
    obtain ⟨vs, q1, q2⟩ := q
    subst ha
    exact .tl q1 (fun i hi z => by have := r.inj k i hn (Nat.lt_of_lt_of_le hi hm) z; omega) (fun z => (r.res _ z).2 k hn rfl) (RUs.low r hm l q2)
theorem RUs.low (r : RS K mg μ S1 Y H) (hm : m ≤ S1.length) : ∀ {us ws : List U} {vs : List V}, Lows S1 m us ws → RUs K mg μ S1.length Y H us vs → RUs K mg μ m Y H ws vs
  | _, _, _, .nil, .nil => .nil
  | _, _, _, .cons l ls, .cons h q => .cons (RU.low r hm l h) (RUs.low r hm ls q)
end
theorem RFs.low (r : RS K mg μ S1 Y H) (hm : m ≤ S1.length) : ∀ {us ws : List (Str × U)} {vs : List (Str × V)}, LowF S1 m us ws → RFs K mg μ S1.length Y H us vs → RFs K mg μ m Y H ws vs
  | _, _, _, .nil, .nil => .nil
  | _, _, _, .cons l ls, .cons h q => .cons (RU.low r hm l h) (RFs.low r hm ls q)
theorem RKs.low (r : RS K mg μ S1 Y H) (hm : m ≤ S1.length) : ∀ {us ws : List (Key × U)} {vs : List (Key × V)}, LowK S1 m us ws → RKs K mg μ S1.length Y H us vs → RKs K mg μ m Y H ws vs
  | _, _, _, .nil, .nil => .nil
  | _, _, _, .cons l ls, .cons h q => .cons (RU.low r hm l h) (RKs.low r hm ls q)
theorem RS.low (r : RS K mg μ S1 Y H) (l : LowS S1 S') : RS K mg μ S' Y H := by
  refine ⟨fun i j hi hj e => r.inj i j (Nat.lt_of_lt_of_le hi l.1) (Nat.lt_of_lt_of_le hj l.1) e, fun i o' h => ?_, fun a ha => ⟨(r.res a ha).1, fun i hi => (r.res a ha).2 i (Nat.lt_of_lt_of_le hi l.1)⟩⟩
  obtain ⟨o, h1, h2⟩ := l.2 i o' h
  have q := r.at_ i o h1
  cases o with
  | lst us =>
    cases o' with
    | lst ws => obtain ⟨vs, e, q⟩ := q; exact ⟨vs, e, q.low r l.1 h2⟩
    | _ => exact h2.elim
  | dct us =>
    cases o' with
    | dct ws => obtain ⟨vs, e, q⟩ := q; exact ⟨vs, e, q.low r l.1 h2⟩
    | _ => exact h2.elim
  | ins C us =>
    cases o' with
    | ins D ws =>
      obtain ⟨rfl, h2⟩ := h2
      obtain ⟨c, dx, vs, g, e, q, d⟩ := q
      exact ⟨c, dx, vs, g, e, q.low r l.1 h2, d⟩
    | _ => exact h2.elim
theorem Gr.low (g : Gr μ n H μ1 n1 H1) (h : n ≤ m) (h' : m ≤ n1) : Gr μ n H μ1 m H1 := ⟨h, g.at_, fun i a b => g.new i a (Nat.lt_of_lt_of_le b h'), g.all, g.tup, g.frz⟩
theorem RX.low {x y : Xn} {cls : Value} {d : Option Addr} (r : RS K mg μ S1 Y H) (hm : m ≤ S1.length) (l : LowX S1 m x y) (q : RX K mg μ S1.length Y H x cls d) : RX K mg μ m Y H y cls d := by
  obtain ⟨x1, x2⟩ := x
  obtain ⟨y1, y2⟩ := y
  obtain ⟨e, l⟩ := l
  dsimp only at e
  subst e
  obtain ⟨c, h1, h2, h3⟩ := q
  refine ⟨c, h1, h2, ?_⟩
  cases x2 with
  | none =>
    cases y2 with
    | none => exact h3
    | some _ => exact l.elim
  | some z =>
    obtain ⟨f, u⟩ := z
    cases y2 with
    | none => exact l.elim
    | some z2 =>
      obtain ⟨g, w⟩ := z2
      obtain ⟨rfl, l⟩ := l
      obtain ⟨dd, v, e1, e2, e3⟩ := h3
      exact ⟨dd, v, e1, e2, e3.low r hm l⟩
/-- a body that ends as r does what q says; n things stood at its entry -/
def Does (n : Nat) (r : SR) : Res U → Prop
  | .ok u S' => n ≤ S'.length ∧ ((∃ u1 S1, r = .rt u1 S1 ∧ LowS S1 S' ∧ Low S1 S'.length u1 u) ∨ (∃ ρ S1, r = .nx ρ S1 ∧ LowS S1 S' ∧ u = .non))
  | .ex y S' => n ≤ S'.length ∧ ∃ x ρ S1, r = .ex x ρ S1 ∧ LowS S1 S' ∧ LowX S1 S'.length x y
  | .no => True
theorem Does.fin {r : SR} {q : Res U} {Q : VK} {E : XK} (h : Does S.length r q) (x : Fin K mg (fun cls d _ H' => E cls d H') [] μ S Y H q (PU K mg Y Q)) :
    FinS K mg (fun cls d _ H' => E cls d H') { nx := fun _ H' => Q .non H', rt := Q } μ S Y H r := by
  cases q with
  | no => exact x.elim
  | ok u S' =>
    obtain ⟨hn, h⟩ := h
    rcases h with ⟨u1, S1, rfl, l, lu⟩ | ⟨ρ, S1, rfl, l, rfl⟩
    · exact fun μ' H' g r v rv => x μ' H' (g.low hn l.1) (r.low l) v (rv.low r l.1 lu)
    · exact fun μ' H' g r σ' re => x μ' H' (g.low hn l.1) (r.low l) .non .non
  | ex y S' =>
    obtain ⟨hn, x', ρ, S1, rfl, l, lx⟩ := h
    exact fun μ' H' g r σ' cls d re rx => x μ' H' (g.low hn l.1) (r.low l) cls d (rx.low r l.1 lx)
/-- the slots at a def's entry -/
def startR (N : List Str) (us : List U) : Rho := us.map some ++ List.replicate (N.length - us.length) none
theorem RE.start {N : List Str} : ∀ {us : List U} {vs : List V}, RUs K mg μ n Y H us vs → RE K mg μ n Y H (startR N us) (L2.start N vs) := by
  intro us vs h
  have hl := h.length
  refine ⟨by unfold startR L2.start; rw [List.length_append, List.length_append, List.length_map, List.length_map, List.length_replicate, List.length_replicate, hl], fun i u e => ?_⟩
  unfold startR at e
  unfold L2.start
  by_cases hi : i < us.length
  · rw [List.getElem?_append_left (by simpa using hi), List.getElem?_map] at e
    cases q : us[i]? with
    | none => rw [q] at e; cases e
    | some u' =>
      rw [q] at e
      cases e
      obtain ⟨v, h1, h2⟩ := h.get q
      refine ⟨v, ?_, h2⟩
      rw [List.getElem?_append_left (by rw [List.length_map, ← hl]; exact hi), List.getElem?_map, h1]; rfl
  · rw [List.getElem?_append_right (by simpa using hi), List.getElem?_replicate] at e
    split at e <;> cases e
end
/-! ### THE RULE for a def -/
section
variable {P : Program} {w : World} {K : PySem.W.Frag} {mg : Str → Option Value} {base : Heap} {x qual : Str} {params : Arguments} {body : List Stmt} {scope : Scope} {dvs : List V} {kws : List (Str × V)} {fa : Addr} {fd : FuncData}
/-- what is known of the program's names -/
structure Glo (w : World) (K : PySem.W.Frag) (mg : Str → Option Value) (T : Th) : Prop where
  free : ∀ x, x ∈ bnames → mg x = none
  gl : ∀ x u, T.gl x = some u → ∃ v w, mg x = some w ∧ RelV v w ∧ ∀ μ n Y H, RU K mg μ n Y H u v
  dct : ∀ x d, T.dct x = some d → DctIn K w mg x d
theorem goodS_of {CX : CXT} {T : Th} {N : List Str} {f : Addr} {cd : Value} {A : Around} {outer : List Env} {s : Shared} {H : Hp} {E : XK} {k : Nat} (g : Glo w K mg T) (gu : A.guards = some []) (nd : N.Nodup) (tab : Tab P w K mg base k T) (hr : Room k (A.deeper (envOfC qual scope s.heap.objs.size f cd))) :
    GoodS (cxOf CX P w K mg base N qual scope f cd A outer s H E) T where
  calm := rfl
  units := by have := hr.un; show (A.deeper (envOfC qual scope s.heap.objs.size f cd)).units + 65 < _; omega
  nd := nd
  gu := gu
  free := g.free
  gl := g.gl
  dct := g.dct
  tab := ⟨k, hr, tab⟩
  own := L2.passes_of rfl
  fn := fun _ _ => .inl rfl
theorem defIn {T : Th} {k : Nat} {N ps : List Str} {cs : CSs} {φ : List U → Sto → Res U} (F : FunD K x qual params body scope dvs kws fa fd) (gx : mg x = some (.ref fa)) (bd : Binds K fd ps []) (Sc : FnScope N ps scope) (g : Glo w K mg T) (tab : Tab P w K mg base k T)
    (hm : matchSs N scope cs body = true) (h : ∀ us S, (∀ u S', φ us S = .ok u S' → us.length = ps.length) ∧ (∀ y S', φ us S = .ex y S' → us.length = ps.length) ∧ ∃ F, Does S.length (evSs T F cs (startR N us) S) (φ us S)) : DefIn P w K mg base (k + 1) x φ := by
  refine ⟨fa, fd, ps, gx, F.kp, ZG.fnG_of F Sc (fun vs H Q E hsp => ?_) (fun cdv A outer s H vs Q E gu hr hsp => ?_), bd⟩
  · obtain ⟨μ, S, Y, us, r, ru, f⟩ := hsp
    obtain ⟨h1, h2, h3⟩ := h us S
    rw [← ru.length]
    cases q : φ us S with
    | ok u S' => exact h1 u S' q
    | ex y S' => exact h2 y S' q
    | no => rw [q] at f; exact f.elim
  · obtain ⟨μ, S, Y, us, r, ru, f⟩ := hsp
    obtain ⟨h1, h2, F', h3⟩ := h us S
    have G : GoodS (cxOf (L2.CX P w) P w K mg base N qual scope fa cdv A outer s H E) T := goodS_of g gu Sc.nd tab hr
    refine ⟨_, soundSs (F := F') cs G (L2.takes_of rfl rfl rfl rfl) hm, μ, startR N us, S, Y, r, RE.start ru, h3.fin f⟩
end
end Z

set_option Elab.async false
set_option linter.all false
set_option maxRecDepth 100000
set_option maxHeartbeats 1600000
/-! Z14: a def by the evaluator itself; theories; loops. -/
namespace Z
open PySem PySem.Spec PyProof.Rows L2 RZ
/-- what a body's end is to a caller -/
def SR.res : SR → Res U
  | .rt u S => .ok u S
  | .nx _ S => .ok .non S
  | .ex x _ S => .ex x S
  | _ => .no
def fnOf (T : Th) (F : Nat) (N ps : List Str) (cs : CSs) : List U → Sto → Res U := fun us S => if us.length = ps.length then (evSs T F cs (startR N us) S).res else .no
theorem fnOf_eq {T : Th} {F : Nat} {N ps : List Str} {cs : CSs} {us : List U} {S : Sto} (h : us.length = ps.length) : fnOf T F N ps cs us S = (evSs T F cs (startR N us) S).res := if_pos h
section
variable {P : Program} {w : World} {K : PySem.W.Frag} {mg : Str → Option Value} {base : Heap} {x qual : Str} {params : Arguments} {body : List Stmt} {scope : Scope} {dvs : List V} {kws : List (Str × V)} {fa : Addr} {fd : FuncData}
theorem fnE {T : Th} {k F : Nat} {N ps : List Str} {cs : CSs} (Fd : FunD K x qual params body scope dvs kws fa fd) (Sc : FnScope N ps scope) (g : Glo w K mg T) (tab : Tab P w K mg base k T)
    (hm : matchSs N scope cs body = true) : ZG.FnG P w K mg base (k + 1) fa fd ps (SpF K mg (fnOf T F N ps cs)) := by
  refine ZG.fnG_of Fd Sc (fun vs H Q E hsp => ?_) (fun cdv A outer s H vs Q E gu hr hsp => ?_)
  · obtain ⟨μ, S, Y, us, r, ru, f⟩ := hsp
    rw [← ru.length]
    by_cases h : us.length = ps.length
    · exact h
    · unfold fnOf at f
      rw [if_neg h] at f
      exact f.elim
  · obtain ⟨μ, S, Y, us, r, ru, f⟩ := hsp
    have G : GoodS (cxOf (L2.CX P w) P w K mg base N qual scope fa cdv A outer s H E) T := goodS_of g gu Sc.nd tab hr
    refine ⟨_, soundSs (F := F) cs G (L2.takes_of rfl rfl rfl rfl) hm, μ, startR N us, S, Y, r, RE.start ru, ?_⟩
    unfold fnOf at f
    by_cases h : us.length = ps.length
    · rw [if_pos h] at f
      cases q : evSs T F cs (startR N us) S with
      | rt u S' => rw [q] at f; exact f
      | nx ρ S' => rw [q] at f; exact fun μ' H' g r σ' re => f μ' H' g r .non .non
      | ex e ρ S' => rw [q] at f; exact fun μ' H' g r σ' cls d re rx => f μ' H' g r cls d rx
      | bk ρ S' => rw [q] at f; exact f.elim
      | ct ρ S' => rw [q] at f; exact f.elim
      | no => rw [q] at f; exact f.elim
    · rw [if_neg h] at f; exact f.elim
theorem defInE {T : Th} {k F : Nat} {N ps : List Str} {cs : CSs} (Fd : FunD K x qual params body scope dvs kws fa fd) (gx : mg x = some (.ref fa)) (bd : Binds K fd ps []) (Sc : FnScope N ps scope) (g : Glo w K mg T) (tab : Tab P w K mg base k T)
    (hm : matchSs N scope cs body = true) : DefIn P w K mg base (k + 1) x (fnOf T F N ps cs) := ⟨fa, fd, ps, gx, Fd.kp, fnE Fd Sc g tab hm, bd⟩
theorem DefIn.mono {j k : Nat} {f : Str} {φ : List U → Sto → Res U} (h : DefIn P w K mg base j f φ) (hk : j ≤ k) : DefIn P w K mg base k f φ := by
  obtain ⟨fa, fd, ps, h1, h2, h3, h4⟩ := h
  exact ⟨fa, fd, ps, h1, h2, h3.mono hk, h4⟩
def Th.add (T : Th) (f : Str) (φ : List U → Sto → Res U) : Th where
  dom := fun x => if x = f then true else T.dom x
  fn := fun x => if x = f then φ else T.fn x
  gl := T.gl
  meth := T.meth
  dct := T.dct
theorem Glo.add {T : Th} {f : Str} {φ : List U → Sto → Res U} (g : Glo w K mg T) : Glo w K mg (T.add f φ) := ⟨g.free, g.gl, g.dct⟩
theorem Tab.add {k : Nat} {T : Th} {f : Str} {φ : List U → Sto → Res U} (h : Tab P w K mg base k T) (d : DefIn P w K mg base (k + 1) f φ) : Tab P w K mg base (k + 1) (T.add f φ) := by
  intro x hx
  by_cases e : x = f
  · subst e
    have : (T.add x φ).fn x = φ := if_pos rfl
    rw [this]
    exact d
  · have h1 : (T.add f φ).fn x = T.fn x := if_neg e
    have h2 : (T.add f φ).dom x = T.dom x := if_neg e
    rw [h2] at hx
    rw [h1]
    exact (h x hx).mono (Nat.le_succ k)
end
section
variable {T : Th}
theorem ev_call {f : Str} {φ : List U → Sto → Res U} {as : CEs} {ρ : Rho} {S : Sto} (h : T.dom f = true) (e : T.fn f = φ) : ev T (.call f as) ρ S = (evs T as ρ S).bind φ := by
  simp only [ev, h, if_true, e]
end
/-- a law's promise, of a script -/
theorem sp_law {K : PySem.W.Frag} {mg : Str → Option Value} {φ : List U → Sto → Res U} {H : Hp} {a : Addr} {ns : List Int} (h : ∃ S', φ [.rl (ns.map U.int)] [] = .ok (.bl true) S') (hO : Only H) (hS : SqL K H a (ns.map V.int)) : SpF K mg φ [.ref a] H (fun v _ => v = .bl true) fun _ _ _ => False := by
  have kl : KL K H a (ns.map V.int) := by
    rcases hS with (hS | hS) | hS
    · rcases hO a with e | ⟨o, xs, e⟩
      · rw [e] at hS; cases hS
      · rw [e] at hS; cases hS
    · exact .inl hS
    · exact .inr (.inr hS)
  obtain ⟨S', e⟩ := h
  refine ⟨fun _ => 0, [], [], [.rl (ns.map U.int)], ⟨fun i j hi => absurd hi (by simp), fun i o h => by simp at h, fun b hb => by cases hb⟩, .cons (.rl kl (RUs.ints ns)) .nil, ?_⟩
  rw [e]
  intro μ' H' g r v rv
  cases rv
  rfl
/-! ### comprehensions -/
/-- the walk is over these items, whatever becomes of the store -/
def Over (src : Src) (I : Sto → Prop) (items : List U) : Prop := ∀ S, I S → ∀ i, i ≤ items.length → src.at_ S i = some items[i]?
theorem Over.tup {us : List U} {I : Sto → Prop} : Over (.seq (.tup us)) I us := fun S _ i _ => rfl
theorem Over.tl {us : List U} {I : Sto → Prop} : Over (.seq (.tl us)) I us := fun S _ i _ => rfl
theorem Over.rl {us : List U} {I : Sto → Prop} : Over (.seq (.rl us)) I us := fun S _ i _ => rfl
theorem Over.obj {k : Nat} {us : List U} {I : Sto → Prop} (h : ∀ S, I S → S[k]? = some (.lst us)) : Over (.seq (.obj k)) I us := fun S hS i _ => by
  show (seqOf S (.obj k)).map (fun us => us[i]?) = _
  show (lstOf S (.obj k)).map (fun us => us[i]?) = _
  simp only [lstOf, h S hS, Option.map_some]
theorem Over.rng {lo : Int} {n : Nat} {I : Sto → Prop} : Over (.rng lo n) I ((List.range n).map fun (i : Nat) => .int (lo + i)) := fun S _ i hi => by
  simp only [Src.at_, List.getElem?_map, Option.some.injEq]
  by_cases h : i < n
  · rw [if_pos h, List.getElem?_range h]; rfl
  · rw [if_neg h, List.getElem?_eq_none (by simpa using h)]; rfl
theorem Over.enum {u : U} {us : List U} {I : Sto → Prop} (h : ∀ S, I S → seqOf S u = some us) : Over (.enum u) I (us.mapIdx fun i x => .tup [.int i, x]) := fun S hS i hi => by
  have hl : (us.mapIdx fun i x => U.tup [.int i, x]).length = us.length := List.length_mapIdx
  rw [hl] at hi
  simp only [Src.at_, h S hS, if_neg (Nat.not_lt.mpr hi), Option.some.injEq, List.getElem?_mapIdx]
theorem Over.zip {st : Bool} {u w : U} {us ws : List U} {I : Sto → Prop} (h : ∀ S, I S → seqOf S u = some us) (h' : ∀ S, I S → seqOf S w = some ws) (hl : us.length = ws.length) : Over (.zip st u w) I (List.zipWith (fun x y => .tup [x, y]) us ws) := fun S hS i hi => by
  simp only [Src.at_, h S hS, h' S hS, List.getElem?_zipWith]
  by_cases q : i < us.length
  · rw [List.getElem?_eq_getElem q, List.getElem?_eq_getElem (by omega)]
  · rw [List.getElem?_eq_none (by omega), List.getElem?_eq_none (by omega)]
theorem lcGo_inv {src : Src} {st : U → Sto → Res (Option U)} {items : List U} (Inv : Nat → List U → Sto → Prop) (ov : ∀ i acc S, Inv i acc S → i ≤ items.length → src.at_ S i = some items[i]?)
    (step : ∀ i x acc S, items[i]? = some x → Inv i acc S → ∃ o S', st x S = .ok o S' ∧ Inv (i + 1) (acc ++ o.toList) S') (hz : items.length ≤ sizeLine) :
    ∀ (n i : Nat) (acc : List U) (S : Sto), i + n = items.length → acc.length ≤ i → Inv i acc S → ∃ acc' S', lcGo src st n i acc S = .ok acc' S' ∧ Inv items.length acc' S'
  | 0, i, acc, S, hn, ha, hi => by
    refine ⟨acc, S, ?_, by rw [← hn]; exact hi⟩
    unfold lcGo
    rw [ov i acc S hi (by omega), List.getElem?_eq_none (by omega)]
  | n + 1, i, acc, S, hn, ha, hi => by
    unfold lcGo
    rw [ov i acc S hi (by omega), List.getElem?_eq_getElem (by omega)]
    obtain ⟨o, S', h1, h2⟩ := step i _ acc S (List.getElem?_eq_getElem (by omega)) hi
    simp only [h1]
    cases o with
    | none =>
      simp only [Option.toList, List.append_nil] at h2
      exact lcGo_inv Inv ov step hz n (i + 1) acc S' (by omega) (by omega) h2
    | some u =>
      simp only [Option.toList] at h2
      dsimp only
      rw [if_pos (by omega)]
      exact lcGo_inv Inv ov step hz n (i + 1) (acc ++ [u]) S' (by omega) (by simp; omega) h2
/-- a comprehension that leaves the store as it is -/
theorem lcGo_map {src : Src} {st : U → Sto → Res (Option U)} {items out : List U} {S : Sto} (ov : Over src (· = S) items) (step : ∀ (i : Nat) (x : U), items[i]? = some x → ∃ y, out[i]? = some y ∧ st x S = .ok (some y) S) (hl : out.length = items.length) (hz : items.length ≤ sizeLine) (n : Nat) (hn : n = items.length) :
    lcGo src st n 0 [] S = .ok out S := by
  obtain ⟨acc, S', h1, rfl, rfl⟩ := lcGo_inv (src := src) (st := st) (items := items) (fun i acc S' => acc = out.take i ∧ S' = S) (fun i acc S' h hi => ov S' h.2 i hi)
    (fun i x acc S' hx ⟨h1, h2⟩ => by
      subst h2
      obtain ⟨y, hy, hs⟩ := step i x hx
      refine ⟨some y, S', hs, ?_, rfl⟩
      rw [h1, Option.toList, List.take_succ, hy]; rfl) hz n 0 [] S (by omega) (Nat.le_refl 0) ⟨by simp, rfl⟩
  rw [h1, List.take_of_length_le (by omega)]
theorem forGo_inv {src : Src} {t : CT} {body : Rho → Sto → SR} {items : List U} (Inv : Nat → Rho → Sto → Prop) (R : U → Sto → Prop) (ov : ∀ i ρ S, Inv i ρ S → i ≤ items.length → src.at_ S i = some items[i]?)
    (step : ∀ i x ρ S, items[i]? = some x → Inv i ρ S → ∃ ρ', asgT t x ρ = some ρ' ∧ ((∃ ρ2 S2, (body ρ' S = .nx ρ2 S2 ∨ body ρ' S = .ct ρ2 S2) ∧ Inv (i + 1) ρ2 S2) ∨ ∃ u S2, body ρ' S = .rt u S2 ∧ R u S2)) :
    ∀ (n i : Nat) (ρ : Rho) (S : Sto), i + n = items.length → Inv i ρ S → (∃ ρ' S', forGo src t body n i ρ S = .nx ρ' S' ∧ Inv items.length ρ' S') ∨ ∃ u S', forGo src t body n i ρ S = .rt u S' ∧ R u S'
  | 0, i, ρ, S, hn, hi => by
    refine .inl ⟨ρ, S, ?_, by rw [← hn]; exact hi⟩
    unfold forGo
    rw [ov i ρ S hi (by omega), List.getElem?_eq_none (by omega)]
  | n + 1, i, ρ, S, hn, hi => by
    unfold forGo
    rw [ov i ρ S hi (by omega), List.getElem?_eq_getElem (by omega)]
    obtain ⟨ρ', h1, h2⟩ := step i _ ρ S (List.getElem?_eq_getElem (by omega)) hi
    simp only [h1]
    rcases h2 with ⟨ρ2, S2, h2 | h2, h3⟩ | ⟨u, S2, h2, h3⟩
    · rw [h2]; exact forGo_inv Inv R ov step n (i + 1) ρ2 S2 (by omega) h3
    · rw [h2]; exact forGo_inv Inv R ov step n (i + 1) ρ2 S2 (by omega) h3
    · rw [h2]; exact .inr ⟨u, S2, rfl, h3⟩
/-- a for that is never left -/
theorem forGo_all {src : Src} {t : CT} {body : Rho → Sto → SR} {items : List U} (Inv : Nat → Rho → Sto → Prop) (ov : ∀ i ρ S, Inv i ρ S → i ≤ items.length → src.at_ S i = some items[i]?)
    (step : ∀ i x ρ S, items[i]? = some x → Inv i ρ S → ∃ ρ', asgT t x ρ = some ρ' ∧ ∃ ρ2 S2, body ρ' S = .nx ρ2 S2 ∧ Inv (i + 1) ρ2 S2) {n : Nat} {ρ : Rho} {S : Sto} (hn : n = items.length) (hi : Inv 0 ρ S) : ∃ ρ' S', forGo src t body n 0 ρ S = .nx ρ' S' ∧ Inv items.length ρ' S' := by
  rcases forGo_inv Inv (fun _ _ => False) ov (fun i x ρ S h1 h2 => by
    obtain ⟨ρ', h3, ρ2, S2, h4, h5⟩ := step i x ρ S h1 h2
    exact ⟨ρ', h3, .inl ⟨ρ2, S2, .inl h4, h5⟩⟩) n 0 ρ S (by omega) hi with h | ⟨_, _, _, h⟩
  · exact h
  · exact h.elim
/-! ### equations -/
section
variable {T : Th}
theorem evN_lst {as : CEs} {ρ : Rho} {S : Sto} : evN T (.lst as) ρ S = (evs T as ρ S).bind fun us S1 => if us.length ≤ sizeLine then .ok us S1 else .no := by simp only [evN]
theorem evN_listOf {a : CE} {ρ : Rho} {S : Sto} : evN T (.listOf a) ρ S = (ev T a ρ S).bind fun u S1 => ofO S1 (seqOf S1 u) := by simp only [evN]
theorem evN_cat {a b : CE} {ρ : Rho} {S : Sto} : evN T (.cat a b) ρ S = (ev T a ρ S).bind fun u S1 => (ev T b ρ S1).bind fun w S2 => match lstH S2 u, lstH S2 w with
    | some xs, some ys => if xs.length + ys.length ≤ sizeLine then .ok (xs ++ ys) S2 else .no
    | _, _ => .no := by
  simp only [evN] <;> rfl
theorem sz_of {n : Nat} (h : n ≤ 10000) : n ≤ sizeLine := Nat.le_trans h (by decide +kernel)
theorem evN_map {tg : CT} {it : CI} {elt : CE} {own : List (Str × Nat)} {ρ : Rho} {S S1 : Sto} {src : Src} {items : List U} (g : U → U) (h1 : evI T it ρ S = .ok src S1) (ov : Over src (· = S1) items) (hl : src.len S1 = items.length) (hz : items.length ≤ 10000)
    (step : ∀ x, x ∈ items → ∃ ρ', asgT tg x (wipeR ρ (own.map (·.2))) = some ρ' ∧ ev T elt ρ' S1 = .ok (g x) S1) : evN T (.lc tg it .nil elt own) ρ S = .ok (items.map g) S1 := by
  simp only [evN, h1, Res.bind]
  refine lcGo_map ov (fun i x hx => ⟨g x, by rw [List.getElem?_map, hx]; rfl, ?_⟩) (List.length_map _) (sz_of hz) _ hl
  obtain ⟨ρ', h2, h3⟩ := step x (List.mem_of_getElem? hx)
  simp only [h2, h3]
theorem len_tup {S : Sto} {us : List U} : Src.len S (.seq (.tup us)) = us.length := rfl
theorem len_tl {S : Sto} {us : List U} : Src.len S (.seq (.tl us)) = us.length := rfl
theorem len_rng {S : Sto} {lo : Int} {n : Nat} : Src.len S (.rng lo n) = ((List.range n).map fun (i : Nat) => U.int (lo + i)).length := by simp [Src.len]
theorem len_enum {S : Sto} {u : U} {us : List U} (h : seqOf S u = some us) : Src.len S (.enum u) = (us.mapIdx fun i x => U.tup [.int i, x]).length := by simp [Src.len, h]
theorem len_zip {S : Sto} {st : Bool} {u w : U} {us ws : List U} (h : seqOf S u = some us) (h' : seqOf S w = some ws) : Src.len S (.zip st u w) = (List.zipWith (fun x y => U.tup [x, y]) us ws).length := by simp [Src.len, h, h']
theorem cmp_eqI {S : Sto} {i j : Int} : cmpE S .eq (.int i) (.int j) = some (decide (i = j)) := rfl
theorem cmpS_eq {S : Sto} {i j : Str} : cmpE S .eq (.str i) (.str j) = some (decide (i = j)) := rfl
theorem cmp_neI {S : Sto} {i j : Int} : cmpE S .ne (.int i) (.int j) = some (!decide (i = j)) := rfl
theorem cmpS_ne {S : Sto} {i j : Str} : cmpE S .ne (.str i) (.str j) = some (!decide (i = j)) := rfl
theorem cmpI_lt {S : Sto} {i j : Int} : cmpE S .lt (.int i) (.int j) = some (decide (i < j)) := rfl
theorem cmpI_le {S : Sto} {i j : Int} : cmpE S .le (.int i) (.int j) = some (decide (i ≤ j)) := rfl
theorem cmpI_gt {S : Sto} {i j : Int} : cmpE S .gt (.int i) (.int j) = some (decide (j < i)) := rfl
theorem cmpI_ge {S : Sto} {i j : Int} : cmpE S .ge (.int i) (.int j) = some (decide (j ≤ i)) := rfl
theorem intsOf_map : ∀ ns : List Int, intsOf (ns.map U.int) = some ns
  | [] => rfl
  | i :: r => by simp [intsOf, intsOf_map r]
theorem blsOf_map {α : Type} (f : α → Bool) : ∀ l : List α, blsOf (l.map fun x => U.bl (f x)) = some (l.map f)
  | [] => rfl
  | i :: r => by simp [blsOf, blsOf_map f r]
end
end Z

set_option Elab.async false
set_option linter.all false
set_option maxRecDepth 100000
set_option maxHeartbeats 1600000
/-! Z15: small data: compared, written. -/
namespace Z
open PySem PySem.Spec PyProof.Rows L2 RZ
def bnd : Nat → Nat
  | 0 => 60
  | n + 1 => 16 * bnd n
theorem bnd_ge : ∀ h, 60 ≤ bnd h
  | 0 => Nat.le_refl _
  | h + 1 => by have := bnd_ge h; show 60 ≤ 16 * bnd h; omega
theorem bnd_mono : ∀ {h k : Nat}, h ≤ k → bnd h ≤ bnd k
  | h, 0, e => by have : h = 0 := by omega
                  subst this; exact Nat.le_refl _
  | h, k + 1, e => by
    by_cases q : h ≤ k
    · have := bnd_mono q; show bnd h ≤ 16 * bnd k; omega
    · have : h = k + 1 := by omega
      subst this; exact Nat.le_refl _
def Dd (h : Nat) (u : U) (d : PyData) : Prop := (∀ S m, h < m → dat S m u = some d) ∧ d.canLay0 = true ∧ d.depth ≤ h ∧ d.showable = true ∧ d.shown.length ≤ bnd h
def Dk (h : Nat) (u : U) : Prop := ∃ d, Dd h u d
theorem Dk.mono {h k : Nat} {u : U} (x : Dk h u) (e : h ≤ k) : Dk k u := by
  obtain ⟨d, h1, h2, h3, h4, h5⟩ := x
  exact ⟨d, fun S m q => h1 S m (by omega), h2, by omega, h4, Nat.le_trans h5 (bnd_mono e)⟩
theorem Dk.non {h : Nat} : Dk h .non := ⟨.none, fun S m q => by cases m with | zero => omega | succ m => simp only [dat], rfl, Nat.zero_le _, rfl, by
  have e : (PyData.shown .none).length = 4 := rfl
  have := bnd_ge h; omega⟩
theorem Dk.bl {h : Nat} {b : Bool} : Dk h (.bl b) := ⟨.bool b, fun S m q => by cases m with | zero => omega | succ m => simp only [dat], rfl, Nat.zero_le _, rfl, by
  have e : (PyData.shown (.bool b)).length ≤ 5 := by cases b <;> decide
  have := bnd_ge h; omega⟩
theorem Dk.int {h : Nat} {i : Int} (hi : i.natAbs < 10 ^ 40) : Dk h (.int i) := ⟨.int i, fun S m q => by cases m with | zero => omega | succ m => simp only [dat], rfl, Nat.zero_le _, by
    show decide (i.natAbs.log2 < 1920) = true
    refine decide_eq_true ?_
    by_cases q : i.natAbs = 0
    · rw [q]; decide
    · exact (Nat.log2_lt q).mpr (Nat.lt_of_lt_of_le hi (by decide +kernel)), by
  have e := int_text_length_le10 (k := 40) (by decide) hi
  have e2 : (PyData.shown (.int i)).length = (toString i).length := PySem.ofString_length _
  have := bnd_ge h; omega⟩
theorem Dk.str {h : Nat} {s : Str} (h1 : PyData.strOk s = true) (h2 : (reprText s).length ≤ 60) : Dk h (.str s) := ⟨.str s, fun S m q => by cases m with | zero => omega | succ m => simp only [dat], h1, Nat.zero_le _, rfl, Nat.le_trans h2 (bnd_ge h)⟩
theorem Dk.all {h : Nat} : ∀ {us : List U}, (∀ u, u ∈ us → Dk h u) → ∃ ds, (∀ S m, h < m → datA S m us = some ds) ∧ PyData.canLayAll0 ds = true ∧ PyData.depthAll ds ≤ h ∧ PyData.showableAll ds = true ∧ ((PyData.shownAll ds).map (·.length)).sum ≤ us.length * bnd h ∧ (PyData.shownAll ds).length = us.length
  | [], _ => ⟨[], fun S m q => by simp only [datA], rfl, Nat.zero_le _, rfl, by simp [PyData.shownAll], rfl⟩
  | u :: us, x => by
    obtain ⟨d, a1, a2, a3, a4, a5⟩ := x u List.mem_cons_self
    obtain ⟨ds, b1, b2, b3, b4, b5, b6⟩ := Dk.all (us := us) fun v hv => x v (List.mem_cons_of_mem _ hv)
    refine ⟨d :: ds, fun S m q => by simp only [datA, a1 S m q, b1 S m q], ?_, ?_, ?_, ?_, ?_⟩
    · simp only [PyData.canLayAll0, a2, b2, Bool.and_self]
    · simp only [PyData.depthAll]; omega
    · simp only [PyData.showableAll, a4, b4, Bool.and_self]
    · simp only [PyData.shownAll, List.map_cons, List.sum_cons, List.length_cons, Nat.succ_mul]; omega
    · simp only [PyData.shownAll, List.length_cons, b6]
theorem mul_le12 {n b : Nat} (h : n ≤ 12) : n * b ≤ 12 * b := Nat.mul_le_mul_right b h
theorem Dk.tup {h : Nat} {us : List U} (x : ∀ u, u ∈ us → Dk h u) (hl : us.length ≤ 12) : Dk (h + 1) (.tup us) := by
  obtain ⟨ds, b1, b2, b3, b4, b5, b6⟩ := Dk.all x
  refine ⟨.tuple ds, fun S m q => ?_, b2, Nat.succ_le_succ b3, b4, ?_⟩
  · cases m with
    | zero => omega
    | succ m => simp only [dat, b1 S m (by omega), Option.map_some]
  · have := tupleText_len_le (PyData.shownAll ds)
    have h2 := mul_le12 (b := bnd h) hl
    have h3 := bnd_ge h
    rw [b6] at this
    show (tupleText (PyData.shownAll ds)).length ≤ 16 * bnd h
    omega
theorem Dk.tl {h : Nat} {us : List U} (x : ∀ u, u ∈ us → Dk h u) (hl : us.length ≤ 12) : Dk (h + 1) (.tl us) := by
  obtain ⟨ds, b1, b2, b3, b4, b5, b6⟩ := Dk.all x
  refine ⟨.list ds, fun S m q => ?_, b2, Nat.succ_le_succ b3, b4, ?_⟩
  · cases m with
    | zero => omega
    | succ m => simp only [dat, b1 S m (by omega), Option.map_some]
  · have := listText_len_le (PyData.shownAll ds)
    have h2 := mul_le12 (b := bnd h) hl
    have h3 := bnd_ge h
    rw [b6] at this
    show (listText (PyData.shownAll ds)).length ≤ 16 * bnd h
    omega
/-- repr -/
theorem Dk.repr {h : Nat} {u : U} (x : Dk h u) (hh : h ≤ 4) (hr : u.isRef = true) : ∃ s : Str, ∀ S, reprE S u = some (.str s) := by
  obtain ⟨d, h1, h2, h3, h4, h5⟩ := x
  refine ⟨d.shown, fun S => ?_⟩
  have hb : bnd h ≤ sizeLine := Nat.le_trans (bnd_mono hh) (by decide +kernel)
  unfold reprE
  rw [h1 S 12 (by omega)]
  have : (u.isRef && (d.showable && decide (d.shown.length ≤ sizeLine))) = true := by
    rw [hr, h4, decide_eq_true (Nat.le_trans h5 hb)]; rfl
  show (if (u.isRef && (d.showable && decide (d.shown.length ≤ sizeLine))) = true then some (U.str d.shown) else none) = _
  rw [if_pos this]
theorem Dk.shaped {h : Nat} {u : U} {d : PyData} (x : Dd h u d) (hh : h ≤ 11) : SeqAt.shaped d = true := by
  obtain ⟨h1, h2, h3, h4, h5⟩ := x
  unfold SeqAt.shaped
  rw [h2, decide_eq_true (by omega)]; rfl
/-- not the empty tuple -/
theorem Dk.neNil {h : Nat} {S : Sto} {u : U} {us : List U} (x : Dk h (.tup (u :: us))) (hh : h ≤ 11) : cmpE S .eq (.tup (u :: us)) (.tup []) = some false := by
  obtain ⟨d, x⟩ := x
  have hs := Dk.shaped x hh
  have hd := x.1 S 12 (by omega)
  show (match dat S 12 (.tup (u :: us)), dat S 12 (.tup []) with
      | some d, some e => if (SeqAt.shaped d && SeqAt.shaped e) = true then some (PyData.eqv d e) else none
      | _, _ => none) = _
  have hn : dat S 12 (.tup []) = some (.tuple []) := by simp only [dat, datA, Option.map_some]
  rw [hd, hn]
  have hs2 : SeqAt.shaped (.tuple []) = true := by decide +kernel
  show (if (SeqAt.shaped d && SeqAt.shaped (.tuple [])) = true then some (PyData.eqv d (.tuple [])) else none) = _
  rw [hs, hs2]
  show some (PyData.eqv d (.tuple [])) = _
  have : ∃ y ys, d = .tuple (y :: ys) := by
    have e := hd
    simp only [dat, datA, Option.map_eq_some_iff] at e
    obtain ⟨ds, e, rfl⟩ := e
    split at e
    · cases e; exact ⟨_, _, rfl⟩
    · cases e
  obtain ⟨y, ys, rfl⟩ := this
  simp only [PyData.eqv, PyData.eqvAll]
theorem binI_add {S : Sto} {i j : Int} : binE S .add (.int i) (.int j) = some (.int (i + j)) := rfl
theorem binI_sub {S : Sto} {i j : Int} : binE S .sub (.int i) (.int j) = some (.int (i - j)) := rfl
theorem log2_of {n k : Nat} (h : n < 2 ^ k) (hk : 0 < k) : n.log2 < k := by
  by_cases q : n = 0
  · subst q; simpa using hk
  · exact (Nat.log2_lt q).mpr h
theorem binI_mul {S : Sto} {i j : Int} (hi : i.natAbs < 2 ^ 400) (hj : j.natAbs < 2 ^ 400) : binE S .mul (.int i) (.int j) = some (.int (i * j)) := by
  have h1 := log2_of hi (by decide)
  have h2 := log2_of hj (by decide)
  show (if i.natAbs.log2 + j.natAbs.log2 < 1000000 then some (U.int (i * j)) else none) = _
  rw [if_pos (by omega)]
theorem binI_md {S : Sto} {i j : Int} (h : j ≠ 0) : binE S .md (.int i) (.int j) = some (.int (i.fmod j)) := by
  show (if j ≠ 0 then some (U.int (i.fmod j)) else none) = _
  rw [if_pos h]
theorem binI_fd {S : Sto} {i j : Int} (h : 0 < j) (hj : j.natAbs < 2 ^ 400) : binE S .fd (.int i) (.int j) = some (.int (i / j)) := by
  have h2 := log2_of hj (by decide)
  show (if 0 < j ∧ j.natAbs.log2 < 9000 then some (U.int (i / j)) else none) = _
  rw [if_pos ⟨h, by omega⟩]
theorem binI_pw {S : Sto} {i j : Int} (h : 0 ≤ j) (h' : j ≤ 1000000) (hi : i.natAbs < 2 ^ 64) : binE S .pw (.int i) (.int j) = some (.int (i ^ j.toNat)) := by
  show (if 0 ≤ j ∧ j ≤ 1000000 ∧ i.natAbs < 2 ^ 64 then some (U.int (i ^ j.toNat)) else none) = _
  rw [if_pos ⟨h, h', hi⟩]
theorem binT_add {S : Sto} {xs ys : List U} (h : xs.length + ys.length ≤ sizeLine) : binE S .add (.tup xs) (.tup ys) = some (.tup (xs ++ ys)) := by
  show (if xs.length + ys.length ≤ sizeLine then some (U.tup (xs ++ ys)) else none) = _
  rw [if_pos h]
theorem evI_rng1 {T : Th} {a : CE} {ρ : Rho} {S S1 : Sto} {n : Nat} (h : ev T a ρ S = .ok (.int n) S1) (hn : n ≤ 1000000) : evI T (.rng1 a) ρ S = .ok (.rng 0 n) S1 := by
  have hz : -(2 ^ 62) ≤ (n : Int) ∧ (n : Int) < 2 ^ 62 := ⟨by omega, by omega⟩
  simp only [evI, h, Res.bind, if_pos hz, Int.toNat_natCast]
end Z

set_option Elab.async false
set_option linter.all false
set_option maxRecDepth 100000
namespace K
open PySem PySem.Spec PyProof.Rows L2 Z
def top (i : Nat) : Stmt := PySem.Challenge.pw_laidroads_k80_papers_of_worths.main.body.getD i (.Pass ⟨0, 0, 0, 0⟩)
def N_is_whole : List Str := ["thing"]
def P_is_whole : List Str := ["thing"]
def c_is_whole : CSs := (.cons (.ret (.bop true (.cons (.isi (.var 0) .int) (.cons (.not (.isi (.var 0) .bool)) .nil))))
  .nil)
def N_is_from : List Str := ["thing", "least"]
def P_is_from : List Str := ["thing", "least"]
def c_is_from : CSs := (.cons (.ret (.bop true (.cons (.call "is_whole" (.cons (.var 0) .nil)) (.cons (.cmp .ge (.var 0) (.var 1)) .nil))))
  .nil)
def N_is_square : List Str := ["thing", "many", "row", "number"]
def P_is_square : List Str := ["thing", "many"]
def c_is_square_l1 : CN := (.lc (.name 3) (.seq (.var 2)) .nil (.call "is_whole" (.cons (.var 3) .nil)) [("number", 3)])
def c_is_square_b1 : CSs := (.cons (.ite (.bop false (.cons (.not (.isi (.var 2) .tuple)) (.cons (.cmp .ne (.bi .len (.cons (.var 2) .nil)) (.var 1)) (.cons (.not (.bi .all (.cons (.tmp c_is_square_l1) .nil))) .nil))))
  (.cons (.ret (.bl false))
  .nil)
  .nil)
  .nil)
def c_is_square : CSs := (.cons (.ite (.bop false (.cons (.not (.isi (.var 0) .tuple)) (.cons (.cmp .ne (.bi .len (.cons (.var 0) .nil)) (.var 1)) .nil)))
  (.cons (.ret (.bl false))
  .nil)
  .nil)
  (.cons (.for_ (.name 2) (.seq (.var 0)) c_is_square_b1)
  (.cons (.ret (.bl true))
  .nil)))
def N_is_among : List Str := ["thing", "many"]
def P_is_among : List Str := ["thing", "many"]
def c_is_among : CSs := (.cons (.ret (.bop true (.cons (.call "is_from" (.cons (.var 0) (.cons (.int 0) .nil))) (.cons (.cmp .lt (.var 0) (.var 1)) .nil))))
  .nil)
def N_is_web : List Str := ["thing", "row"]
def P_is_web : List Str := ["thing"]
def c_is_web_l1 : CN := (.lc (.name 1) (.seq (.var 0)) .nil (.cmp .ge (.bi .min (.cons (.var 1) .nil)) (.int 0)) [("row", 1)])
def c_is_web : CSs := (.cons (.ite (.bop false (.cons (.not (.isi (.var 0) .tuple)) (.cons (.not (.chn .le .le (.int 1) (.bi .len (.cons (.var 0) .nil)) (.glob "MOST_PLACES_webs"))) (.cons (.not (.call "is_square" (.cons (.var 0) (.cons (.bi .len (.cons (.var 0) .nil)) .nil)))) .nil))))
  (.cons (.ret (.bl false))
  .nil)
  .nil)
  (.cons (.ret (.bi .all (.cons (.tmp c_is_web_l1) .nil)))
  .nil))
def N_need_web : List Str := ["web"]
def P_need_web : List Str := ["web"]
def c_need_web : CSs := (.cons (.ite (.not (.call "is_web" (.cons (.var 0) .nil)))
  (.cons .nope
  .nil)
  .nil)
  .nil)
def N_is_worth_of : List Str := ["web", "m", "thing", "number", "row", "many", "other"]
def P_is_worth_of : List Str := ["web", "m", "thing"]
def c_is_worth_of_l1 : CN := (.lc (.name 3) (.seq (.var 2)) .nil (.call "is_among" (.cons (.var 3) (.cons (.var 1) .nil))) [("number", 3)])
def c_is_worth_of_l2 : CN := (.lc (.tup (.cons (.name 5) (.cons (.name 6) .nil))) (.zip true (.var 4) (.var 2)) .nil (.bin .mul (.var 5) (.var 6)) [("many", 5), ("other", 6)])
def c_is_worth_of_b1 : CSs := (.cons (.ite (.cmp .ne (.bin .md (.bin .sub (.var 3) (.bi .sum (.cons (.tmp c_is_worth_of_l2) .nil))) (.var 1)) (.int 0))
  (.cons (.ret (.bl false))
  .nil)
  .nil)
  .nil)
def c_is_worth_of : CSs := (.cons (.ite (.bop false (.cons (.not (.isi (.var 2) .tuple)) (.cons (.cmp .ne (.bi .len (.cons (.var 2) .nil)) (.bi .len (.cons (.var 0) .nil))) (.cons (.not (.bi .all (.cons (.tmp c_is_worth_of_l1) .nil))) .nil))))
  (.cons (.ret (.bl false))
  .nil)
  .nil)
  (.cons (.for_ (.tup (.cons (.name 3) (.cons (.name 4) .nil))) (.zip true (.var 2) (.var 0)) c_is_worth_of_b1)
  (.cons (.ret (.bl true))
  .nil)))
def N_worth_clauses : List Str := ["paper", "web", "m", "worth"]
def P_worth_clauses : List Str := ["paper"]
def c_worth_clauses : CSs := (.cons (.asg (.tup (.cons (.name 1) (.cons (.name 2) (.cons (.name 3) .nil)))) (.sl (.var 0) (.cons (.int 1) .nil) .nil))
  (.cons (.ite (.not (.call "is_from" (.cons (.var 2) (.cons (.int 2) .nil))))
  (.cons (.ret (.int 0))
  .nil)
  .nil)
  (.cons (.ret (.ite (.call "is_worth_of" (.cons (.var 1) (.cons (.var 2) (.cons (.var 3) .nil)))) .non (.int 1)))
  .nil)))
def N_need_paper : List Str := ["paper"]
def P_need_paper : List Str := ["paper"]
def c_need_paper : CSs := (.cons (.ite (.bop false (.cons (.not (.isi (.var 0) .tuple)) (.cons (.cmp .eq (.var 0) (.tup .nil)) (.cons (.not (.isi (.idx (.var 0) (.int 0)) .str)) (.cons (.din "PARTS" true (.idx (.var 0) (.int 0))) .nil)))))
  (.cons .nope
  .nil)
  .nil)
  (.cons (.ite (.cmp .ne (.bi .len (.cons (.var 0) .nil)) (.dget "PARTS" (.idx (.var 0) (.int 0))))
  (.cons .nope
  .nil)
  .nil)
  (.cons (.expr (.call "need_web" (.cons (.idx (.var 0) (.int 1)) .nil)))
  (.cons (.ite (.cmp .inn (.idx (.var 0) (.int 0)) (.glob "OF_TWO"))
  (.cons (.expr (.call "need_web" (.cons (.idx (.var 0) (.int 2)) .nil)))
  .nil)
  .nil)
  .nil))))
def N_look : List Str := ["paper", "clauses", "wrong"]
def P_look : List Str := ["paper"]
def c_look : CSs := (.cons (.expr (.call "need_paper" (.cons (.var 0) .nil)))
  (.cons (.asg (.name 1) (.dget "CLAUSES" (.idx (.var 0) (.int 0))))
  (.cons (.asg (.name 2) (.callL 1 (.cons (.var 0) .nil)))
  (.cons (.ret (.ite (.isN (.var 2)) (.tup (.cons (.str "right") .nil)) (.tup (.cons (.str "wrong") (.cons (.var 2) .nil)))))
  .nil))))
def N__law_spread : List Str := ["_law_cell", "_law_at", "_law_primes", "_law_mixed", "_law_one_here", "_law_two", "_law_three"]
def P__law_spread : List Str := ["_law_cell", "_law_at"]
def c__law_spread : CSs := (.cons (.ite (.cmp .ge (.var 0) (.bin .pw (.int 10) (.int 18)))
  (.cons (.ret (.var 0))
  .nil)
  .nil)
  (.cons (.asg (.name 2) (.tmp (.lst (.cons (.int 2147483629) (.cons (.int 2147483587) (.cons (.int 2147483579) (.cons (.int 2147483563) (.cons (.int 2147483549) (.cons (.int 2147483543) (.cons (.int 2147483497) .nil))))))))))
  (.cons (.asg (.name 2) (.bin .add (.var 2) (.tmp (.lst (.cons (.int 2147483489) (.cons (.int 2147483477) (.cons (.int 2147483423) (.cons (.int 2147483399) (.cons (.int 2147483353) (.cons (.int 2147483323) .nil))))))))))
  (.cons (.asg (.name 3) (.bin .add (.bin .add (.bin .mul (.bin .md (.var 0) (.int 1000000007)) (.bin .add (.bin .mul (.int 2) (.var 1)) (.int 69069))) (.bin .mul (.var 1) (.int 40503))) (.int 977)))
  (.cons (.asg (.name 4) (.bin .md (.bin .pw (.var 3) (.int 3)) (.idx (.var 2) (.bin .md (.var 1) (.int 13)))))
  (.cons (.asg (.name 5) (.bin .md (.bin .pw (.bin .add (.bin .add (.bin .mul (.var 4) (.bin .add (.var 1) (.int 3))) (.bin .md (.var 0) (.int 65537))) (.int 5)) (.int 5)) (.idx (.var 2) (.bin .md (.bin .add (.var 1) (.int 5)) (.int 13)))))
  (.cons (.asg (.name 6) (.bin .md (.bin .pw (.bin .add (.bin .add (.var 5) (.bin .md (.var 4) (.int 1009))) (.var 1)) (.int 3)) (.idx (.var 2) (.bin .md (.bin .add (.var 1) (.int 7)) (.int 13)))))
  (.cons (.ret (.bin .add (.bin .mul (.bin .add (.bin .mul (.var 4) (.int 2147483647)) (.var 5)) (.int 2147483647)) (.var 6)))
  .nil))))))))
def N__law_open : List Str := ["_law_script", "_law_cells", "_law_k", "_law_cell"]
def P__law_open : List Str := ["_law_script"]
def c__law_open_b1 : CSs := (.cons (.setI (.var 1) (.bin .md (.var 2) (.int 12)) (.bin .add (.idx (.var 1) (.bin .md (.var 2) (.int 12))) (.var 3)))
  .nil)
def c__law_open : CSs := (.cons (.asg (.name 1) (.mk (.listOf (.sl (.var 0) .nil (.cons (.int 12) .nil)))))
  (.cons (.for_ (.tup (.cons (.name 2) (.cons (.name 3) .nil))) (.enum (.sl (.var 0) (.cons (.int 12) .nil) (.cons (.int 63) .nil))) c__law_open_b1)
  (.cons (.ret (.mk (.lst (.cons (.var 1) (.cons (.int 0) (.cons (.int 0) .nil))))))
  .nil)))
def N__law_anew : List Str := ["_law_pen"]
def P__law_anew : List Str := ["_law_pen"]
def c__law_anew : CSs := (.cons (.setI (.var 0) (.int 2) (.int 0))
  (.cons (.ret (.var 0))
  .nil))
def N__law_take : List Str := ["_law_pen", "_law_many", "_law_at", "_law_cell", "_law_found"]
def P__law_take : List Str := ["_law_pen", "_law_many"]
def c__law_take : CSs := (.cons (.ite (.cmp .lt (.idx (.var 0) (.int 2)) (.var 1))
  (.cons (.asg (.name 2) (.idx (.var 0) (.int 1)))
  (.cons (.asg (.name 3) (.int 0))
  (.cons (.ite (.cmp .lt (.var 2) (.bi .len (.cons (.idx (.var 0) (.int 0)) .nil)))
  (.cons (.asg (.name 3) (.idx (.idx (.var 0) (.int 0)) (.var 2)))
  .nil)
  (.cons (.ite (.cmp .gt (.bi .len (.cons (.idx (.var 0) (.int 0)) .nil)) (.int 0))
  (.cons (.asg (.name 3) (.bin .md (.idx (.idx (.var 0) (.int 0)) (.bin .md (.bin .add (.bin .mul (.var 2) (.int 5)) (.int 3)) (.bi .len (.cons (.idx (.var 0) (.int 0)) .nil)))) (.bin .add (.bin .pw (.int 10) (.int 17)) (.var 2))))
  .nil)
  .nil)
  .nil))
  (.cons (.setI (.var 0) (.int 1) (.bin .add (.var 2) (.int 1)))
  (.cons (.setI (.var 0) (.int 2) (.call "_law_spread" (.cons (.var 3) (.cons (.var 2) .nil))))
  .nil)))))
  .nil)
  (.cons (.asg (.name 4) (.bin .md (.idx (.var 0) (.int 2)) (.var 1)))
  (.cons (.setI (.var 0) (.int 2) (.bin .fd (.idx (.var 0) (.int 2)) (.var 1)))
  (.cons (.ret (.var 4))
  .nil))))
def N__law_one : List Str := ["_law_pen", "_law_some"]
def P__law_one : List Str := ["_law_pen", "_law_some"]
def c__law_one : CSs := (.cons (.ret (.idx (.var 1) (.call "_law_take" (.cons (.var 0) (.cons (.bi .len (.cons (.var 1) .nil)) .nil)))))
  .nil)
def N__law_is_whole : List Str := ["_law_thing"]
def P__law_is_whole : List Str := ["_law_thing"]
def c__law_is_whole : CSs := (.cons (.ret (.bop true (.cons (.isi (.var 0) .int) (.cons (.not (.isi (.var 0) .bool)) .nil))))
  .nil)
def N__law_bent : List Str := ["_law_pen", "_law_thing", "_law_deep", "_law_at", "_law_number", "_law_strange", "_law_some"]
def P__law_bent : List Str := ["_law_pen", "_law_thing", "_law_deep"]
def c__law_bent : CSs := (.cons (.ite (.bop true (.cons (.isi (.var 1) .tuple) (.cons (.cmp .ne (.var 1) (.tup .nil)) (.cons (.cmp .gt (.var 2) (.int 0)) (.cons (.cmp .gt (.call "_law_take" (.cons (.var 0) (.cons (.int 4) .nil))) (.int 0)) .nil)))))
  (.cons (.asg (.name 3) (.call "_law_take" (.cons (.var 0) (.cons (.bi .len (.cons (.var 1) .nil)) .nil))))
  (.cons (.ret (.bin .add (.bin .add (.sl (.var 1) .nil (.cons (.var 3) .nil)) (.tup (.cons (.call "_law_bent" (.cons (.var 0) (.cons (.idx (.var 1) (.var 3)) (.cons (.bin .sub (.var 2) (.int 1)) .nil)))) .nil))) (.sl (.var 1) (.cons (.bin .add (.var 3) (.int 1)) .nil) .nil)))
  .nil))
  .nil)
  (.cons (.asg (.name 4) (.bin .sub (.call "_law_take" (.cons (.var 0) (.cons (.int 12) .nil))) (.int 2)))
  (.cons (.asg (.name 5) (.call "_law_one" (.cons (.var 0) (.cons (.tmp (.lst (.cons .non (.cons (.bl true) (.cons (.bl false) (.cons (.str "") (.cons (.str "0") (.cons (.tup .nil) (.cons (.tmp (.lst .nil)) (.cons (.bin .pw (.int 10) (.int 20)) (.cons (.neg (.int 1)) (.cons (.tup (.cons (.int 0) .nil)) (.cons (.tmp (.lst (.cons (.int 0) .nil))) (.cons (.int 0) .nil)))))))))))))) .nil))))
  (.cons (.ite (.isi (.var 1) .tuple)
  (.cons (.asg (.name 6) (.tmp (.lst (.cons (.tmp (.listOf (.var 1))) (.cons (.bin .add (.var 1) (.sl (.var 1) .nil (.cons (.int 1) .nil))) (.cons (.sl (.var 1) .nil (.cons (.neg (.int 1)) .nil)) (.cons (.rev (.var 1)) (.cons (.bin .add (.var 1) (.tup (.cons (.var 4) .nil))) (.cons (.sl (.var 1) (.cons (.int 1) .nil) .nil) (.cons (.tup (.cons (.var 1) .nil)) .nil))))))))))
  (.cons (.ret (.call "_law_one" (.cons (.var 0) (.cons (.bin .add (.var 6) (.tmp (.lst (.cons (.var 5) .nil)))) .nil))))
  .nil))
  .nil)
  (.cons (.ite (.call "_law_is_whole" (.cons (.var 1) .nil))
  (.cons (.ret (.call "_law_one" (.cons (.var 0) (.cons (.tmp (.lst (.cons (.var 4) (.cons (.var 4) (.cons (.cmp .eq (.var 1) (.int 1)) (.cons (.bin .add (.var 1) (.int 1)) (.cons (.bin .sub (.var 1) (.int 1)) (.cons (.var 5) .nil)))))))) .nil))))
  .nil)
  .nil)
  (.cons (.ret (.var 5))
  .nil))))))
def N__law_looked : List Str := ["_law_paper", "_law_caught", "_law_found", "e"]
def P__law_looked : List Str := ["_law_paper"]
def c__law_looked : CSs := (.cons (.asg (.tup (.cons (.name 1) (.cons (.name 2) .nil))) (.tup (.cons .non (.cons .non .nil))))
  (.cons (.tryT (.cons (.asg (.name 2) (.call "look" (.cons (.var 0) .nil)))
  .nil))
  (.cons (.ret (.ite (.isN (.var 1)) (.var 2) .nope))
  .nil)))
def N__law_sure : List Str := ["_law_pen", "_law_many", "_law_m", "_law_worth", "_law_one_here", "_law_rows", "_law_place", "_law_row", "_law_rest", "_law_other", "_law_number"]
def P__law_sure : List Str := ["_law_pen", "_law_many"]
def c__law_sure_l1 : CN := (.lc (.name 6) (.rng1 (.var 1)) .nil (.call "_law_take" (.cons (.var 0) (.cons (.var 2) .nil))) [("_law_place", 6)])
def c__law_sure_l2 : CN := (.lc (.name 9) (.rng1 (.var 1)) .nil (.call "_law_take" (.cons (.var 0) (.cons (.int 4) .nil))) [("_law_other", 9)])
def c__law_sure_l3 : CN := (.lc (.tup (.cons (.name 10) (.cons (.name 9) .nil))) (.zip false (.var 7) (.var 3)) .nil (.bin .mul (.var 10) (.var 9)) [("_law_number", 10), ("_law_other", 9)])
def c__law_sure_b1 : CSs := (.cons (.asg (.name 7) (.mk c__law_sure_l2))
  (.cons (.setI (.var 7) (.var 4) (.int 0))
  (.cons (.asg (.name 8) (.bin .sub (.idx (.var 3) (.var 6)) (.bi .sum (.cons (.tmp c__law_sure_l3) .nil))))
  (.cons (.setI (.var 7) (.var 4) (.bin .md (.var 8) (.var 2)))
  (.cons (.app (.var 5) (.bi .tuple (.cons (.var 7) .nil)))
  .nil)))))
def c__law_sure : CSs := (.cons (.asg (.name 2) (.bin .add (.int 2) (.call "_law_take" (.cons (.var 0) (.cons (.call "_law_one" (.cons (.var 0) (.cons (.tmp (.lst (.cons (.int 5) (.cons (.int 40) (.cons (.bin .pw (.int 10) (.int 9)) .nil))))) .nil))) .nil)))))
  (.cons (.asg (.name 3) (.mk c__law_sure_l1))
  (.cons (.asg (.name 4) (.call "_law_take" (.cons (.var 0) (.cons (.var 1) .nil))))
  (.cons (.setI (.var 3) (.var 4) (.int 1))
  (.cons (.asg (.name 5) (.mk (.lst .nil)))
  (.cons (.for_ (.name 6) (.rng1 (.var 1)) c__law_sure_b1)
  (.cons (.ret (.tup (.cons (.bi .tuple (.cons (.var 5) .nil)) (.cons (.var 2) (.cons (.bi .tuple (.cons (.var 3) .nil)) .nil)))))
  .nil)))))))
def N__law_due : List Str := ["_law_web", "_law_m", "_law_thing", "_law_place", "_law_row", "_law_number", "_law_many"]
def P__law_due : List Str := ["_law_web", "_law_m", "_law_thing"]
def c__law_due_l1 : CN := (.lc (.name 5) (.seq (.var 2)) .nil (.bop true (.cons (.call "_law_is_whole" (.cons (.var 5) .nil)) (.cons (.chn .le .lt (.int 0) (.var 5) (.var 1)) .nil))) [("_law_number", 5)])
def c__law_due_l2 : CN := (.lc (.tup (.cons (.name 6) (.cons (.name 5) .nil))) (.zip false (.var 4) (.var 2)) .nil (.bin .mul (.var 6) (.var 5)) [("_law_many", 6), ("_law_number", 5)])
def c__law_due_b1 : CSs := (.cons (.ite (.cmp .ne (.bin .md (.bin .sub (.idx (.var 2) (.var 3)) (.bi .sum (.cons (.tmp c__law_due_l2) .nil))) (.var 1)) (.int 0))
  (.cons (.ret (.tup (.cons (.str "wrong") (.cons (.int 1) .nil))))
  .nil)
  .nil)
  .nil)
def c__law_due : CSs := (.cons (.ite (.bop false (.cons (.not (.call "_law_is_whole" (.cons (.var 1) .nil))) (.cons (.cmp .lt (.var 1) (.int 2)) .nil)))
  (.cons (.ret (.tup (.cons (.str "wrong") (.cons (.int 0) .nil))))
  .nil)
  .nil)
  (.cons (.ite (.bop false (.cons (.not (.isi (.var 2) .tuple)) (.cons (.cmp .ne (.bi .len (.cons (.var 2) .nil)) (.bi .len (.cons (.var 0) .nil))) .nil)))
  (.cons (.ret (.tup (.cons (.str "wrong") (.cons (.int 1) .nil))))
  .nil)
  .nil)
  (.cons (.ite (.cmp .inn (.bl false) (.tmp c__law_due_l1))
  (.cons (.ret (.tup (.cons (.str "wrong") (.cons (.int 1) .nil))))
  .nil)
  .nil)
  (.cons (.for_ (.tup (.cons (.name 3) (.cons (.name 4) .nil))) (.enum (.var 0)) c__law_due_b1)
  (.cons (.ret (.tup (.cons (.str "right") .nil)))
  .nil)))))
def N_law : List Str := ["_law_script", "_law_pen", "_law_turn", "_law_web", "_law_m", "_law_worth", "_law_at", "_law_some", "_law_thing", "_law_by", "_law_paper", "_law_kept", "_law_number"]
def P_law : List Str := ["_law_script"]
def c_law_l1 : CN := (.lc (.name 12) (.seq (.var 5)) .nil (.bin .md (.bin .mul (.int 2) (.var 12)) (.var 4)) [("_law_number", 12)])
def c_law_l2 : CN := (.lc (.name 12) (.seq (.var 5)) .nil (.bin .add (.var 12) (.var 4)) [("_law_number", 12)])
def c_law_l3 : CN := (.lc (.name 12) (.seq (.var 5)) .nil (.cmp .eq (.var 12) (.int 1)) [("_law_number", 12)])
def c_law_b1 : CSs := (.cons (.asg (.name 10) (.tup (.cons (.str "worth") (.cons (.var 3) (.cons (.var 9) (.cons (.var 8) .nil))))))
  (.cons (.asg (.name 11) (.repr (.var 10)))
  (.cons (.ite (.bop false (.cons (.cmp .ne (.repr (.call "_law_looked" (.cons (.var 10) .nil))) (.repr (.call "_law_due" (.cons (.var 3) (.cons (.var 9) (.cons (.var 8) .nil)))))) (.cons (.cmp .ne (.repr (.var 10)) (.var 11)) .nil)))
  (.cons (.ret (.bl false))
  .nil)
  .nil)
  .nil)))
def c_law_b2 : CSs := (.cons (.for_ (.name 9) (.seq (.tmp (.lst (.cons (.var 4) (.cons (.var 4) (.cons (.int 2) (.cons (.bin .mul (.int 2) (.var 4)) (.cons (.call "_law_one" (.cons (.var 1) (.cons (.tmp (.lst (.cons (.int 1) (.cons (.int 0) (.cons (.neg (.int 2)) (.cons .non (.cons (.bl true) (.cons (.str "2") (.cons (.tup (.cons (.int 2) .nil)) .nil))))))))) .nil))) .nil)))))))) c_law_b1)
  .nil)
def c_law_b3 : CSs := (.cons (.asg (.tup (.cons (.name 3) (.cons (.name 4) (.cons (.name 5) .nil)))) (.call "_law_sure" (.cons (.call "_law_anew" (.cons (.var 1) .nil)) (.cons (.bin .add (.int 1) (.call "_law_take" (.cons (.var 1) (.cons (.int 8) .nil)))) .nil))))
  (.cons (.asg (.name 6) (.call "_law_take" (.cons (.var 1) (.cons (.bi .len (.cons (.var 3) .nil)) .nil))))
  (.cons (.asg (.name 7) (.mk (.lst (.cons (.var 5) (.cons (.bin .mul (.tup (.cons (.int 0) .nil)) (.bi .len (.cons (.var 3) .nil))) (.cons (.tmp (.listOf (.var 5))) (.cons (.sl (.var 5) (.cons (.int 1) .nil) .nil) (.cons (.bin .add (.var 5) (.tup (.cons (.int 0) .nil))) .nil))))))))
  (.cons (.asg (.name 7) (.mk (.cat (.var 7) (.tmp (.lst (.cons (.bi .tuple (.cons (.tmp c_law_l1) .nil)) (.cons (.bi .tuple (.cons (.tmp c_law_l2) .nil)) .nil)))))))
  (.cons (.app (.var 7) (.bin .add (.bin .add (.sl (.var 5) .nil (.cons (.var 6) .nil)) (.tup (.cons (.bin .md (.bin .add (.idx (.var 5) (.var 6)) (.int 1)) (.var 4)) .nil))) (.sl (.var 5) (.cons (.bin .add (.var 6) (.int 1)) .nil) .nil)))
  (.cons (.asg (.name 7) (.mk (.cat (.var 7) (.tmp (.lst (.cons (.call "_law_bent" (.cons (.var 1) (.cons (.var 5) (.cons (.int 1) .nil)))) (.cons (.bi .tuple (.cons (.tmp c_law_l3) .nil)) (.cons .non (.cons (.int 0) .nil)))))))))
  (.cons (.for_ (.name 8) (.seq (.var 7)) c_law_b2)
  .nil)))))))
def c_law : CSs := (.cons (.asg (.name 1) (.call "_law_open" (.cons (.var 0) .nil)))
  (.cons (.for_ (.name 2) (.rng1 (.int 5)) c_law_b3)
  (.cons (.ret (.bl true))
  .nil)))

theorem m_is_whole : matchSs N_is_whole (defScope (top 23)) c_is_whole (defBody (top 23)) = true := by decide +kernel
theorem s_is_whole : FnScope N_is_whole P_is_whole (defScope (top 23)) := ⟨by decide +kernel, by decide +kernel, by decide +kernel, by decide +kernel, by decide +kernel, by decide +kernel, by decide +kernel⟩
theorem m_is_from : matchSs N_is_from (defScope (top 24)) c_is_from (defBody (top 24)) = true := by decide +kernel
theorem s_is_from : FnScope N_is_from P_is_from (defScope (top 24)) := ⟨by decide +kernel, by decide +kernel, by decide +kernel, by decide +kernel, by decide +kernel, by decide +kernel, by decide +kernel⟩
theorem m_is_square : matchSs N_is_square (defScope (top 25)) c_is_square (defBody (top 25)) = true := by decide +kernel
theorem s_is_square : FnScope N_is_square P_is_square (defScope (top 25)) := ⟨by decide +kernel, by decide +kernel, by decide +kernel, by decide +kernel, by decide +kernel, by decide +kernel, by decide +kernel⟩
theorem m_is_among : matchSs N_is_among (defScope (top 33)) c_is_among (defBody (top 33)) = true := by decide +kernel
theorem s_is_among : FnScope N_is_among P_is_among (defScope (top 33)) := ⟨by decide +kernel, by decide +kernel, by decide +kernel, by decide +kernel, by decide +kernel, by decide +kernel, by decide +kernel⟩
theorem m_is_web : matchSs N_is_web (defScope (top 34)) c_is_web (defBody (top 34)) = true := by decide +kernel
theorem s_is_web : FnScope N_is_web P_is_web (defScope (top 34)) := ⟨by decide +kernel, by decide +kernel, by decide +kernel, by decide +kernel, by decide +kernel, by decide +kernel, by decide +kernel⟩
theorem m_need_web : matchSs N_need_web (defScope (top 35)) c_need_web (defBody (top 35)) = true := by decide +kernel
theorem s_need_web : FnScope N_need_web P_need_web (defScope (top 35)) := ⟨by decide +kernel, by decide +kernel, by decide +kernel, by decide +kernel, by decide +kernel, by decide +kernel, by decide +kernel⟩
theorem m_is_worth_of : matchSs N_is_worth_of (defScope (top 55)) c_is_worth_of (defBody (top 55)) = true := by decide +kernel
theorem s_is_worth_of : FnScope N_is_worth_of P_is_worth_of (defScope (top 55)) := ⟨by decide +kernel, by decide +kernel, by decide +kernel, by decide +kernel, by decide +kernel, by decide +kernel, by decide +kernel⟩
theorem m_worth_clauses : matchSs N_worth_clauses (defScope (top 65)) c_worth_clauses (defBody (top 65)) = true := by decide +kernel
theorem s_worth_clauses : FnScope N_worth_clauses P_worth_clauses (defScope (top 65)) := ⟨by decide +kernel, by decide +kernel, by decide +kernel, by decide +kernel, by decide +kernel, by decide +kernel, by decide +kernel⟩
theorem m_need_paper : matchSs N_need_paper (defScope (top 67)) c_need_paper (defBody (top 67)) = true := by decide +kernel
theorem s_need_paper : FnScope N_need_paper P_need_paper (defScope (top 67)) := ⟨by decide +kernel, by decide +kernel, by decide +kernel, by decide +kernel, by decide +kernel, by decide +kernel, by decide +kernel⟩
theorem m_look : matchSs N_look (defScope (top 68)) c_look (defBody (top 68)) = true := by decide +kernel
theorem s_look : FnScope N_look P_look (defScope (top 68)) := ⟨by decide +kernel, by decide +kernel, by decide +kernel, by decide +kernel, by decide +kernel, by decide +kernel, by decide +kernel⟩
theorem m__law_spread : matchSs N__law_spread (defScope (top 70)) c__law_spread (defBody (top 70)) = true := by decide +kernel
theorem s__law_spread : FnScope N__law_spread P__law_spread (defScope (top 70)) := ⟨by decide +kernel, by decide +kernel, by decide +kernel, by decide +kernel, by decide +kernel, by decide +kernel, by decide +kernel⟩
theorem m__law_open : matchSs N__law_open (defScope (top 71)) c__law_open (defBody (top 71)) = true := by decide +kernel
theorem s__law_open : FnScope N__law_open P__law_open (defScope (top 71)) := ⟨by decide +kernel, by decide +kernel, by decide +kernel, by decide +kernel, by decide +kernel, by decide +kernel, by decide +kernel⟩
theorem m__law_anew : matchSs N__law_anew (defScope (top 72)) c__law_anew (defBody (top 72)) = true := by decide +kernel
theorem s__law_anew : FnScope N__law_anew P__law_anew (defScope (top 72)) := ⟨by decide +kernel, by decide +kernel, by decide +kernel, by decide +kernel, by decide +kernel, by decide +kernel, by decide +kernel⟩
theorem m__law_take : matchSs N__law_take (defScope (top 73)) c__law_take (defBody (top 73)) = true := by decide +kernel
theorem s__law_take : FnScope N__law_take P__law_take (defScope (top 73)) := ⟨by decide +kernel, by decide +kernel, by decide +kernel, by decide +kernel, by decide +kernel, by decide +kernel, by decide +kernel⟩
theorem m__law_one : matchSs N__law_one (defScope (top 74)) c__law_one (defBody (top 74)) = true := by decide +kernel
theorem s__law_one : FnScope N__law_one P__law_one (defScope (top 74)) := ⟨by decide +kernel, by decide +kernel, by decide +kernel, by decide +kernel, by decide +kernel, by decide +kernel, by decide +kernel⟩
theorem m__law_is_whole : matchSs N__law_is_whole (defScope (top 75)) c__law_is_whole (defBody (top 75)) = true := by decide +kernel
theorem s__law_is_whole : FnScope N__law_is_whole P__law_is_whole (defScope (top 75)) := ⟨by decide +kernel, by decide +kernel, by decide +kernel, by decide +kernel, by decide +kernel, by decide +kernel, by decide +kernel⟩
theorem m__law_bent : matchSs N__law_bent (defScope (top 76)) c__law_bent (defBody (top 76)) = true := by decide +kernel
theorem s__law_bent : FnScope N__law_bent P__law_bent (defScope (top 76)) := ⟨by decide +kernel, by decide +kernel, by decide +kernel, by decide +kernel, by decide +kernel, by decide +kernel, by decide +kernel⟩
theorem m__law_looked : matchSs N__law_looked (defScope (top 78)) c__law_looked (defBody (top 78)) = true := by decide +kernel
theorem s__law_looked : FnScope N__law_looked P__law_looked (defScope (top 78)) := ⟨by decide +kernel, by decide +kernel, by decide +kernel, by decide +kernel, by decide +kernel, by decide +kernel, by decide +kernel⟩
theorem m__law_sure : matchSs N__law_sure (defScope (top 79)) c__law_sure (defBody (top 79)) = true := by decide +kernel
theorem s__law_sure : FnScope N__law_sure P__law_sure (defScope (top 79)) := ⟨by decide +kernel, by decide +kernel, by decide +kernel, by decide +kernel, by decide +kernel, by decide +kernel, by decide +kernel⟩
theorem m__law_due : matchSs N__law_due (defScope (top 80)) c__law_due (defBody (top 80)) = true := by decide +kernel
theorem s__law_due : FnScope N__law_due P__law_due (defScope (top 80)) := ⟨by decide +kernel, by decide +kernel, by decide +kernel, by decide +kernel, by decide +kernel, by decide +kernel, by decide +kernel⟩
theorem m_law : matchSs N_law (defScope (top 81)) c_law (defBody (top 81)) = true := by decide +kernel
theorem s_law : FnScope N_law P_law (defScope (top 81)) := ⟨by decide +kernel, by decide +kernel, by decide +kernel, by decide +kernel, by decide +kernel, by decide +kernel, by decide +kernel⟩
end K

set_option Elab.async false
set_option linter.all false
set_option maxRecDepth 100000
set_option maxHeartbeats 1600000
namespace K
open PySem PySem.Spec PyProof.Rows L2 Z
def FU : Nat := 1000000
def dParts : Str → Option (Option U) := fun z => if z = "worth" then some (some (.int 4)) else none
def dClauses : Str → Option (Option U) := fun z => if z = "worth" then some (some (.fn "worth_clauses")) else none
theorem dParts_worth : dParts "worth" = some (some (.int 4)) := if_pos rfl
theorem dClauses_worth : dClauses "worth" = some (some (.fn "worth_clauses")) := if_pos rfl
def T0 : Th where
  dom := fun _ => false
  fn := fun _ _ _ => .no
  gl := fun x => if x = "MOST_PLACES_webs" then some (.int 8) else if x = "OF_TWO" then some (.tup [.str "led", .str "parted", .str "sign"]) else none
  meth := fun _ _ _ _ => none
  dct := fun x => if x = "PARTS" then some dParts else if x = "CLAUSES" then some dClauses else none
def f_is_whole : List U → Sto → Res U := fnOf T0 FU N_is_whole P_is_whole c_is_whole
theorem b_is_whole {u0 : U} {S : Sto} : f_is_whole [u0] S = (evSs T0 FU c_is_whole (startR N_is_whole [u0]) S).res := fnOf_eq rfl
theorem r_is_whole {u0 : U} : startR N_is_whole [u0] = [some u0] ++ List.replicate (N_is_whole.length - 1) none := rfl
def T1 : Th := T0.add "is_whole" f_is_whole
def f_is_from : List U → Sto → Res U := fnOf T1 FU N_is_from P_is_from c_is_from
theorem d_is_from__is_whole : T1.dom "is_whole" = true := by decide +kernel
theorem t_is_from__is_whole : T1.fn "is_whole" = f_is_whole := by kernel_rfl
theorem b_is_from {u0 u1 : U} {S : Sto} : f_is_from [u0, u1] S = (evSs T1 FU c_is_from (startR N_is_from [u0, u1]) S).res := fnOf_eq rfl
theorem r_is_from {u0 u1 : U} : startR N_is_from [u0, u1] = [some u0, some u1] ++ List.replicate (N_is_from.length - 2) none := rfl
def T2 : Th := T1.add "is_from" f_is_from
def f_is_square : List U → Sto → Res U := fnOf T2 FU N_is_square P_is_square c_is_square
theorem d_is_square__is_whole : T2.dom "is_whole" = true := by decide +kernel
theorem t_is_square__is_whole : T2.fn "is_whole" = f_is_whole := by kernel_rfl
theorem b_is_square {u0 u1 : U} {S : Sto} : f_is_square [u0, u1] S = (evSs T2 FU c_is_square (startR N_is_square [u0, u1]) S).res := fnOf_eq rfl
theorem r_is_square {u0 u1 : U} : startR N_is_square [u0, u1] = [some u0, some u1] ++ List.replicate (N_is_square.length - 2) none := rfl
def T3 : Th := T2.add "is_square" f_is_square
def f_is_among : List U → Sto → Res U := fnOf T3 FU N_is_among P_is_among c_is_among
theorem d_is_among__is_from : T3.dom "is_from" = true := by decide +kernel
theorem t_is_among__is_from : T3.fn "is_from" = f_is_from := by kernel_rfl
theorem b_is_among {u0 u1 : U} {S : Sto} : f_is_among [u0, u1] S = (evSs T3 FU c_is_among (startR N_is_among [u0, u1]) S).res := fnOf_eq rfl
theorem r_is_among {u0 u1 : U} : startR N_is_among [u0, u1] = [some u0, some u1] ++ List.replicate (N_is_among.length - 2) none := rfl
def T4 : Th := T3.add "is_among" f_is_among
def f_is_web : List U → Sto → Res U := fnOf T4 FU N_is_web P_is_web c_is_web
theorem d_is_web__is_square : T4.dom "is_square" = true := by decide +kernel
theorem t_is_web__is_square : T4.fn "is_square" = f_is_square := by kernel_rfl
theorem b_is_web {u0 : U} {S : Sto} : f_is_web [u0] S = (evSs T4 FU c_is_web (startR N_is_web [u0]) S).res := fnOf_eq rfl
theorem r_is_web {u0 : U} : startR N_is_web [u0] = [some u0] ++ List.replicate (N_is_web.length - 1) none := rfl
def T5 : Th := T4.add "is_web" f_is_web
def f_need_web : List U → Sto → Res U := fnOf T5 FU N_need_web P_need_web c_need_web
theorem d_need_web__is_web : T5.dom "is_web" = true := by decide +kernel
theorem t_need_web__is_web : T5.fn "is_web" = f_is_web := by kernel_rfl
theorem b_need_web {u0 : U} {S : Sto} : f_need_web [u0] S = (evSs T5 FU c_need_web (startR N_need_web [u0]) S).res := fnOf_eq rfl
theorem r_need_web {u0 : U} : startR N_need_web [u0] = [some u0] ++ List.replicate (N_need_web.length - 1) none := rfl
def T6 : Th := T5.add "need_web" f_need_web
def f_is_worth_of : List U → Sto → Res U := fnOf T6 FU N_is_worth_of P_is_worth_of c_is_worth_of
theorem d_is_worth_of__is_among : T6.dom "is_among" = true := by decide +kernel
theorem t_is_worth_of__is_among : T6.fn "is_among" = f_is_among := by kernel_rfl
theorem b_is_worth_of {u0 u1 u2 : U} {S : Sto} : f_is_worth_of [u0, u1, u2] S = (evSs T6 FU c_is_worth_of (startR N_is_worth_of [u0, u1, u2]) S).res := fnOf_eq rfl
theorem r_is_worth_of {u0 u1 u2 : U} : startR N_is_worth_of [u0, u1, u2] = [some u0, some u1, some u2] ++ List.replicate (N_is_worth_of.length - 3) none := rfl
def T7 : Th := T6.add "is_worth_of" f_is_worth_of
def f_worth_clauses : List U → Sto → Res U := fnOf T7 FU N_worth_clauses P_worth_clauses c_worth_clauses
theorem d_worth_clauses__is_from : T7.dom "is_from" = true := by decide +kernel
theorem t_worth_clauses__is_from : T7.fn "is_from" = f_is_from := by kernel_rfl
theorem d_worth_clauses__is_worth_of : T7.dom "is_worth_of" = true := by decide +kernel
theorem t_worth_clauses__is_worth_of : T7.fn "is_worth_of" = f_is_worth_of := by kernel_rfl
theorem b_worth_clauses {u0 : U} {S : Sto} : f_worth_clauses [u0] S = (evSs T7 FU c_worth_clauses (startR N_worth_clauses [u0]) S).res := fnOf_eq rfl
theorem r_worth_clauses {u0 : U} : startR N_worth_clauses [u0] = [some u0] ++ List.replicate (N_worth_clauses.length - 1) none := rfl
def T8 : Th := T7.add "worth_clauses" f_worth_clauses
def f_need_paper : List U → Sto → Res U := fnOf T8 FU N_need_paper P_need_paper c_need_paper
theorem d_need_paper__need_web : T8.dom "need_web" = true := by decide +kernel
theorem t_need_paper__need_web : T8.fn "need_web" = f_need_web := by kernel_rfl
theorem b_need_paper {u0 : U} {S : Sto} : f_need_paper [u0] S = (evSs T8 FU c_need_paper (startR N_need_paper [u0]) S).res := fnOf_eq rfl
theorem r_need_paper {u0 : U} : startR N_need_paper [u0] = [some u0] ++ List.replicate (N_need_paper.length - 1) none := rfl
def T9 : Th := T8.add "need_paper" f_need_paper
def f_look : List U → Sto → Res U := fnOf T9 FU N_look P_look c_look
theorem d_look__need_paper : T9.dom "need_paper" = true := by decide +kernel
theorem t_look__need_paper : T9.fn "need_paper" = f_need_paper := by kernel_rfl
theorem b_look {u0 : U} {S : Sto} : f_look [u0] S = (evSs T9 FU c_look (startR N_look [u0]) S).res := fnOf_eq rfl
theorem r_look {u0 : U} : startR N_look [u0] = [some u0] ++ List.replicate (N_look.length - 1) none := rfl
def T10 : Th := T9.add "look" f_look
def f__law_spread : List U → Sto → Res U := fnOf T10 FU N__law_spread P__law_spread c__law_spread
theorem b__law_spread {u0 u1 : U} {S : Sto} : f__law_spread [u0, u1] S = (evSs T10 FU c__law_spread (startR N__law_spread [u0, u1]) S).res := fnOf_eq rfl
theorem r__law_spread {u0 u1 : U} : startR N__law_spread [u0, u1] = [some u0, some u1] ++ List.replicate (N__law_spread.length - 2) none := rfl
def T11 : Th := T10.add "_law_spread" f__law_spread
def f__law_open : List U → Sto → Res U := fnOf T11 FU N__law_open P__law_open c__law_open
theorem b__law_open {u0 : U} {S : Sto} : f__law_open [u0] S = (evSs T11 FU c__law_open (startR N__law_open [u0]) S).res := fnOf_eq rfl
theorem r__law_open {u0 : U} : startR N__law_open [u0] = [some u0] ++ List.replicate (N__law_open.length - 1) none := rfl
def T12 : Th := T11.add "_law_open" f__law_open
def f__law_anew : List U → Sto → Res U := fnOf T12 FU N__law_anew P__law_anew c__law_anew
theorem b__law_anew {u0 : U} {S : Sto} : f__law_anew [u0] S = (evSs T12 FU c__law_anew (startR N__law_anew [u0]) S).res := fnOf_eq rfl
theorem r__law_anew {u0 : U} : startR N__law_anew [u0] = [some u0] ++ List.replicate (N__law_anew.length - 1) none := rfl
def T13 : Th := T12.add "_law_anew" f__law_anew
def f__law_take : List U → Sto → Res U := fnOf T13 FU N__law_take P__law_take c__law_take
theorem d__law_take___law_spread : T13.dom "_law_spread" = true := by decide +kernel
theorem t__law_take___law_spread : T13.fn "_law_spread" = f__law_spread := by kernel_rfl
theorem b__law_take {u0 u1 : U} {S : Sto} : f__law_take [u0, u1] S = (evSs T13 FU c__law_take (startR N__law_take [u0, u1]) S).res := fnOf_eq rfl
theorem r__law_take {u0 u1 : U} : startR N__law_take [u0, u1] = [some u0, some u1] ++ List.replicate (N__law_take.length - 2) none := rfl
def T14 : Th := T13.add "_law_take" f__law_take
def f__law_one : List U → Sto → Res U := fnOf T14 FU N__law_one P__law_one c__law_one
theorem d__law_one___law_take : T14.dom "_law_take" = true := by decide +kernel
theorem t__law_one___law_take : T14.fn "_law_take" = f__law_take := by kernel_rfl
theorem b__law_one {u0 u1 : U} {S : Sto} : f__law_one [u0, u1] S = (evSs T14 FU c__law_one (startR N__law_one [u0, u1]) S).res := fnOf_eq rfl
theorem r__law_one {u0 u1 : U} : startR N__law_one [u0, u1] = [some u0, some u1] ++ List.replicate (N__law_one.length - 2) none := rfl
def T15 : Th := T14.add "_law_one" f__law_one
def f__law_is_whole : List U → Sto → Res U := fnOf T15 FU N__law_is_whole P__law_is_whole c__law_is_whole
theorem b__law_is_whole {u0 : U} {S : Sto} : f__law_is_whole [u0] S = (evSs T15 FU c__law_is_whole (startR N__law_is_whole [u0]) S).res := fnOf_eq rfl
theorem r__law_is_whole {u0 : U} : startR N__law_is_whole [u0] = [some u0] ++ List.replicate (N__law_is_whole.length - 1) none := rfl
def T16 : Th := T15.add "_law_is_whole" f__law_is_whole
def f0__law_bent : List U → Sto → Res U := fnOf T16 FU N__law_bent P__law_bent c__law_bent
def T16r : Th := T16.add "_law_bent" f0__law_bent
theorem d__law_bent___law_bent : T16r.dom "_law_bent" = true := by decide +kernel
theorem t__law_bent___law_bent : T16r.fn "_law_bent" = f0__law_bent := by kernel_rfl
def f__law_bent : List U → Sto → Res U := fnOf T16r FU N__law_bent P__law_bent c__law_bent
theorem d0__law_bent___law_one : T16.dom "_law_one" = true := by decide +kernel
theorem t0__law_bent___law_one : T16.fn "_law_one" = f__law_one := by kernel_rfl
theorem d__law_bent___law_one : T16r.dom "_law_one" = true := by decide +kernel
theorem t__law_bent___law_one : T16r.fn "_law_one" = f__law_one := by kernel_rfl
theorem d0__law_bent___law_is_whole : T16.dom "_law_is_whole" = true := by decide +kernel
theorem t0__law_bent___law_is_whole : T16.fn "_law_is_whole" = f__law_is_whole := by kernel_rfl
theorem d__law_bent___law_is_whole : T16r.dom "_law_is_whole" = true := by decide +kernel
theorem t__law_bent___law_is_whole : T16r.fn "_law_is_whole" = f__law_is_whole := by kernel_rfl
theorem d0__law_bent___law_take : T16.dom "_law_take" = true := by decide +kernel
theorem t0__law_bent___law_take : T16.fn "_law_take" = f__law_take := by kernel_rfl
theorem d__law_bent___law_take : T16r.dom "_law_take" = true := by decide +kernel
theorem t__law_bent___law_take : T16r.fn "_law_take" = f__law_take := by kernel_rfl
theorem b__law_bent {u0 u1 u2 : U} {S : Sto} : f__law_bent [u0, u1, u2] S = (evSs T16r FU c__law_bent (startR N__law_bent [u0, u1, u2]) S).res := fnOf_eq rfl
theorem b0__law_bent {u0 u1 u2 : U} {S : Sto} : f0__law_bent [u0, u1, u2] S = (evSs T16 FU c__law_bent (startR N__law_bent [u0, u1, u2]) S).res := fnOf_eq rfl
theorem r__law_bent {u0 u1 u2 : U} : startR N__law_bent [u0, u1, u2] = [some u0, some u1, some u2] ++ List.replicate (N__law_bent.length - 3) none := rfl
def T17 : Th := T16r.add "_law_bent" f__law_bent
def f__law_looked : List U → Sto → Res U := fnOf T17 FU N__law_looked P__law_looked c__law_looked
theorem d__law_looked__look : T17.dom "look" = true := by decide +kernel
theorem t__law_looked__look : T17.fn "look" = f_look := by kernel_rfl
theorem b__law_looked {u0 : U} {S : Sto} : f__law_looked [u0] S = (evSs T17 FU c__law_looked (startR N__law_looked [u0]) S).res := fnOf_eq rfl
theorem r__law_looked {u0 : U} : startR N__law_looked [u0] = [some u0] ++ List.replicate (N__law_looked.length - 1) none := rfl
def T18 : Th := T17.add "_law_looked" f__law_looked
def f__law_sure : List U → Sto → Res U := fnOf T18 FU N__law_sure P__law_sure c__law_sure
theorem d__law_sure___law_take : T18.dom "_law_take" = true := by decide +kernel
theorem t__law_sure___law_take : T18.fn "_law_take" = f__law_take := by kernel_rfl
theorem d__law_sure___law_one : T18.dom "_law_one" = true := by decide +kernel
theorem t__law_sure___law_one : T18.fn "_law_one" = f__law_one := by kernel_rfl
theorem b__law_sure {u0 u1 : U} {S : Sto} : f__law_sure [u0, u1] S = (evSs T18 FU c__law_sure (startR N__law_sure [u0, u1]) S).res := fnOf_eq rfl
theorem r__law_sure {u0 u1 : U} : startR N__law_sure [u0, u1] = [some u0, some u1] ++ List.replicate (N__law_sure.length - 2) none := rfl
def T19 : Th := T18.add "_law_sure" f__law_sure
def f__law_due : List U → Sto → Res U := fnOf T19 FU N__law_due P__law_due c__law_due
theorem d__law_due___law_is_whole : T19.dom "_law_is_whole" = true := by decide +kernel
theorem t__law_due___law_is_whole : T19.fn "_law_is_whole" = f__law_is_whole := by kernel_rfl
theorem b__law_due {u0 u1 u2 : U} {S : Sto} : f__law_due [u0, u1, u2] S = (evSs T19 FU c__law_due (startR N__law_due [u0, u1, u2]) S).res := fnOf_eq rfl
theorem r__law_due {u0 u1 u2 : U} : startR N__law_due [u0, u1, u2] = [some u0, some u1, some u2] ++ List.replicate (N__law_due.length - 3) none := rfl
def T20 : Th := T19.add "_law_due" f__law_due
def f_law : List U → Sto → Res U := fnOf T20 FU N_law P_law c_law
theorem d_law___law_open : T20.dom "_law_open" = true := by decide +kernel
theorem t_law___law_open : T20.fn "_law_open" = f__law_open := by kernel_rfl
theorem d_law___law_sure : T20.dom "_law_sure" = true := by decide +kernel
theorem t_law___law_sure : T20.fn "_law_sure" = f__law_sure := by kernel_rfl
theorem d_law___law_take : T20.dom "_law_take" = true := by decide +kernel
theorem t_law___law_take : T20.fn "_law_take" = f__law_take := by kernel_rfl
theorem d_law___law_anew : T20.dom "_law_anew" = true := by decide +kernel
theorem t_law___law_anew : T20.fn "_law_anew" = f__law_anew := by kernel_rfl
theorem d_law___law_bent : T20.dom "_law_bent" = true := by decide +kernel
theorem t_law___law_bent : T20.fn "_law_bent" = f__law_bent := by kernel_rfl
theorem d_law___law_one : T20.dom "_law_one" = true := by decide +kernel
theorem t_law___law_one : T20.fn "_law_one" = f__law_one := by kernel_rfl
theorem d_law___law_looked : T20.dom "_law_looked" = true := by decide +kernel
theorem t_law___law_looked : T20.fn "_law_looked" = f__law_looked := by kernel_rfl
theorem d_law___law_due : T20.dom "_law_due" = true := by decide +kernel
theorem t_law___law_due : T20.fn "_law_due" = f__law_due := by kernel_rfl
theorem b_law {u0 : U} {S : Sto} : f_law [u0] S = (evSs T20 FU c_law (startR N_law [u0]) S).res := fnOf_eq rfl
theorem r_law {u0 : U} : startR N_law [u0] = [some u0] ++ List.replicate (N_law.length - 1) none := rfl
def T21 : Th := T20.add "law" f_law
end K

set_option Elab.async false
set_option linter.all false
set_option maxRecDepth 100000
set_option maxHeartbeats 1600000
namespace K
open PySem PySem.Spec PyProof.Rows L2 Z
def isW : U → Bool
  | .int _ => true
  | _ => false
def noObj : U → Bool
  | .obj _ => false
  | .fn _ => false
  | .non => true
  | .bl _ => true
  | .int _ => true
  | .str _ => true
  | .tup _ => true
  | .tl _ => true
  | .rl _ => true
theorem no_non : noObj .non = true := id rfl
theorem no_bl {b : Bool} : noObj (.bl b) = true := id rfl
theorem no_int {b : Int} : noObj (.int b) = true := id rfl
theorem no_str {b : Str} : noObj (.str b) = true := id rfl
theorem no_tup {b : List U} : noObj (.tup b) = true := id rfl
theorem no_tl {b : List U} : noObj (.tl b) = true := id rfl
theorem no_rl {b : List U} : noObj (.rl b) = true := id rfl
theorem e_is_whole {u : U} {S : Sto} (h : noObj u = true) : f_is_whole [u] S = .ok (.bl (isW u)) S := by
  rw [b_is_whole, r_is_whole]
  cases u <;> first | (cases h; done) | simp [evSs, evS, ev, evs, evB, evO, evN_lst, evN_listOf, evN_cat, evI, Res.bind, Res.toS, SR.andThen, ofO, ofS, asgT, asgTs, List.getElem?_cons_zero, List.getElem?_cons_succ, List.set_cons_zero, List.set_cons_succ, Option.map_some, Option.map_none, Option.bind_some, Option.bind_none, List.length_cons, List.length_nil, if_true, if_false, SR.res, Bool.not_true, Bool.not_false, Bool.false_eq_true, wipeR, List.map_cons, List.map_nil, cmp_eqI, cmp_neI, cmpS_eq, cmpS_ne, cmpI_lt, cmpI_le, cmpI_gt, cmpI_ge, Bool.not_eq_true, decide_true, decide_false, c_is_whole, isiE, tyE, isiT, isW]
def fromB (k : Int) : U → Bool
  | .int i => decide (k ≤ i)
  | _ => false
theorem e_is_from {u : U} {k : Int} {S : Sto} (h : noObj u = true) : f_is_from [u, .int k] S = .ok (.bl (fromB k u)) S := by
  rw [b_is_from, r_is_from]
  cases u <;> first | (cases h; done) | simp [evSs, evS, ev, evs, evB, evO, evN_lst, evN_listOf, evN_cat, evI, Res.bind, Res.toS, SR.andThen, ofO, ofS, asgT, asgTs, List.getElem?_cons_zero, List.getElem?_cons_succ, List.set_cons_zero, List.set_cons_succ, Option.map_some, Option.map_none, Option.bind_some, Option.bind_none, List.length_cons, List.length_nil, if_true, if_false, SR.res, Bool.not_true, Bool.not_false, Bool.false_eq_true, wipeR, List.map_cons, List.map_nil, cmp_eqI, cmp_neI, cmpS_eq, cmpS_ne, cmpI_lt, cmpI_le, cmpI_gt, cmpI_ge, Bool.not_eq_true, decide_true, decide_false, c_is_from, d_is_from__is_whole, t_is_from__is_whole, e_is_whole, no_non, no_bl, no_int, no_str, no_tup, no_tl, no_rl, isW, cmpE, fromB]
def amongB (m : Int) : U → Bool
  | .int i => decide (0 ≤ i) && decide (i < m)
  | _ => false
theorem e_is_among {u : U} {m : Int} {S : Sto} (h : noObj u = true) : f_is_among [u, .int m] S = .ok (.bl (amongB m u)) S := by
  rw [b_is_among, r_is_among]
  cases u <;> first | (cases h; done) | skip
  all_goals simp [evSs, evS, ev, evs, evB, evO, evN_lst, evN_listOf, evN_cat, evI, Res.bind, Res.toS, SR.andThen, ofO, ofS, asgT, asgTs, List.getElem?_cons_zero, List.getElem?_cons_succ, List.set_cons_zero, List.set_cons_succ, Option.map_some, Option.map_none, Option.bind_some, Option.bind_none, List.length_cons, List.length_nil, if_true, if_false, SR.res, Bool.not_true, Bool.not_false, Bool.false_eq_true, wipeR, List.map_cons, List.map_nil, cmp_eqI, cmp_neI, cmpS_eq, cmpS_ne, cmpI_lt, cmpI_le, cmpI_gt, cmpI_ge, Bool.not_eq_true, decide_true, decide_false, c_is_among, d_is_among__is_from, t_is_among__is_from, e_is_from, no_non, no_bl, no_int, no_str, no_tup, no_tl, no_rl, cmpE, fromB, amongB]
  rename_i i
  by_cases q : 0 ≤ i <;> simp [q]
end K

set_option Elab.async false
set_option linter.all false
set_option maxRecDepth 100000
set_option maxHeartbeats 1600000
namespace K
open PySem PySem.Spec PyProof.Rows L2 Z
def rowU (r : List Int) : U := .tup (r.map U.int)
def webU (W : List (List Int)) : U := .tup (W.map rowU)
structure WebOk (W : List (List Int)) : Prop where
  pos : 1 ≤ W.length
  le : W.length ≤ 8
  len : ∀ r, r ∈ W → r.length = W.length
  nn : ∀ r, r ∈ W → ∀ i, i ∈ r → 0 ≤ i
theorem all_true {α : Type} (l : List α) : (l.all fun _ => true) = true := by induction l <;> simp_all
theorem e_sq_l1 {r : List Int} {ρ : Rho} {S : Sto} (hr : r.length ≤ 8) (h2 : ρ[2]? = some (some (rowU r))) (h3 : 3 < ρ.length) : evN T2 c_is_square_l1 ρ S = .ok (r.map fun _ => .bl true) S := by
  have := evN_map (T := T2) (tg := .name 3) (it := .seq (.var 2)) (elt := .call "is_whole" (.cons (.var 3) .nil)) (own := [("number", 3)]) (ρ := ρ) (S := S) (S1 := S) (items := r.map U.int) (fun _ => .bl true)
    (by simp only [evI, ev, h2, Res.bind, seqOf, rowU, Option.isSome, if_true]) Over.tup len_tup (by simp; omega) (fun x hx => by
      obtain ⟨i, hi, rfl⟩ := List.mem_map.mp hx
      refine ⟨_, rfl, ?_⟩
      simp [evSs, evS, ev, evs, evB, evO, evN_lst, evN_listOf, evN_cat, evI, Res.bind, Res.toS, SR.andThen, ofO, ofS, asgT, asgTs, List.getElem?_cons_zero, List.getElem?_cons_succ, List.set_cons_zero, List.set_cons_succ, Option.map_some, Option.map_none, Option.bind_some, Option.bind_none, List.length_cons, List.length_nil, if_true, if_false, SR.res, Bool.not_true, Bool.not_false, Bool.false_eq_true, wipeR, List.map_cons, List.map_nil, cmp_eqI, cmp_neI, cmpS_eq, cmpS_ne, cmpI_lt, cmpI_le, cmpI_gt, cmpI_ge, Bool.not_eq_true, decide_true, decide_false, h3, d_is_square__is_whole, t_is_square__is_whole, e_is_whole, no_int, isW, wipeR])
  rw [List.map_map] at this
  exact this
theorem e_is_square {W : List (List Int)} {n : Nat} {S : Sto} (hl : W.length = n) (hn : n ≤ 8) (hr : ∀ r, r ∈ W → r.length = n) : f_is_square [webU W, .int n] S = .ok (.bl true) S := by
  subst hl
  rw [b_is_square, r_is_square]
  obtain ⟨ρ', S', h1, x, y, h2, h3⟩ := forGo_all (src := .seq (webU W)) (t := .name 2) (body := evSs T2 FU c_is_square_b1) (items := W.map rowU) (fun i ρ S' => ∃ x y, ρ = [some (webU W), some (.int W.length), x, y] ∧ S' = S) (fun _ _ S' _ hi => Over.tup (I := fun _ => True) S' trivial _ hi)
    (n := W.length) (ρ := [some (webU W), some (.int W.length), none, none]) (S := S) (by
      intro i x ρ S' hx ⟨a, b, h1, h2⟩
      subst h1 h2
      obtain ⟨r, hr1, rfl⟩ := List.mem_map.mp (List.mem_of_getElem? hx)
      refine ⟨_, rfl, ?_⟩
      have hrl := hr r hr1
      have := e_sq_l1 (r := r) (ρ := [some (webU W), some (.int W.length), some (rowU r), b]) (S := S') (by omega) rfl (by simp)
      refine ⟨[some (webU W), some (.int W.length), some (rowU r), b], S', ?_, _, _, rfl, rfl⟩
      simp only [rowU] at this
      simp [evSs, evS, ev, evs, evB, evO, evN_lst, evN_listOf, evN_cat, evI, Res.bind, Res.toS, SR.andThen, ofO, ofS, asgT, asgTs, List.getElem?_cons_zero, List.getElem?_cons_succ, List.set_cons_zero, List.set_cons_succ, Option.map_some, Option.map_none, Option.bind_some, Option.bind_none, List.length_cons, List.length_nil, if_true, if_false, SR.res, Bool.not_true, Bool.not_false, Bool.false_eq_true, wipeR, List.map_cons, List.map_nil, cmp_eqI, cmp_neI, cmpS_eq, cmpS_ne, cmpI_lt, cmpI_le, cmpI_gt, cmpI_ge, Bool.not_eq_true, decide_true, decide_false, c_is_square_b1, isiE, tyE, isiT, biE, seqOf, lstOf, this, rowU, hrl, blsOf_map, all_true]) (by simp) ⟨none, none, rfl, rfl⟩
  subst h2 h3
  have hN : (N_is_square.length - 2) = 2 := rfl
  simp only [webU] at h1
  simp [evSs, evS, ev, evs, evB, evO, evN_lst, evN_listOf, evN_cat, evI, Res.bind, Res.toS, SR.andThen, ofO, ofS, asgT, asgTs, List.getElem?_cons_zero, List.getElem?_cons_succ, List.set_cons_zero, List.set_cons_succ, Option.map_some, Option.map_none, Option.bind_some, Option.bind_none, List.length_cons, List.length_nil, if_true, if_false, SR.res, Bool.not_true, Bool.not_false, Bool.false_eq_true, wipeR, List.map_cons, List.map_nil, cmp_eqI, cmp_neI, cmpS_eq, cmpS_ne, cmpI_lt, cmpI_le, cmpI_gt, cmpI_ge, Bool.not_eq_true, decide_true, decide_false, c_is_square, hN, List.replicate, isiE, tyE, isiT, biE, seqOf, lstOf, webU, len_tup, h1]
end K

set_option Elab.async false
set_option linter.all false
set_option maxRecDepth 100000
set_option maxHeartbeats 1600000
namespace K
open PySem PySem.Spec PyProof.Rows L2 Z
theorem gl_most : T4.gl "MOST_PLACES_webs" = some (.int 8) := by kernel_rfl
theorem e_is_web {W : List (List Int)} {S : Sto} (h : WebOk W) : f_is_web [webU W] S = .ok (.bl true) S := by
  rw [b_is_web, r_is_web]
  have h1 := h.pos
  have h2 := h.le
  have sq := e_is_square (W := W) (n := W.length) (S := S) rfl h.le h.len
  have l1 : evN T4 c_is_web_l1 [some (webU W), none] S = .ok ((W.map rowU).map fun _ => .bl true) S := evN_map (T := T4) (tg := .name 1) (it := .seq (.var 0)) (own := [("row", 1)]) (ρ := [some (webU W), none]) (S := S) (S1 := S) (items := W.map rowU) (fun _ => .bl true)
    (by simp [evI, ev, Res.bind, seqOf, webU]) Over.tup len_tup (by simp; omega) (fun x hx => by
      obtain ⟨r, hr, rfl⟩ := List.mem_map.mp hx
      refine ⟨_, rfl, ?_⟩
      have hne : r ≠ [] := fun e => by
        have := h.len r hr
        rw [e] at this
        simp at this
        omega
      have hm := h.nn r hr _ (minL_ok hne).1
      simp [evSs, evS, ev, evs, evB, evO, evN_lst, evN_listOf, evN_cat, evI, Res.bind, Res.toS, SR.andThen, ofO, ofS, asgT, asgTs, List.getElem?_cons_zero, List.getElem?_cons_succ, List.set_cons_zero, List.set_cons_succ, Option.map_some, Option.map_none, Option.bind_some, Option.bind_none, List.length_cons, List.length_nil, if_true, if_false, SR.res, Bool.not_true, Bool.not_false, Bool.false_eq_true, wipeR, List.map_cons, List.map_nil, cmp_eqI, cmp_neI, cmpS_eq, cmpS_ne, cmpI_lt, cmpI_le, cmpI_gt, cmpI_ge, Bool.not_eq_true, decide_true, decide_false, biE, seqOf, rowU, intsOf_map, hne, hm])
  have hN : N_is_web.length - 1 = 1 := rfl
  simp only [webU] at l1 sq
  have e1 : (1 : Int) ≤ W.length := by omega
  have e2 : (W.length : Int) ≤ 8 := by omega
  simp [evSs, evS, ev, evs, evB, evO, evN_lst, evN_listOf, evN_cat, evI, Res.bind, Res.toS, SR.andThen, ofO, ofS, asgT, asgTs, List.getElem?_cons_zero, List.getElem?_cons_succ, List.set_cons_zero, List.set_cons_succ, Option.map_some, Option.map_none, Option.bind_some, Option.bind_none, List.length_cons, List.length_nil, if_true, if_false, SR.res, Bool.not_true, Bool.not_false, Bool.false_eq_true, wipeR, List.map_cons, List.map_nil, cmp_eqI, cmp_neI, cmpS_eq, cmpS_ne, cmpI_lt, cmpI_le, cmpI_gt, cmpI_ge, Bool.not_eq_true, decide_true, decide_false, c_is_web, hN, List.replicate, isiE, tyE, isiT, biE, seqOf, lstOf, webU, gl_most, d_is_web__is_square, t_is_web__is_square, sq, e1, e2, l1, List.map_map, Function.comp_def, blsOf_map, all_true]
theorem e_need_web {W : List (List Int)} {S : Sto} (h : WebOk W) : f_need_web [webU W] S = .ok .non S := by
  rw [b_need_web, r_need_web]
  simp [evSs, evS, ev, evs, evB, evO, evN_lst, evN_listOf, evN_cat, evI, Res.bind, Res.toS, SR.andThen, ofO, ofS, asgT, asgTs, List.getElem?_cons_zero, List.getElem?_cons_succ, List.set_cons_zero, List.set_cons_succ, Option.map_some, Option.map_none, Option.bind_some, Option.bind_none, List.length_cons, List.length_nil, if_true, if_false, SR.res, Bool.not_true, Bool.not_false, Bool.false_eq_true, wipeR, List.map_cons, List.map_nil, cmp_eqI, cmp_neI, cmpS_eq, cmpS_ne, cmpI_lt, cmpI_le, cmpI_gt, cmpI_ge, Bool.not_eq_true, decide_true, decide_false, c_need_web, d_need_web__is_web, t_need_web__is_web, e_is_web h]
end K

set_option Elab.async false
set_option linter.all false
set_option maxRecDepth 100000
set_option maxHeartbeats 1600000
namespace K
open PySem PySem.Spec PyProof.Rows L2 Z
def mulL (r ts : List Int) : List Int := List.zipWith (fun a b => a * b) r ts
def dot (r ts : List Int) : Int := (mulL r ts).sum
def bmap (f : U → Bool) (us : List U) : List U := us.map fun u => .bl (f u)
theorem blsOf_bmap {f : U → Bool} {us : List U} : blsOf (bmap f us) = some (us.map f) := blsOf_map f us
def sums (W : List (List Int)) (m : Int) (ts : List Int) : Bool := (List.zipWith (fun x r => decide ((x - dot r ts).fmod m = 0)) ts W).all id
def worthB (W : List (List Int)) (m : Int) : U → Bool
  | .tup us => decide (us.length = W.length) && (us.all (amongB m) && match intsOf us with
    | some ts => sums W m ts
    | none => false)
  | _ => false
def mulU : U → U
  | .tup [.int a, .int b] => .int (a * b)
  | _ => .non
theorem zip_mul : ∀ (r ts : List Int), (List.zipWith (fun x y => U.tup [x, y]) (r.map U.int) (ts.map U.int)).map mulU = (mulL r ts).map U.int
  | [], _ => by simp [mulL]
  | _ :: _, [] => by simp [mulL]
  | a :: r, b :: ts => by
    have := zip_mul r ts
    unfold mulL at this ⊢
    simp only [List.map_cons, List.zipWith_cons_cons, mulU, this]
theorem zip_mem : ∀ {r ts : List Int} {x : U}, x ∈ List.zipWith (fun x y => U.tup [x, y]) (r.map U.int) (ts.map U.int) → ∃ a b, x = .tup [.int a, .int b] ∧ a ∈ r ∧ b ∈ ts
  | [], _, _, h => by simp at h
  | _ :: _, [], _, h => by simp at h
  | a :: r, b :: ts, x, h => by
    simp only [List.map_cons, List.zipWith_cons_cons, List.mem_cons] at h
    rcases h with h | h
    · exact ⟨a, b, h, List.mem_cons_self, List.mem_cons_self⟩
    · obtain ⟨a', b', h1, h2, h3⟩ := zip_mem h
      exact ⟨a', b', h1, List.mem_cons_of_mem _ h2, List.mem_cons_of_mem _ h3⟩
theorem among_ints {m : Int} : ∀ {us : List U}, us.all (amongB m) = true → ∃ ts : List Int, us = ts.map U.int ∧ ∀ t, t ∈ ts → 0 ≤ t ∧ t < m
  | [], _ => ⟨[], rfl, by simp⟩
  | u :: us, h => by
    rw [List.all_cons, Bool.and_eq_true] at h
    obtain ⟨ts, h1, h2⟩ := among_ints h.2
    cases u with
    | int i =>
      have : 0 ≤ i ∧ i < m := by simpa [amongB] using h.1
      exact ⟨i :: ts, by rw [h1]; rfl, fun t ht => by
        rcases List.mem_cons.mp ht with e | e
        · rw [e]; exact this
        · exact h2 t e⟩
    | _ => simp [amongB] at h
/-- no number of a web is too great -/
def Sm (W : List (List Int)) : Prop := ∀ r, r ∈ W → ∀ i, i ∈ r → i.natAbs < 2 ^ 400
theorem e_wo_l2 {W : List (List Int)} {m : Int} {r ts : List Int} {S : Sto} {a b c d : Option U} (hl : r.length = ts.length) (h8 : r.length ≤ 8) (hr : ∀ i, i ∈ r → i.natAbs < 2 ^ 400) (ht : ∀ i, i ∈ ts → i.natAbs < 2 ^ 400) :
    evN T6 c_is_worth_of_l2 [some (webU W), some (.int m), some (.tup (ts.map U.int)), a, some (rowU r), c, d] S = .ok ((mulL r ts).map U.int) S := by
  have := evN_map (T := T6) (tg := .tup (.cons (.name 5) (.cons (.name 6) .nil))) (it := .zip true (.var 4) (.var 2)) (elt := .bin .mul (.var 5) (.var 6)) (own := [("many", 5), ("other", 6)]) (ρ := [some (webU W), some (.int m), some (.tup (ts.map U.int)), a, some (rowU r), c, d]) (S := S) (S1 := S) (src := .zip true (rowU r) (.tup (ts.map U.int))) (items := List.zipWith (fun x y => U.tup [x, y]) (r.map U.int) (ts.map U.int)) mulU
    (by simp [evSs, evS, ev, evs, evB, evO, evN_lst, evN_listOf, evN_cat, evI, Res.bind, Res.toS, SR.andThen, ofO, ofS, asgT, asgTs, List.getElem?_cons_zero, List.getElem?_cons_succ, List.set_cons_zero, List.set_cons_succ, Option.map_some, Option.map_none, Option.bind_some, Option.bind_none, List.length_cons, List.length_nil, if_true, if_false, SR.res, Bool.not_true, Bool.not_false, Bool.false_eq_true, wipeR, List.map_cons, List.map_nil, cmp_eqI, cmp_neI, cmpS_eq, cmpS_ne, cmpI_lt, cmpI_le, cmpI_gt, cmpI_ge, Bool.not_eq_true, decide_true, decide_false, rowU, tupOf, hl]) (Over.zip (fun _ _ => rfl) (fun _ _ => rfl) (by simp [hl])) (len_zip rfl rfl) (by simp; omega) (fun x hx => by
      obtain ⟨a', b', rfl, h1, h2⟩ := zip_mem hx
      refine ⟨_, rfl, ?_⟩
      simp [evSs, evS, ev, evs, evB, evO, evN_lst, evN_listOf, evN_cat, evI, Res.bind, Res.toS, SR.andThen, ofO, ofS, asgT, asgTs, List.getElem?_cons_zero, List.getElem?_cons_succ, List.set_cons_zero, List.set_cons_succ, Option.map_some, Option.map_none, Option.bind_some, Option.bind_none, List.length_cons, List.length_nil, if_true, if_false, SR.res, Bool.not_true, Bool.not_false, Bool.false_eq_true, wipeR, List.map_cons, List.map_nil, cmp_eqI, cmp_neI, cmpS_eq, cmpS_ne, cmpI_lt, cmpI_le, cmpI_gt, cmpI_ge, Bool.not_eq_true, decide_true, decide_false, binI_mul (hr a' h1) (ht b' h2), mulU])
  rw [zip_mul] at this
  exact this
theorem e_wo_l1 {W : List (List Int)} {m : Int} {us : List U} {S : Sto} (h8 : us.length ≤ 10000) (ho : ∀ u, u ∈ us → noObj u = true) : evN T6 c_is_worth_of_l1 [some (webU W), some (.int m), some (.tup us), none, none, none, none] S = .ok (bmap (amongB m) us) S :=
  evN_map (T := T6) (tg := .name 3) (it := .seq (.var 2)) (own := [("number", 3)]) (ρ := [some (webU W), some (.int m), some (.tup us), none, none, none, none]) (S := S) (S1 := S) (items := us) (fun u => .bl (amongB m u))
    (by simp [evSs, evS, ev, evs, evB, evO, evN_lst, evN_listOf, evN_cat, evI, Res.bind, Res.toS, SR.andThen, ofO, ofS, asgT, asgTs, List.getElem?_cons_zero, List.getElem?_cons_succ, List.set_cons_zero, List.set_cons_succ, Option.map_some, Option.map_none, Option.bind_some, Option.bind_none, List.length_cons, List.length_nil, if_true, if_false, SR.res, Bool.not_true, Bool.not_false, Bool.false_eq_true, wipeR, List.map_cons, List.map_nil, cmp_eqI, cmp_neI, cmpS_eq, cmpS_ne, cmpI_lt, cmpI_le, cmpI_gt, cmpI_ge, Bool.not_eq_true, decide_true, decide_false, seqOf]) Over.tup len_tup h8 (fun x hx => by
      refine ⟨_, rfl, ?_⟩
      simp [evSs, evS, ev, evs, evB, evO, evN_lst, evN_listOf, evN_cat, evI, Res.bind, Res.toS, SR.andThen, ofO, ofS, asgT, asgTs, List.getElem?_cons_zero, List.getElem?_cons_succ, List.set_cons_zero, List.set_cons_succ, Option.map_some, Option.map_none, Option.bind_some, Option.bind_none, List.length_cons, List.length_nil, if_true, if_false, SR.res, Bool.not_true, Bool.not_false, Bool.false_eq_true, wipeR, List.map_cons, List.map_nil, cmp_eqI, cmp_neI, cmpS_eq, cmpS_ne, cmpI_lt, cmpI_le, cmpI_gt, cmpI_ge, Bool.not_eq_true, decide_true, decide_false, d_is_worth_of__is_among, t_is_worth_of__is_among, e_is_among (ho x hx)])
theorem map_all_id {α : Type} (f : α → Bool) (l : List α) : (l.map f).all id = l.all f := by induction l <;> simp_all
theorem sums_false {W : List (List Int)} {m : Int} {ts : List Int} {i : Nat} {x : Int} {r : List Int} (h1 : ts[i]? = some x) (h2 : W[i]? = some r) (h : ¬ (x - dot r ts).fmod m = 0) : sums W m ts = false := by
  unfold sums
  cases q : (List.zipWith (fun x r => decide ((x - dot r ts).fmod m = 0)) ts W).all id with
  | false => rfl
  | true =>
    rw [List.all_eq_true] at q
    have hm : (List.zipWith (fun x r => decide ((x - dot r ts).fmod m = 0)) ts W)[i]? = some (decide ((x - dot r ts).fmod m = 0)) := by rw [List.getElem?_zipWith, h1, h2]
    have := q _ (List.mem_of_getElem? hm)
    exact absurd (of_decide_eq_true (by simpa using this)) h
theorem sums_true {W : List (List Int)} {m : Int} {ts : List Int} (h : ∀ (i : Nat) (x : Int) (r : List Int), ts[i]? = some x → W[i]? = some r → (x - dot r ts).fmod m = 0) : sums W m ts = true := by
  unfold sums
  rw [List.all_eq_true]
  intro b hb
  obtain ⟨i, hi⟩ := List.mem_iff_getElem?.mp hb
  rw [List.getElem?_zipWith] at hi
  split at hi
  · cases hi
    rename_i x r hx hr
    exact decide_eq_true (h i x r hx hr)
  · cases hi
theorem e_is_worth_of {W : List (List Int)} {m : Int} {u : U} {S : Sto} (h : WebOk W) (hs : Sm W) (hm : 2 ≤ m) (hm2 : m.natAbs < 2 ^ 400) (hu : noObj u = true) (hus : ∀ us, u = .tup us → us.length ≤ 10000 ∧ ∀ v, v ∈ us → noObj v = true) : f_is_worth_of [webU W, .int m, u] S = .ok (.bl (worthB W m u)) S := by
  rw [b_is_worth_of, r_is_worth_of]
  have hN : N_is_worth_of.length - 3 = 4 := rfl
  cases u with
  | tup us =>
    obtain ⟨h8, ho⟩ := hus us rfl
    have l1 := e_wo_l1 (W := W) (m := m) (S := S) h8 ho
    simp only [webU] at l1
    by_cases q1 : us.length = W.length
    · by_cases q2 : us.all (amongB m) = true
      · obtain ⟨ts, ets, ht⟩ := among_ints q2
        have hlt : ts.length = W.length := by rw [ets] at q1; simpa using q1
        have hz : us.length = W.length := q1
        have tb : ∀ t, t ∈ ts → t.natAbs < 2 ^ 400 := fun t h => by have := ht t h; omega
        have key := forGo_inv (src := .zip true (.tup us) (webU W)) (t := .tup (.cons (.name 3) (.cons (.name 4) .nil))) (body := evSs T6 FU c_is_worth_of_b1) (items := List.zipWith (fun x y => U.tup [x, y]) us (W.map rowU))
          (fun i ρ S' => (∃ a b, ρ = [some (webU W), some (.int m), some (.tup us), a, b, none, none]) ∧ S' = S ∧ ∀ (j : Nat) (x : Int) (r : List Int), j < i → ts[j]? = some x → W[j]? = some r → (x - dot r ts).fmod m = 0)
          (fun v S' => v = .bl false ∧ S' = S ∧ sums W m ts = false)
          (fun i ρ S' _ hi => Over.zip (I := fun _ => True) (fun _ _ => rfl) (fun _ _ => rfl) (by simp [q1]) S' trivial i hi)
          (by
            intro i x ρ S' hx ⟨⟨a, b, e1⟩, e2, e3⟩
            subst e1 e2
            rw [List.getElem?_zipWith, ets, List.getElem?_map, List.getElem?_map] at hx
            cases k1 : ts[i]? with
            | none => rw [k1] at hx; cases hx
            | some t =>
              cases k2 : W[i]? with
              | none => rw [k1, k2] at hx; cases hx
              | some r =>
                rw [k1, k2] at hx
                cases hx
                refine ⟨_, rfl, ?_⟩
                have hr := List.mem_of_getElem? k2
                have l2 := e_wo_l2 (W := W) (m := m) (r := r) (ts := ts) (S := S') (a := some (.int t)) (b := none) (c := none) (d := none) (by rw [h.len r hr, hlt]) (by rw [h.len r hr]; exact h.le) (hs r hr) tb
                rw [← ets] at l2
                have hm0 : m ≠ 0 := by omega
                by_cases q : (t - dot r ts).fmod m = 0
                · refine .inl ⟨[some (webU W), some (.int m), some (.tup us), some (.int t), some (rowU r), none, none], S', .inl ?_, ⟨_, _, rfl⟩, rfl, fun j x r' hj g1 g2 => ?_⟩
                  · have q' : (t - (mulL r ts).sum).fmod m = 0 := q
                    simp [evSs, evS, ev, evs, evB, evO, evN_lst, evN_listOf, evN_cat, evI, Res.bind, Res.toS, SR.andThen, ofO, ofS, asgT, asgTs, List.getElem?_cons_zero, List.getElem?_cons_succ, List.set_cons_zero, List.set_cons_succ, Option.map_some, Option.map_none, Option.bind_some, Option.bind_none, List.length_cons, List.length_nil, if_true, if_false, SR.res, Bool.not_true, Bool.not_false, Bool.false_eq_true, wipeR, List.map_cons, List.map_nil, cmp_eqI, cmp_neI, cmpS_eq, cmpS_ne, cmpI_lt, cmpI_le, cmpI_gt, cmpI_ge, Bool.not_eq_true, decide_true, decide_false, c_is_worth_of_b1, l2, biE, lstOf, intsOf_map, binI_sub, binI_md hm0, q']
                  · by_cases hji : j = i
                    · subst hji
                      rw [k1] at g1
                      rw [k2] at g2
                      cases g1
                      cases g2
                      exact q
                    · exact e3 j x r' (by omega) g1 g2
                · refine .inr ⟨.bl false, S', ?_, rfl, rfl, sums_false k1 k2 q⟩
                  have q' : ¬ (t - (mulL r ts).sum).fmod m = 0 := q
                  simp [evSs, evS, ev, evs, evB, evO, evN_lst, evN_listOf, evN_cat, evI, Res.bind, Res.toS, SR.andThen, ofO, ofS, asgT, asgTs, List.getElem?_cons_zero, List.getElem?_cons_succ, List.set_cons_zero, List.set_cons_succ, Option.map_some, Option.map_none, Option.bind_some, Option.bind_none, List.length_cons, List.length_nil, if_true, if_false, SR.res, Bool.not_true, Bool.not_false, Bool.false_eq_true, wipeR, List.map_cons, List.map_nil, cmp_eqI, cmp_neI, cmpS_eq, cmpS_ne, cmpI_lt, cmpI_le, cmpI_gt, cmpI_ge, Bool.not_eq_true, decide_true, decide_false, c_is_worth_of_b1, l2, biE, lstOf, intsOf_map, binI_sub, binI_md hm0, q']) W.length 0 [some (webU W), some (.int m), some (.tup us), none, none, none, none] S (by simp [q1]) ⟨⟨_, _, rfl⟩, rfl, by omega⟩
        simp only [webU] at key
        have hlz : Src.len S (.zip true (.tup us) (.tup (W.map rowU))) = W.length := by simp [Src.len, seqOf, q1]
        have hwb : worthB W m (.tup us) = sums W m ts := by
          have : intsOf us = some ts := by rw [ets]; exact intsOf_map ts
          simp [worthB, q1, q2, this]
        rw [hwb]
        rcases key with ⟨ρ', S', k1, k2, k3, k4⟩ | ⟨v, S', k1, k2, k3, k4⟩
        · subst k3
          have : sums W m ts = true := sums_true fun i x r h1 h2 => k4 i x r (by
            have := (List.getElem?_eq_some_iff.mp h1).1
            simp [q1]; omega) h1 h2
          rw [this]
          simp [evSs, evS, ev, evs, evB, evO, evN_lst, evN_listOf, evN_cat, evI, Res.bind, Res.toS, SR.andThen, ofO, ofS, asgT, asgTs, List.getElem?_cons_zero, List.getElem?_cons_succ, List.set_cons_zero, List.set_cons_succ, Option.map_some, Option.map_none, Option.bind_some, Option.bind_none, List.length_cons, List.length_nil, if_true, if_false, SR.res, Bool.not_true, Bool.not_false, Bool.false_eq_true, wipeR, List.map_cons, List.map_nil, cmp_eqI, cmp_neI, cmpS_eq, cmpS_ne, cmpI_lt, cmpI_le, cmpI_gt, cmpI_ge, Bool.not_eq_true, decide_true, decide_false, c_is_worth_of, hN, List.replicate, isiE, tyE, isiT, biE, seqOf, lstOf, webU, l1, blsOf_bmap, map_all_id, q1, q2, hlt, tupOf, hlz, k1]
        · subst k2 k3
          rw [k4]
          simp [evSs, evS, ev, evs, evB, evO, evN_lst, evN_listOf, evN_cat, evI, Res.bind, Res.toS, SR.andThen, ofO, ofS, asgT, asgTs, List.getElem?_cons_zero, List.getElem?_cons_succ, List.set_cons_zero, List.set_cons_succ, Option.map_some, Option.map_none, Option.bind_some, Option.bind_none, List.length_cons, List.length_nil, if_true, if_false, SR.res, Bool.not_true, Bool.not_false, Bool.false_eq_true, wipeR, List.map_cons, List.map_nil, cmp_eqI, cmp_neI, cmpS_eq, cmpS_ne, cmpI_lt, cmpI_le, cmpI_gt, cmpI_ge, Bool.not_eq_true, decide_true, decide_false, c_is_worth_of, hN, List.replicate, isiE, tyE, isiT, biE, seqOf, lstOf, webU, l1, blsOf_bmap, map_all_id, q1, q2, hlt, tupOf, hlz, k1]
      · have hwb : worthB W m (.tup us) = false := by simp [worthB, q2]
        rw [hwb]
        simp [evSs, evS, ev, evs, evB, evO, evN_lst, evN_listOf, evN_cat, evI, Res.bind, Res.toS, SR.andThen, ofO, ofS, asgT, asgTs, List.getElem?_cons_zero, List.getElem?_cons_succ, List.set_cons_zero, List.set_cons_succ, Option.map_some, Option.map_none, Option.bind_some, Option.bind_none, List.length_cons, List.length_nil, if_true, if_false, SR.res, Bool.not_true, Bool.not_false, Bool.false_eq_true, wipeR, List.map_cons, List.map_nil, cmp_eqI, cmp_neI, cmpS_eq, cmpS_ne, cmpI_lt, cmpI_le, cmpI_gt, cmpI_ge, Bool.not_eq_true, decide_true, decide_false, c_is_worth_of, hN, List.replicate, isiE, tyE, isiT, biE, seqOf, lstOf, webU, l1, blsOf_bmap, map_all_id, q1, q2]
    · have hwb : worthB W m (.tup us) = false := by simp [worthB, q1]
      rw [hwb]
      have q1' : ¬ ((us.length : Int) = W.length) := by omega
      simp [evSs, evS, ev, evs, evB, evO, evN_lst, evN_listOf, evN_cat, evI, Res.bind, Res.toS, SR.andThen, ofO, ofS, asgT, asgTs, List.getElem?_cons_zero, List.getElem?_cons_succ, List.set_cons_zero, List.set_cons_succ, Option.map_some, Option.map_none, Option.bind_some, Option.bind_none, List.length_cons, List.length_nil, if_true, if_false, SR.res, Bool.not_true, Bool.not_false, Bool.false_eq_true, wipeR, List.map_cons, List.map_nil, cmp_eqI, cmp_neI, cmpS_eq, cmpS_ne, cmpI_lt, cmpI_le, cmpI_gt, cmpI_ge, Bool.not_eq_true, decide_true, decide_false, c_is_worth_of, hN, List.replicate, isiE, tyE, isiT, biE, seqOf, lstOf, webU, q1, q1']
  | _ => first | (cases hu; done) | simp [evSs, evS, ev, evs, evB, evO, evN_lst, evN_listOf, evN_cat, evI, Res.bind, Res.toS, SR.andThen, ofO, ofS, asgT, asgTs, List.getElem?_cons_zero, List.getElem?_cons_succ, List.set_cons_zero, List.set_cons_succ, Option.map_some, Option.map_none, Option.bind_some, Option.bind_none, List.length_cons, List.length_nil, if_true, if_false, SR.res, Bool.not_true, Bool.not_false, Bool.false_eq_true, wipeR, List.map_cons, List.map_nil, cmp_eqI, cmp_neI, cmpS_eq, cmpS_ne, cmpI_lt, cmpI_le, cmpI_gt, cmpI_ge, Bool.not_eq_true, decide_true, decide_false, c_is_worth_of, hN, List.replicate, isiE, tyE, isiT, worthB]
end K

set_option Elab.async false
set_option linter.all false
set_option maxRecDepth 100000
set_option maxHeartbeats 1600000
namespace K
open PySem PySem.Spec PyProof.Rows L2 Z
theorem cut1 {a b c d : U} : cutU [a, b, c, d] (some 1) none = [b, c, d] := by rfl
/-- what may stand in a paper -/
structure ThingOk (u : U) : Prop where
  no : noObj u = true
  us : ∀ us, u = .tup us → us.length ≤ 10000 ∧ ∀ v, v ∈ us → noObj v = true
structure ByOk (u : U) : Prop where
  no : noObj u = true
  le : ∀ m, u = .int m → m.natAbs < 2 ^ 400
def paperU (W : List (List Int)) (b t : U) : U := .tup [.str "worth", webU W, b, t]
def clB (W : List (List Int)) (b t : U) : U := match b with
  | .int m => if 2 ≤ m then (if worthB W m t then .non else .int 1) else .int 0
  | _ => .int 0
def dueU (W : List (List Int)) (b t : U) : U := match clB W b t with
  | .non => .tup [.str "right"]
  | k => .tup [.str "wrong", k]
theorem e_worth_clauses {W : List (List Int)} {b t : U} {S : Sto} (h : WebOk W) (hs : Sm W) (hb : ByOk b) (ht : ThingOk t) : f_worth_clauses [paperU W b t] S = .ok (clB W b t) S := by
  rw [b_worth_clauses, r_worth_clauses]
  have hN : N_worth_clauses.length - 1 = 3 := rfl
  have fr := e_is_from (u := b) (k := 2) (S := S) hb.no
  by_cases q : fromB 2 b = true
  · cases b with
    | int m =>
      have hm : 2 ≤ m := by simpa [fromB] using q
      have w := e_is_worth_of (S := S) h hs hm (hb.le m rfl) ht.no ht.us
      cases qw : worthB W m t <;> simp [evSs, evS, ev, evs, evB, evO, evN_lst, evN_listOf, evN_cat, evI, Res.bind, Res.toS, SR.andThen, ofO, ofS, asgT, asgTs, List.getElem?_cons_zero, List.getElem?_cons_succ, List.set_cons_zero, List.set_cons_succ, Option.map_some, Option.map_none, Option.bind_some, Option.bind_none, List.length_cons, List.length_nil, if_true, if_false, SR.res, Bool.not_true, Bool.not_false, Bool.false_eq_true, wipeR, List.map_cons, List.map_nil, cmp_eqI, cmp_neI, cmpS_eq, cmpS_ne, cmpI_lt, cmpI_le, cmpI_gt, cmpI_ge, Bool.not_eq_true, decide_true, decide_false, c_worth_clauses, hN, List.replicate, slE, paperU, cut1, d_worth_clauses__is_from, t_worth_clauses__is_from, fr, q, d_worth_clauses__is_worth_of, t_worth_clauses__is_worth_of, w, clB, hm, qw]
    | _ => simp [fromB] at q
  · have q' : fromB 2 b = false := by simpa using q
    have hc : clB W b t = .int 0 := by
      cases b <;> first | rfl | skip
      rename_i m
      have : ¬ 2 ≤ m := by simpa [fromB] using q
      simp [clB, this]
    rw [hc]
    simp [evSs, evS, ev, evs, evB, evO, evN_lst, evN_listOf, evN_cat, evI, Res.bind, Res.toS, SR.andThen, ofO, ofS, asgT, asgTs, List.getElem?_cons_zero, List.getElem?_cons_succ, List.set_cons_zero, List.set_cons_succ, Option.map_some, Option.map_none, Option.bind_some, Option.bind_none, List.length_cons, List.length_nil, if_true, if_false, SR.res, Bool.not_true, Bool.not_false, Bool.false_eq_true, wipeR, List.map_cons, List.map_nil, cmp_eqI, cmp_neI, cmpS_eq, cmpS_ne, cmpI_lt, cmpI_le, cmpI_gt, cmpI_ge, Bool.not_eq_true, decide_true, decide_false, c_worth_clauses, hN, List.replicate, slE, paperU, cut1, d_worth_clauses__is_from, t_worth_clauses__is_from, fr, q']
theorem dct_parts : T8.dct "PARTS" = some dParts := by kernel_rfl
theorem dct_clauses : T9.dct "CLAUSES" = some dClauses := by kernel_rfl
theorem gl_of_two : T8.gl "OF_TWO" = some (.tup [.str "led", .str "parted", .str "sign"]) := by kernel_rfl
theorem in_two {S : Sto} : cmpE S .inn (.str "worth") (.tup [.str "led", .str "parted", .str "sign"]) = some false := by kernel_rfl
theorem e_need_paper {W : List (List Int)} {b t : U} {S : Sto} (h : WebOk W) (hd : Dk 4 (paperU W b t)) : f_need_paper [paperU W b t] S = .ok .non S := by
  rw [b_need_paper, r_need_paper]
  have hN : N_need_paper.length - 1 = 0 := rfl
  have hn := Dk.neNil (S := S) hd (by decide)
  have at0 : L2.atI [.str "worth", webU W, b, t] 0 = some (.str "worth") := rfl
  have at1 : L2.atI [.str "worth", webU W, b, t] 1 = some (webU W) := rfl
  simp [evSs, evS, ev, evs, evB, evO, evN_lst, evN_listOf, evN_cat, evI, Res.bind, Res.toS, SR.andThen, ofO, ofS, asgT, asgTs, List.getElem?_cons_zero, List.getElem?_cons_succ, List.set_cons_zero, List.set_cons_succ, Option.map_some, Option.map_none, Option.bind_some, Option.bind_none, List.length_cons, List.length_nil, if_true, if_false, SR.res, Bool.not_true, Bool.not_false, Bool.false_eq_true, wipeR, List.map_cons, List.map_nil, cmp_eqI, cmp_neI, cmpS_eq, cmpS_ne, cmpI_lt, cmpI_le, cmpI_gt, cmpI_ge, Bool.not_eq_true, decide_true, decide_false, c_need_paper, hN, List.replicate, isiE, tyE, isiT, paperU, hn, idxE, seqOf, at0, at1, dct_parts, dParts_worth, biE, d_need_paper__need_web, t_need_paper__need_web, e_need_web h, gl_of_two, in_two]
theorem e_look {W : List (List Int)} {b t : U} {S : Sto} (h : WebOk W) (hs : Sm W) (hb : ByOk b) (ht : ThingOk t) (hd : Dk 4 (paperU W b t)) : f_look [paperU W b t] S = .ok (dueU W b t) S := by
  rw [b_look, r_look]
  have hN : N_look.length - 1 = 2 := rfl
  have at0 : L2.atI [.str "worth", webU W, b, t] 0 = some (.str "worth") := rfl
  have np := e_need_paper (b := b) (t := t) (S := S) h hd
  have wc := e_worth_clauses (b := b) (t := t) (S := S) h hs hb ht
  have dm : T9.dom "worth_clauses" = true := by decide +kernel
  have fm : T9.fn "worth_clauses" = f_worth_clauses := by kernel_rfl
  simp only [paperU] at np wc
  have hc : clB W b t = .non ∨ ∃ k, clB W b t = .int k := by
    unfold clB
    cases b <;> first | exact .inr ⟨_, rfl⟩ | skip
    dsimp only
    split
    · split
      · exact .inl rfl
      · exact .inr ⟨_, rfl⟩
    · exact .inr ⟨_, rfl⟩
  rcases hc with hc | ⟨k, hc⟩
  · simp [evSs, evS, ev, evs, evB, evO, evN_lst, evN_listOf, evN_cat, evI, Res.bind, Res.toS, SR.andThen, ofO, ofS, asgT, asgTs, List.getElem?_cons_zero, List.getElem?_cons_succ, List.set_cons_zero, List.set_cons_succ, Option.map_some, Option.map_none, Option.bind_some, Option.bind_none, List.length_cons, List.length_nil, if_true, if_false, SR.res, Bool.not_true, Bool.not_false, Bool.false_eq_true, wipeR, List.map_cons, List.map_nil, cmp_eqI, cmp_neI, cmpS_eq, cmpS_ne, cmpI_lt, cmpI_le, cmpI_gt, cmpI_ge, Bool.not_eq_true, decide_true, decide_false, c_look, hN, List.replicate, paperU, d_look__need_paper, t_look__need_paper, np, idxE, seqOf, at0, dct_clauses, dClauses_worth, dm, fm, wc, hc, U.isNon, dueU, sizeLine]
  · simp [evSs, evS, ev, evs, evB, evO, evN_lst, evN_listOf, evN_cat, evI, Res.bind, Res.toS, SR.andThen, ofO, ofS, asgT, asgTs, List.getElem?_cons_zero, List.getElem?_cons_succ, List.set_cons_zero, List.set_cons_succ, Option.map_some, Option.map_none, Option.bind_some, Option.bind_none, List.length_cons, List.length_nil, if_true, if_false, SR.res, Bool.not_true, Bool.not_false, Bool.false_eq_true, wipeR, List.map_cons, List.map_nil, cmp_eqI, cmp_neI, cmpS_eq, cmpS_ne, cmpI_lt, cmpI_le, cmpI_gt, cmpI_ge, Bool.not_eq_true, decide_true, decide_false, c_look, hN, List.replicate, paperU, d_look__need_paper, t_look__need_paper, np, idxE, seqOf, at0, dct_clauses, dClauses_worth, dm, fm, wc, hc, U.isNon, dueU, sizeLine]
end K

set_option Elab.async false
set_option linter.all false
set_option maxRecDepth 100000
set_option maxHeartbeats 1600000
set_option exponentiation.threshold 500
namespace K
open PySem PySem.Spec PyProof.Rows L2 Z
/-! ### the draws -/
theorem fmod_rng {i j : Int} (h : 0 < j) : 0 ≤ i.fmod j ∧ i.fmod j < j := ⟨Int.fmod_nonneg_of_pos i h, Int.fmod_lt_of_pos i h⟩
theorem atI_int {ns : List Int} {i : Int} (h0 : 0 ≤ i) (h1 : i < ns.length) : ∃ v, v ∈ ns ∧ L2.atI (ns.map U.int) i = some (.int v) := by
  obtain ⟨k, rfl⟩ := Int.eq_ofNat_of_zero_le h0
  have hk : k < ns.length := by omega
  exact ⟨ns[k], List.getElem_mem hk, atI_nat (by rw [List.getElem?_map, List.getElem?_eq_getElem hk]; rfl)⟩
def primes : List Int := [2147483629, 2147483587, 2147483579, 2147483563, 2147483549, 2147483543, 2147483497, 2147483489, 2147483477, 2147483423, 2147483399, 2147483353, 2147483323]
def primes1 : List Int := [2147483629, 2147483587, 2147483579, 2147483563, 2147483549, 2147483543, 2147483497]
def primes2 : List Int := [2147483489, 2147483477, 2147483423, 2147483399, 2147483353, 2147483323]
theorem primes_ok : ∀ p, p ∈ primes → 0 < p ∧ p < 2147483648 := by decide +kernel
theorem prime_at {S : Sto} (i : Int) : ∃ p, 0 < p ∧ p < 2147483648 ∧ idxE S (.tl (primes.map U.int)) (.int (i.fmod 13)) = some (.int p) := by
  have h := fmod_rng (i := i) (j := 13) (by decide)
  obtain ⟨p, h1, h2⟩ := atI_int (ns := primes) h.1 (by simpa [primes] using h.2)
  exact ⟨p, (primes_ok p h1).1, (primes_ok p h1).2, h2⟩
theorem nb {a b : Int} {n : Nat} (h0 : -(b : Int) < a) (h1 : a < b) (hb : b.toNat ≤ n) : a.natAbs < n := by omega
theorem p400 : 2 ^ 200 < 2 ^ 400 := by decide +kernel
theorem nb400 {a : Int} (h0 : 0 ≤ a) (h1 : a < 2 ^ 200) : a.natAbs < 2 ^ 400 := by
  have := p400
  have e : ((2 : Int) ^ 200) = ((2 ^ 200 : Nat) : Int) := by norm_cast
  omega
theorem e_spread {c a : Int} {S : Sto} (h0 : 0 ≤ a) (h1 : a ≤ 1000000) : ∃ v, 0 ≤ v ∧ f__law_spread [.int c, .int a] S = .ok (.int v) S := by
  rw [b__law_spread, r__law_spread]
  have hN : N__law_spread.length - 2 = 5 := rfl
  have b0 : ∀ S, binE S .pw (.int 10) (.int 18) = some (.int 1000000000000000000) := fun S => by rw [binI_pw (by decide) (by decide) (by decide)]; rfl
  by_cases q : (1000000000000000000 : Int) ≤ c
  · exact ⟨c, by omega, by simp [evSs, evS, ev, evs, evB, evO, evN_lst, evN_listOf, evN_cat, evI, Res.bind, Res.toS, SR.andThen, ofO, ofS, asgT, asgTs, List.getElem?_cons_zero, List.getElem?_cons_succ, List.set_cons_zero, List.set_cons_succ, Option.map_some, Option.map_none, Option.bind_some, Option.bind_none, List.length_cons, List.length_nil, if_true, if_false, SR.res, Bool.not_true, Bool.not_false, Bool.false_eq_true, wipeR, List.map_cons, List.map_nil, cmp_eqI, cmp_neI, cmpS_eq, cmpS_ne, cmpI_lt, cmpI_le, cmpI_gt, cmpI_ge, Bool.not_eq_true, decide_true, decide_false, c__law_spread, hN, List.replicate, b0, q]⟩
  · have b1 : ∀ S, binE S .md (.int c) (.int 1000000007) = some (.int (c.fmod 1000000007)) := fun S => binI_md (by decide)
    have r1 := fmod_rng (i := c) (j := 1000000007) (by decide)
    generalize c.fmod 1000000007 = c1 at b1 r1
    have b2 : ∀ S, binE S .md (.int c) (.int 65537) = some (.int (c.fmod 65537)) := fun S => binI_md (by decide)
    have r2 := fmod_rng (i := c) (j := 65537) (by decide)
    generalize c.fmod 65537 = c2 at b2 r2
    have b3 : ∀ S, binE S .mul (.int 2) (.int a) = some (.int (2 * a)) := fun S => binI_mul (by decide) (nb400 h0 (by omega))
    have b4 : ∀ S, binE S .mul (.int c1) (.int (2 * a + 69069)) = some (.int (c1 * (2 * a + 69069))) := fun S => binI_mul (nb400 r1.1 (by omega)) (nb400 (by omega) (by omega))
    have b5 : ∀ S, binE S .mul (.int a) (.int 40503) = some (.int (a * 40503)) := fun S => binI_mul (nb400 h0 (by omega)) (by decide)
    have r4 : 0 ≤ c1 * (2 * a + 69069) ∧ c1 * (2 * a + 69069) ≤ 1000000007 * 2069069 := ⟨Int.mul_nonneg r1.1 (by omega), Int.mul_le_mul (by omega) (by omega) (by omega) (by decide)⟩
    generalize c1 * (2 * a + 69069) = x4 at b4 r4
    have b6 : ∀ S, binE S .pw (.int (x4 + a * 40503 + 977)) (.int 3) = some (.int ((x4 + a * 40503 + 977) ^ 3)) := fun S => binI_pw (by decide) (by decide) (by omega)
    generalize (x4 + a * 40503 + 977) ^ 3 = x6 at b6
    have m1 : ∀ S, binE S .md (.int a) (.int 13) = some (.int (a.fmod 13)) := fun S => binI_md (by decide)
    obtain ⟨p1, pp1, pl1, pe1⟩ := prime_at (S := S) a
    have b7 : ∀ S, binE S .md (.int x6) (.int p1) = some (.int (x6.fmod p1)) := fun S => binI_md (by omega)
    have r7 := fmod_rng (i := x6) (j := p1) pp1
    generalize x6.fmod p1 = o1 at b7 r7
    have b8 : ∀ S, binE S .mul (.int o1) (.int (a + 3)) = some (.int (o1 * (a + 3))) := fun S => binI_mul (nb400 r7.1 (by omega)) (nb400 (by omega) (by omega))
    have r8 : 0 ≤ o1 * (a + 3) ∧ o1 * (a + 3) ≤ 2147483648 * 1000003 := ⟨Int.mul_nonneg r7.1 (by omega), Int.mul_le_mul (by omega) (by omega) (by omega) (by decide)⟩
    generalize o1 * (a + 3) = x8 at b8 r8
    have b9 : ∀ S, binE S .pw (.int (x8 + c2 + 5)) (.int 5) = some (.int ((x8 + c2 + 5) ^ 5)) := fun S => binI_pw (by decide) (by decide) (by omega)
    generalize (x8 + c2 + 5) ^ 5 = x9 at b9
    have m2 : ∀ S, binE S .md (.int (a + 5)) (.int 13) = some (.int ((a + 5).fmod 13)) := fun S => binI_md (by decide)
    obtain ⟨p2, pp2, pl2, pe2⟩ := prime_at (S := S) (a + 5)
    have b10 : ∀ S, binE S .md (.int x9) (.int p2) = some (.int (x9.fmod p2)) := fun S => binI_md (by omega)
    have r10 := fmod_rng (i := x9) (j := p2) pp2
    generalize x9.fmod p2 = o2 at b10 r10
    have b11 : ∀ S, binE S .md (.int o1) (.int 1009) = some (.int (o1.fmod 1009)) := fun S => binI_md (by decide)
    have r11 := fmod_rng (i := o1) (j := 1009) (by decide)
    generalize o1.fmod 1009 = x11 at b11 r11
    have b12 : ∀ S, binE S .pw (.int (o2 + x11 + a)) (.int 3) = some (.int ((o2 + x11 + a) ^ 3)) := fun S => binI_pw (by decide) (by decide) (by omega)
    generalize (o2 + x11 + a) ^ 3 = x12 at b12
    have m3 : ∀ S, binE S .md (.int (a + 7)) (.int 13) = some (.int ((a + 7).fmod 13)) := fun S => binI_md (by decide)
    obtain ⟨p3, pp3, pl3, pe3⟩ := prime_at (S := S) (a + 7)
    have b13 : ∀ S, binE S .md (.int x12) (.int p3) = some (.int (x12.fmod p3)) := fun S => binI_md (by omega)
    have r13 := fmod_rng (i := x12) (j := p3) pp3
    generalize x12.fmod p3 = o3 at b13 r13
    have b14 : ∀ S, binE S .mul (.int o1) (.int 2147483647) = some (.int (o1 * 2147483647)) := fun S => binI_mul (nb400 r7.1 (by omega)) (by decide)
    have b15 : ∀ S, binE S .mul (.int (o1 * 2147483647 + o2)) (.int 2147483647) = some (.int ((o1 * 2147483647 + o2) * 2147483647)) := fun S => binI_mul (nb400 (by omega) (by omega)) (by decide)
    have ad : ∀ S, binE S .add (.tl (primes1.map U.int)) (.tl (primes2.map U.int)) = some (.tl (primes.map U.int)) := fun S => by
      show (if (primes1.map U.int).length + (primes2.map U.int).length ≤ sizeLine then some (U.tl (primes1.map U.int ++ primes2.map U.int)) else none) = _
      rw [if_pos (by decide +kernel)]; rfl
    simp only [primes, primes1, primes2, List.map_cons, List.map_nil] at pe1 pe2 pe3 ad
    refine ⟨(o1 * 2147483647 + o2) * 2147483647 + o3, by omega, ?_⟩
    simp [evSs, evS, ev, evs, evB, evO, evN_lst, evN_listOf, evN_cat, evI, Res.bind, Res.toS, SR.andThen, ofO, ofS, asgT, asgTs, List.getElem?_cons_zero, List.getElem?_cons_succ, List.set_cons_zero, List.set_cons_succ, Option.map_some, Option.map_none, Option.bind_some, Option.bind_none, List.length_cons, List.length_nil, if_true, if_false, SR.res, Bool.not_true, Bool.not_false, Bool.false_eq_true, wipeR, List.map_cons, List.map_nil, cmp_eqI, cmp_neI, cmpS_eq, cmpS_ne, cmpI_lt, cmpI_le, cmpI_gt, cmpI_ge, Bool.not_eq_true, decide_true, decide_false, c__law_spread, hN, List.replicate, b0, q, ad, sizeLine, b1, b2, b3, b4, b5, b6, m1, pe1, b7, b8, b9, m2, pe2, b10, b11, b12, m3, pe3, b13, b14, b15, binI_add]
end K

set_option Elab.async false
set_option linter.all false
set_option maxRecDepth 100000
set_option maxHeartbeats 1600000
set_option exponentiation.threshold 500
namespace K
open PySem PySem.Spec PyProof.Rows L2 Z
/-- the pen: a thing of the store, its cells another -/
def PenAt (S : Sto) (p c : Nat) (cells : List Int) (at_ held : Int) : Prop := S[p]? = some (.lst [.obj c, .int at_, .int held]) ∧ S[c]? = some (.lst (cells.map U.int)) ∧ p ≠ c
def Pen (S : Sto) (p c : Nat) (B : Int) : Prop := ∃ cells a h, PenAt S p c cells a h ∧ 0 ≤ a ∧ a ≤ B ∧ 0 ≤ h
/-- what stood stands, but the pen -/
def Kp (p : Nat) (S S' : Sto) : Prop := S.length ≤ S'.length ∧ ∀ i, i < S.length → i ≠ p → S'[i]? = S[i]?
theorem Kp.refl {p : Nat} {S : Sto} : Kp p S S := ⟨Nat.le_refl _, fun _ _ _ => rfl⟩
theorem Kp.trans {p : Nat} {S S1 S2 : Sto} (h : Kp p S S1) (h' : Kp p S1 S2) : Kp p S S2 := ⟨Nat.le_trans h.1 h'.1, fun i hi hp => by rw [h'.2 i (Nat.lt_of_lt_of_le hi h.1) hp, h.2 i hi hp]⟩
theorem Pen.lt {S : Sto} {p c : Nat} {B : Int} (h : Pen S p c B) : p < S.length ∧ c < S.length := by
  obtain ⟨_, _, _, ⟨h1, h2, _⟩, _⟩ := h
  exact ⟨(List.getElem?_eq_some_iff.mp h1).1, (List.getElem?_eq_some_iff.mp h2).1⟩
theorem Pen.mono {S : Sto} {p c : Nat} {B B' : Int} (h : Pen S p c B) (hb : B ≤ B') : Pen S p c B' := by
  obtain ⟨cells, a, h1, h2, h3, h4, h5⟩ := h
  exact ⟨cells, a, h1, h2, h3, by omega, h5⟩
theorem PenAt.set {S : Sto} {p c : Nat} {cells : List Int} {a h a' h' : Int} (x : PenAt S p c cells a h) : PenAt (S.set p (.lst [.obj c, .int a', .int h'])) p c cells a' h' := by
  obtain ⟨h1, h2, h3⟩ := x
  have hp := (List.getElem?_eq_some_iff.mp h1).1
  exact ⟨List.getElem?_set_self hp, by rw [List.getElem?_set_ne h3]; exact h2, h3⟩
theorem Kp.set {p : Nat} {S : Sto} {o : SO} : Kp p S (S.set p o) := ⟨by simp, fun i hi hp => List.getElem?_set_ne (Ne.symm hp)⟩
theorem Pen.keep {S S' : Sto} {p c q : Nat} {B : Int} (x : Pen S p c B) (k : Kp q S S') (hp : p ≠ q) (hc : c ≠ q) : Pen S' p c B := by
  have l := x.lt
  obtain ⟨cells, a, h, ⟨h1, h2, h3⟩, h4⟩ := x
  exact ⟨cells, a, h, ⟨by rw [k.2 p l.1 hp]; exact h1, by rw [k.2 c l.2 hc]; exact h2, h3⟩, h4⟩
theorem ix0 {a b c : U} : L2.atI [a, b, c] 0 = some a := rfl
theorem ix1 {a b c : U} : L2.atI [a, b, c] 1 = some b := rfl
theorem ix2 {a b c : U} : L2.atI [a, b, c] 2 = some c := rfl
theorem nx1 : L2.ixN 3 1 = some 1 := rfl
theorem nx2 : L2.ixN 3 2 = some 2 := rfl
section
variable {S : Sto} {p c : Nat} {cells : List Int} {a h : Int}
theorem PenAt.i0 (x : PenAt S p c cells a h) : idxE S (.obj p) (.int 0) = some (.obj c) := by simp only [idxE, seqOf, lstOf, x.1, ix0]
theorem PenAt.i1 (x : PenAt S p c cells a h) : idxE S (.obj p) (.int 1) = some (.int a) := by simp only [idxE, seqOf, lstOf, x.1, ix1]
theorem PenAt.i2 (x : PenAt S p c cells a h) : idxE S (.obj p) (.int 2) = some (.int h) := by simp only [idxE, seqOf, lstOf, x.1, ix2]
theorem PenAt.len (x : PenAt S p c cells a h) : biE S .len [.obj c] = some (.int cells.length) := by simp only [biE, seqOf, lstOf, x.2.1, Option.map_some, List.length_map]
theorem PenAt.cell (x : PenAt S p c cells a h) {i : Int} (h0 : 0 ≤ i) (h1 : i < cells.length) : ∃ v, idxE S (.obj c) (.int i) = some (.int v) := by
  obtain ⟨v, _, h2⟩ := atI_int (ns := cells) h0 h1
  exact ⟨v, by simp only [idxE, seqOf, lstOf, x.2.1, h2]⟩
end
def takeTail : CSs := .cons (.asg (.name 4) (.bin .md (.idx (.var 0) (.int 2)) (.var 1))) (.cons (.setI (.var 0) (.int 2) (.bin .fd (.idx (.var 0) (.int 2)) (.var 1))) (.cons (.ret (.var 4)) .nil))
def takeCell : CS := .ite (.cmp .lt (.var 2) (.bi .len (.cons (.idx (.var 0) (.int 0)) .nil)))
        (.cons (.asg (.name 3) (.idx (.idx (.var 0) (.int 0)) (.var 2))) .nil)
        (.cons (.ite (.cmp .gt (.bi .len (.cons (.idx (.var 0) (.int 0)) .nil)) (.int 0))
          (.cons (.asg (.name 3) (.bin .md (.idx (.idx (.var 0) (.int 0)) (.bin .md (.bin .add (.bin .mul (.var 2) (.int 5)) (.int 3)) (.bi .len (.cons (.idx (.var 0) (.int 0)) .nil)))) (.bin .add (.bin .pw (.int 10) (.int 17)) (.var 2)))) .nil) .nil) .nil)
def takeRest : CSs := .cons (.setI (.var 0) (.int 1) (.bin .add (.var 2) (.int 1))) (.cons (.setI (.var 0) (.int 2) (.call "_law_spread" (.cons (.var 3) (.cons (.var 2) .nil)))) .nil)
def takeFill : CSs := .cons (.asg (.name 2) (.idx (.var 0) (.int 1))) (.cons (.asg (.name 3) (.int 0)) (.cons takeCell takeRest))
theorem take_eq : c__law_take = .cons (.ite (.cmp .lt (.idx (.var 0) (.int 2)) (.var 1)) takeFill .nil) takeTail := rfl
section
variable {S : Sto} {p c : Nat} {cells : List Int} {a h m B : Int}
theorem e_takeTail {r1 r2 : Option U} (hm : 1 ≤ m) (hm2 : m.natAbs < 2 ^ 400) (x : PenAt S p c cells a h) (ha : 0 ≤ a) (hb : a ≤ B + 1) (hh : 0 ≤ h) :
    ∃ v S', evSs T13 FU takeTail [some (.obj p), some (.int m), r1, r2, none] S = .rt (.int v) S' ∧ 0 ≤ v ∧ v < m ∧ Pen S' p c (B + 1) ∧ Kp p S S' ∧ S'.length = S.length := by
  have r := fmod_rng (i := h) (j := m) (by omega)
  refine ⟨h.fmod m, S.set p (.lst [.obj c, .int a, .int (h / m)]), ?_, r.1, r.2, ⟨cells, a, h / m, x.set, ha, hb, Int.ediv_nonneg hh (by omega)⟩, Kp.set, by simp⟩
  have hm0 : m ≠ 0 := by omega
  simp [evSs, evS, ev, evs, evB, evO, evN_lst, evN_listOf, evN_cat, evI, Res.bind, Res.toS, SR.andThen, ofO, ofS, asgT, asgTs, List.getElem?_cons_zero, List.getElem?_cons_succ, List.set_cons_zero, List.set_cons_succ, Option.map_some, Option.map_none, Option.bind_some, Option.bind_none, List.length_cons, List.length_nil, if_true, if_false, SR.res, Bool.not_true, Bool.not_false, Bool.false_eq_true, wipeR, List.map_cons, List.map_nil, cmp_eqI, cmp_neI, cmpS_eq, cmpS_ne, cmpI_lt, cmpI_le, cmpI_gt, cmpI_ge, Bool.not_eq_true, decide_true, decide_false, takeTail, x.i2, binI_md hm0, binI_fd (show 0 < m by omega) hm2, x.1, nx2]
theorem e_takeCell (x : PenAt S p c cells a h) (ha : 0 ≤ a) (hb : a ≤ 1000000) : ∃ cl : Int, evS T13 FU takeCell [some (.obj p), some (.int m), some (.int a), some (.int 0), none] S = .nx [some (.obj p), some (.int m), some (.int a), some (.int cl), none] S := by
  have pw : ∀ S, binE S .pw (.int 10) (.int 17) = some (.int 100000000000000000) := fun S => by rw [binI_pw (by decide) (by decide) (by decide)]; rfl
  by_cases q1 : a < cells.length
  · obtain ⟨v, hv⟩ := x.cell ha q1
    exact ⟨v, by simp [evSs, evS, ev, evs, evB, evO, evN_lst, evN_listOf, evN_cat, evI, Res.bind, Res.toS, SR.andThen, ofO, ofS, asgT, asgTs, List.getElem?_cons_zero, List.getElem?_cons_succ, List.set_cons_zero, List.set_cons_succ, Option.map_some, Option.map_none, Option.bind_some, Option.bind_none, List.length_cons, List.length_nil, if_true, if_false, SR.res, Bool.not_true, Bool.not_false, Bool.false_eq_true, wipeR, List.map_cons, List.map_nil, cmp_eqI, cmp_neI, cmpS_eq, cmpS_ne, cmpI_lt, cmpI_le, cmpI_gt, cmpI_ge, Bool.not_eq_true, decide_true, decide_false, takeCell, x.i0, x.len, q1, hv]⟩
  · by_cases q2 : 0 < cells.length
    · have r := fmod_rng (i := a * 5 + 3) (j := cells.length) (by omega)
      obtain ⟨v, hv⟩ := x.cell r.1 r.2
      have hc0 : (cells.length : Int) ≠ 0 := by omega
      have ha0 : (100000000000000000 + a) ≠ 0 := by omega
      refine ⟨v.fmod (100000000000000000 + a), ?_⟩
      have mu : ∀ S, binE S .mul (.int a) (.int 5) = some (.int (a * 5)) := fun S => binI_mul (nb400 ha (by omega)) (by decide)
      simp [evSs, evS, ev, evs, evB, evO, evN_lst, evN_listOf, evN_cat, evI, Res.bind, Res.toS, SR.andThen, ofO, ofS, asgT, asgTs, List.getElem?_cons_zero, List.getElem?_cons_succ, List.set_cons_zero, List.set_cons_succ, Option.map_some, Option.map_none, Option.bind_some, Option.bind_none, List.length_cons, List.length_nil, if_true, if_false, SR.res, Bool.not_true, Bool.not_false, Bool.false_eq_true, wipeR, List.map_cons, List.map_nil, cmp_eqI, cmp_neI, cmpS_eq, cmpS_ne, cmpI_lt, cmpI_le, cmpI_gt, cmpI_ge, Bool.not_eq_true, decide_true, decide_false, takeCell, x.i0, x.len, q1, q2, mu, binI_add, binI_md hc0, hv, pw, binI_md ha0]
    · exact ⟨0, by simp [evSs, evS, ev, evs, evB, evO, evN_lst, evN_listOf, evN_cat, evI, Res.bind, Res.toS, SR.andThen, ofO, ofS, asgT, asgTs, List.getElem?_cons_zero, List.getElem?_cons_succ, List.set_cons_zero, List.set_cons_succ, Option.map_some, Option.map_none, Option.bind_some, Option.bind_none, List.length_cons, List.length_nil, if_true, if_false, SR.res, Bool.not_true, Bool.not_false, Bool.false_eq_true, wipeR, List.map_cons, List.map_nil, cmp_eqI, cmp_neI, cmpS_eq, cmpS_ne, cmpI_lt, cmpI_le, cmpI_gt, cmpI_ge, Bool.not_eq_true, decide_true, decide_false, takeCell, x.i0, x.len, q1, q2]⟩
theorem e_takeFill (x : PenAt S p c cells a h) (ha : 0 ≤ a) (hb : a ≤ 1000000) : ∃ cl w : Int, 0 ≤ w ∧ evSs T13 FU takeFill [some (.obj p), some (.int m), none, none, none] S = .nx [some (.obj p), some (.int m), some (.int a), some (.int cl), none] (S.set p (.lst [.obj c, .int (a + 1), .int w])) := by
  obtain ⟨cl, hcl⟩ := e_takeCell (m := m) x ha hb
  obtain ⟨w, hw0, hw⟩ := e_spread (c := cl) (a := a) (S := S.set p (.lst [.obj c, .int (a + 1), .int h])) ha hb
  refine ⟨cl, w, hw0, ?_⟩
  have x1 : PenAt (S.set p (.lst [.obj c, .int (a + 1), .int h])) p c cells (a + 1) h := x.set
  have rest : evSs T13 FU takeRest [some (.obj p), some (.int m), some (.int a), some (.int cl), none] S = .nx [some (.obj p), some (.int m), some (.int a), some (.int cl), none] (S.set p (.lst [.obj c, .int (a + 1), .int w])) := by
    simp [evSs, evS, ev, evs, evB, evO, evN_lst, evN_listOf, evN_cat, evI, Res.bind, Res.toS, SR.andThen, ofO, ofS, asgT, asgTs, List.getElem?_cons_zero, List.getElem?_cons_succ, List.set_cons_zero, List.set_cons_succ, Option.map_some, Option.map_none, Option.bind_some, Option.bind_none, List.length_cons, List.length_nil, if_true, if_false, SR.res, Bool.not_true, Bool.not_false, Bool.false_eq_true, wipeR, List.map_cons, List.map_nil, cmp_eqI, cmp_neI, cmpS_eq, cmpS_ne, cmpI_lt, cmpI_le, cmpI_gt, cmpI_ge, Bool.not_eq_true, decide_true, decide_false, takeRest, binI_add, x.1, nx1, nx2, d__law_take___law_spread, t__law_take___law_spread, hw, x1.1]
  unfold takeFill
  simp [evSs, evS, ev, x.i1, Res.toS, Res.bind, ofO, asgT, SR.andThen, hcl, rest]
end
theorem e_take {S : Sto} {p c : Nat} {B m : Int} (hp : Pen S p c B) (hB : B < 1000000) (hm : 1 ≤ m) (hm2 : m.natAbs < 2 ^ 400) :
    ∃ v S', f__law_take [.obj p, .int m] S = .ok (.int v) S' ∧ 0 ≤ v ∧ v < m ∧ Pen S' p c (B + 1) ∧ Kp p S S' ∧ S'.length = S.length := by
  obtain ⟨cells, a, h, x, ha, hb, hh⟩ := hp
  rw [b__law_take, r__law_take, take_eq]
  have hN : N__law_take.length - 2 = 3 := rfl
  rw [hN, evSs]
  by_cases q : h < m
  · obtain ⟨cl, w, hw, e1⟩ := e_takeFill (m := m) x ha (by omega)
    have x2 : PenAt (S.set p (.lst [.obj c, .int (a + 1), .int w])) p c cells (a + 1) w := x.set
    obtain ⟨v, S', h1, h2, h3, h4, h5, h6⟩ := e_takeTail (r1 := some (.int a)) (r2 := some (.int cl)) (B := B) hm hm2 x2 (by omega) (by omega) hw
    refine ⟨v, S', ?_, h2, h3, h4, Kp.set.trans h5, by rw [h6]; simp⟩
    simp [evS, ev, List.replicate, Res.bind, Res.toS, ofO, x.i2, cmpI_lt, q, e1, SR.andThen, h1, SR.res]
  · obtain ⟨v, S', h1, h2⟩ := e_takeTail (r1 := none) (r2 := none) (B := B) hm hm2 x ha (by omega) hh
    refine ⟨v, S', ?_, h2⟩
    simp [evS, evSs, ev, List.replicate, Res.bind, Res.toS, ofO, x.i2, cmpI_lt, q, SR.andThen, h1, SR.res]
end K

set_option Elab.async false
set_option linter.all false
set_option maxRecDepth 100000
set_option maxHeartbeats 1600000
set_option exponentiation.threshold 500
namespace K
open PySem PySem.Spec PyProof.Rows L2 Z
theorem e_anew {S : Sto} {p c : Nat} {B : Int} (hp : Pen S p c B) : ∃ S', f__law_anew [.obj p] S = .ok (.obj p) S' ∧ Pen S' p c B ∧ Kp p S S' ∧ S'.length = S.length := by
  obtain ⟨cells, a, h, x, ha, hb, hh⟩ := hp
  refine ⟨S.set p (.lst [.obj c, .int a, .int 0]), ?_, ⟨cells, a, 0, x.set, ha, hb, Int.le_refl 0⟩, Kp.set, by simp⟩
  rw [b__law_anew, r__law_anew]
  have hN : N__law_anew.length - 1 = 0 := rfl
  simp [evSs, evS, ev, evs, evB, evO, evN_lst, evN_listOf, evN_cat, evI, Res.bind, Res.toS, SR.andThen, ofO, ofS, asgT, asgTs, List.getElem?_cons_zero, List.getElem?_cons_succ, List.set_cons_zero, List.set_cons_succ, Option.map_some, Option.map_none, Option.bind_some, Option.bind_none, List.length_cons, List.length_nil, if_true, if_false, SR.res, Bool.not_true, Bool.not_false, Bool.false_eq_true, wipeR, List.map_cons, List.map_nil, cmp_eqI, cmp_neI, cmpS_eq, cmpS_ne, cmpI_lt, cmpI_le, cmpI_gt, cmpI_ge, Bool.not_eq_true, decide_true, decide_false, c__law_anew, hN, List.replicate, x.1, nx2]
theorem e_one {S : Sto} {p c : Nat} {B : Int} {us : List U} (hp : Pen S p c B) (hB : B < 1000000) (hne : us ≠ []) (hl : us.length ≤ 1000000) :
    ∃ v S', f__law_one [.obj p, .tl us] S = .ok v S' ∧ v ∈ us ∧ Pen S' p c (B + 1) ∧ Kp p S S' ∧ S'.length = S.length := by
  have h0 : 0 < us.length := List.length_pos_iff.mpr hne
  obtain ⟨v, S', h1, h2, h3, h4⟩ := e_take (m := us.length) hp hB (by omega) (Nat.lt_of_le_of_lt (by omega : _ ≤ 1000000) (by decide +kernel))
  obtain ⟨k, rfl⟩ := Int.eq_ofNat_of_zero_le h2
  have hk : k < us.length := by omega
  refine ⟨us[k], S', ?_, List.getElem_mem hk, h4⟩
  rw [b__law_one, r__law_one]
  have hN : N__law_one.length - 2 = 0 := rfl
  have at_ : L2.atI us (k : Int) = some us[k] := atI_nat (List.getElem?_eq_getElem hk)
  simp [evSs, evS, ev, evs, evB, evO, evN_lst, evN_listOf, evN_cat, evI, Res.bind, Res.toS, SR.andThen, ofO, ofS, asgT, asgTs, List.getElem?_cons_zero, List.getElem?_cons_succ, List.set_cons_zero, List.set_cons_succ, Option.map_some, Option.map_none, Option.bind_some, Option.bind_none, List.length_cons, List.length_nil, if_true, if_false, SR.res, Bool.not_true, Bool.not_false, Bool.false_eq_true, wipeR, List.map_cons, List.map_nil, cmp_eqI, cmp_neI, cmpS_eq, cmpS_ne, cmpI_lt, cmpI_le, cmpI_gt, cmpI_ge, Bool.not_eq_true, decide_true, decide_false, c__law_one, hN, List.replicate, biE, seqOf, lstOf, d__law_one___law_take, t__law_one___law_take, h1, idxE, at_]
theorem e_lis_whole {u : U} {S : Sto} (h : noObj u = true) : f__law_is_whole [u] S = .ok (.bl (isW u)) S := by
  rw [b__law_is_whole, r__law_is_whole]
  cases u <;> first | (cases h; done) | simp [evSs, evS, ev, evs, evB, evO, evN_lst, evN_listOf, evN_cat, evI, Res.bind, Res.toS, SR.andThen, ofO, ofS, asgT, asgTs, List.getElem?_cons_zero, List.getElem?_cons_succ, List.set_cons_zero, List.set_cons_succ, Option.map_some, Option.map_none, Option.bind_some, Option.bind_none, List.length_cons, List.length_nil, if_true, if_false, SR.res, Bool.not_true, Bool.not_false, Bool.false_eq_true, wipeR, List.map_cons, List.map_nil, cmp_eqI, cmp_neI, cmpS_eq, cmpS_ne, cmpI_lt, cmpI_le, cmpI_gt, cmpI_ge, Bool.not_eq_true, decide_true, decide_false, c__law_is_whole, isiE, tyE, isiT, isW]
/-! ### the pen's making -/
def cutI (ns : List Int) (lo hi : Option Int) : List Int := (ns.drop (HT.sIx ns.length 0 lo)).take (HT.sIx ns.length ns.length hi - HT.sIx ns.length 0 lo)
theorem cut_map {ns : List Int} {lo hi : Option Int} : cutU (ns.map U.int) lo hi = (cutI ns lo hi).map U.int := by
  unfold cutU cutI
  rw [List.length_map, List.map_take, List.map_drop]
theorem cut12 {ns : List Int} : (cutI ns none (some 12)).length = min 12 ns.length := by
  have h : ∀ n, HT.sIx n n (some 12) = min 12 n := fun n => HT.sIx_nat n n 12
  unfold cutI
  rw [HT.sIx_none, h]
  simp
theorem cut63 {ns : List Int} (h : 0 < (cutI ns (some 12) (some 63)).length) : 12 < ns.length := by
  have h1 : ∀ n d, HT.sIx n d (some 12) = min 12 n := fun n d => HT.sIx_nat n d 12
  have h2 : ∀ n, HT.sIx n n (some 63) = min 63 n := fun n => HT.sIx_nat n n 63
  unfold cutI at h
  rw [h1, h2] at h
  simp at h
  omega
theorem cut63le {ns : List Int} : (cutI ns (some 12) (some 63)).length ≤ 63 := by
  have h1 : ∀ n d, HT.sIx n d (some 12) = min 12 n := fun n d => HT.sIx_nat n d 12
  have h2 : ∀ n, HT.sIx n n (some 63) = min 63 n := fun n => HT.sIx_nat n n 63
  unfold cutI
  rw [h1, h2]
  simp
  omega
theorem app_at {S : Sto} {o : SO} : (S ++ [o])[S.length]? = some o := by simp
theorem app_set {S : Sto} {o o' : SO} : (S ++ [o]).set S.length o' = S ++ [o'] := by simp
theorem e_open {ns : List Int} {S : Sto} : ∃ S', f__law_open [.rl (ns.map U.int)] S = .ok (.obj (S.length + 1)) S' ∧ Pen S' (S.length + 1) S.length 0 ∧ S'.length = S.length + 2 ∧ ∀ i, i < S.length → S'[i]? = S[i]? := by
  rw [b__law_open, r__law_open]
  have hN : N__law_open.length - 1 = 3 := rfl
  obtain ⟨ρ', S1, h1, x, y, C, h2, h3, h4⟩ := forGo_all (src := .enum (.tl ((cutI ns (some 12) (some 63)).map U.int))) (t := .tup (.cons (.name 2) (.cons (.name 3) .nil))) (body := evSs T11 FU c__law_open_b1)
    (items := ((cutI ns (some 12) (some 63)).map U.int).mapIdx fun i x => .tup [.int i, x]) (fun i ρ S' => ∃ x y C, ρ = [some (.rl (ns.map U.int)), some (.obj S.length), x, y] ∧ S' = S ++ [.lst (List.map U.int C)] ∧ C.length = min 12 ns.length)
    (fun i ρ S' _ hi => Over.enum (I := fun _ => True) (fun _ _ => rfl) S' trivial i hi) (by
      intro i x ρ S' hx ⟨a, b, C, e1, e2, e3⟩
      subst e1 e2
      rw [List.getElem?_mapIdx, List.getElem?_map] at hx
      cases k : (cutI ns (some 12) (some 63))[i]? with
      | none => rw [k] at hx; cases hx
      | some v =>
        rw [k] at hx
        cases hx
        have hi := (List.getElem?_eq_some_iff.mp k).1
        have h12 := cut63 (ns := ns) (by omega)
        have hC : C.length = 12 := by omega
        refine ⟨_, rfl, ?_⟩
        have r := fmod_rng (i := (i : Int)) (j := 12) (by decide)
        obtain ⟨j, hj⟩ := Int.eq_ofNat_of_zero_le r.1
        have hj2 : j < C.length := by omega
        have at_ : L2.atI (C.map U.int) ((i : Int).fmod 12) = some (.int C[j]) := by
          rw [hj]; exact atI_nat (by rw [List.getElem?_map, List.getElem?_eq_getElem hj2]; rfl)
        have ix_ : L2.ixN C.length ((i : Int).fmod 12) = some j := by rw [hj]; unfold L2.ixN; rw [if_pos (by omega), if_pos (by omega)]; simp
        have md : ∀ S, binE S .md (.int (i : Int)) (.int 12) = some (.int ((i : Int).fmod 12)) := fun S => binI_md (by decide)
        refine ⟨[some (.rl (ns.map U.int)), some (.obj S.length), some (.int i), some (.int v)], S ++ [.lst (List.map U.int (C.set j (C[j] + v)))], ?_, _, _, C.set j (C[j] + v), rfl, rfl, by simpa using e3⟩
        simp [evSs, evS, ev, evs, evB, evO, evN_lst, evN_listOf, evN_cat, evI, Res.bind, Res.toS, SR.andThen, ofO, ofS, asgT, asgTs, List.getElem?_cons_zero, List.getElem?_cons_succ, List.set_cons_zero, List.set_cons_succ, Option.map_some, Option.map_none, Option.bind_some, Option.bind_none, List.length_cons, List.length_nil, if_true, if_false, SR.res, Bool.not_true, Bool.not_false, Bool.false_eq_true, wipeR, List.map_cons, List.map_nil, cmp_eqI, cmp_neI, cmpS_eq, cmpS_ne, cmpI_lt, cmpI_le, cmpI_gt, cmpI_ge, Bool.not_eq_true, decide_true, decide_false, c__law_open_b1, md, idxE, seqOf, lstOf, at_, ix_, binI_add]) (n := (cutI ns (some 12) (some 63)).length) (ρ := [some (.rl (ns.map U.int)), some (.obj S.length), none, none])
      (S := S ++ [.lst (List.map U.int (cutI ns none (some 12)))]) (by simp) ⟨_, _, _, rfl, rfl, cut12⟩
  subst h2 h3
  refine ⟨S ++ [.lst (List.map U.int C)] ++ [.lst [.obj S.length, .int 0, .int 0]], ?_, ⟨C, 0, 0, ⟨by simp, by simp, by omega⟩, by omega, by omega, by omega⟩, by simp, fun i hi => by rw [List.append_assoc, List.getElem?_append_left hi]⟩
  have hlen : ∀ S, Src.len S (.enum (.tl ((cutI ns (some 12) (some 63)).map U.int))) = (cutI ns (some 12) (some 63)).length := fun S => by simp [Src.len, seqOf, lstOf]
  have h0 : ([] : List U).length + 1 + 1 + 1 ≤ sizeLine := by decide +kernel
  simp [evSs, evS, ev, evs, evB, evO, evN_lst, evN_listOf, evN_cat, evI, Res.bind, Res.toS, SR.andThen, ofO, ofS, asgT, asgTs, List.getElem?_cons_zero, List.getElem?_cons_succ, List.set_cons_zero, List.set_cons_succ, Option.map_some, Option.map_none, Option.bind_some, Option.bind_none, List.length_cons, List.length_nil, if_true, if_false, SR.res, Bool.not_true, Bool.not_false, Bool.false_eq_true, wipeR, List.map_cons, List.map_nil, cmp_eqI, cmp_neI, cmpS_eq, cmpS_ne, cmpI_lt, cmpI_le, cmpI_gt, cmpI_ge, Bool.not_eq_true, decide_true, decide_false, c__law_open, hN, List.replicate, slE, lstOf, seqOf, cut_map, hlen, h1, h0, sizeLine]
end K

set_option Elab.async false
set_option linter.all false
set_option maxRecDepth 100000
set_option maxHeartbeats 1600000
set_option exponentiation.threshold 500
namespace K
open PySem PySem.Spec PyProof.Rows L2 Z
/-- what stands in a thing: no thing of the store, small -/
def TOk (h : Nat) (v : U) : Prop := noObj v = true ∧ Dk h v ∧ ∀ us, v = .tup us → us.length ≤ 10000 ∧ ∀ w, w ∈ us → noObj w = true
theorem TOk.int {h : Nat} {i : Int} (hi : i.natAbs < 10 ^ 40) : TOk h (.int i) := ⟨id rfl, Dk.int hi, fun _ e => by cases e⟩
theorem TOk.bl {h : Nat} {i : Bool} : TOk h (.bl i) := ⟨id rfl, Dk.bl, fun _ e => by cases e⟩
theorem TOk.non {h : Nat} : TOk h .non := ⟨id rfl, Dk.non, fun _ e => by cases e⟩
theorem TOk.str {h : Nat} {s : Str} (h1 : PyData.strOk s = true) (h2 : (reprText s).length ≤ 60) : TOk h (.str s) := ⟨id rfl, Dk.str h1 h2, fun _ e => by cases e⟩
theorem TOk.tup {h : Nat} {us : List U} (x : ∀ u, u ∈ us → TOk h u) (hl : us.length ≤ 12) : TOk (h + 1) (.tup us) := ⟨id rfl, Dk.tup (fun u hu => (x u hu).2.1) hl, fun ws e => by cases e; exact ⟨by omega, fun w hw => (x w hw).1⟩⟩
theorem TOk.tl {h : Nat} {us : List U} (x : ∀ u, u ∈ us → TOk h u) (hl : us.length ≤ 12) : TOk (h + 1) (.tl us) := ⟨id rfl, Dk.tl (fun u hu => (x u hu).2.1) hl, fun ws e => by cases e⟩
theorem TOk.mono {h k : Nat} {u : U} (x : TOk h u) (e : h ≤ k) : TOk k u := ⟨x.1, x.2.1.mono e, x.2.2⟩
theorem all_nil {h : Nat} : ∀ u, u ∈ ([] : List U) → TOk h u := fun _ hu => by cases hu
theorem all_cons {h : Nat} {a : U} {us : List U} (x : TOk h a) (y : ∀ u, u ∈ us → TOk h u) : ∀ u, u ∈ a :: us → TOk h u := fun u hu => by
  rcases List.mem_cons.mp hu with e | e
  · rw [e]; exact x
  · exact y u e
def strange : List U := [.non, .bl true, .bl false, .str "", .str "0", .tup [], .tl [], .int 100000000000000000000, .int (-1), .tup [.int 0], .tl [.int 0], .int 0]
theorem strange_ok : ∀ v, v ∈ strange → TOk 1 v :=
  all_cons .non (all_cons .bl (all_cons .bl (all_cons (.str (by decide +kernel) (by decide +kernel)) (all_cons (.str (by decide +kernel) (by decide +kernel)) (all_cons (.tup all_nil (by decide)) (all_cons (.tl all_nil (by decide)) (all_cons (.int (by decide))
    (all_cons (.int (by decide)) (all_cons (.tup (all_cons (.int (by decide)) all_nil) (by decide)) (all_cons (.tl (all_cons (.int (by decide)) all_nil) (by decide)) (all_cons (.int (by decide)) all_nil)))))))))))
theorem pw20 {S : Sto} : binE S .pw (.int 10) (.int 20) = some (.int 100000000000000000000) := by rw [binI_pw (by decide) (by decide) (by decide)]; rfl
theorem e_bent0 {S : Sto} {p c : Nat} {B i : Int} (hp : Pen S p c B) (hB : B + 3 < 1000000) (hi : i.natAbs < 10 ^ 30) :
    ∃ v S', f0__law_bent [.obj p, .int i, .int 0] S = .ok v S' ∧ TOk 1 v ∧ Pen S' p c (B + 3) ∧ Kp p S S' ∧ S'.length = S.length := by
  obtain ⟨v1, S1, a1, a2, a3, a4, a5, a6⟩ := e_take (m := 12) hp (by omega) (by decide) (by decide)
  obtain ⟨v2, S2, b1, b2, b3, b4, b5⟩ := e_one (us := strange) a4 (by omega) (by simp [strange]) (by simp [strange])
  obtain ⟨v3, S3, c1, c2, c3, c4, c5⟩ := e_one (us := [.int (v1 - 2), .int (v1 - 2), .bl (decide (i = 1)), .int (i + 1), .int (i - 1), v2]) b3 (by omega) (by simp) (by simp)
  have big : (10 : Nat) ^ 30 + 1 < 10 ^ 40 := by decide
  refine ⟨v3, S3, ?_, ?_, by rw [show B + 3 = B + 1 + 1 + 1 by omega]; exact c3, (a5.trans b4).trans c4, by omega⟩
  · rw [b0__law_bent, r__law_bent]
    have hN : N__law_bent.length - 3 = 4 := rfl
    simp only [strange] at b1
    simp [evSs, evS, ev, evs, evB, evO, evN_lst, evN_listOf, evN_cat, evI, Res.bind, Res.toS, SR.andThen, ofO, ofS, asgT, asgTs, List.getElem?_cons_zero, List.getElem?_cons_succ, List.set_cons_zero, List.set_cons_succ, Option.map_some, Option.map_none, Option.bind_some, Option.bind_none, List.length_cons, List.length_nil, if_true, if_false, SR.res, Bool.not_true, Bool.not_false, Bool.false_eq_true, wipeR, List.map_cons, List.map_nil, cmp_eqI, cmp_neI, cmpS_eq, cmpS_ne, cmpI_lt, cmpI_le, cmpI_gt, cmpI_ge, Bool.not_eq_true, decide_true, decide_false, c__law_bent, hN, List.replicate, isiE, tyE, isiT, d0__law_bent___law_take, t0__law_bent___law_take, a1, binI_sub, binI_add, d0__law_bent___law_one, t0__law_bent___law_one, sizeLine, pw20, b1, d0__law_bent___law_is_whole, t0__law_bent___law_is_whole, e_lis_whole no_int, isW, c1]
  · have s2 := strange_ok v2 b2
    exact all_cons (.int (by omega)) (all_cons (.int (by omega)) (all_cons .bl (all_cons (.int (by omega)) (all_cons (.int (by omega)) (all_cons s2 all_nil))))) v3 c2
end K

set_option Elab.async false
set_option linter.all false
set_option maxRecDepth 100000
set_option maxHeartbeats 3200000
set_option exponentiation.threshold 500
namespace K
open PySem PySem.Spec PyProof.Rows L2 Z
theorem cut_mem {us : List U} {lo hi : Option Int} {x : U} (h : x ∈ cutU us lo hi) : x ∈ us := List.mem_of_mem_drop (List.mem_of_mem_take h)
theorem cut_len {us : List U} {lo hi : Option Int} : (cutU us lo hi).length ≤ us.length := by
  unfold cutU
  rw [List.length_take, List.length_drop]
  omega
theorem neNil {h : Nat} {S : Sto} {us : List U} (x : Dk h (.tup us)) (hn : us ≠ []) (hh : h ≤ 11) : cmpE S .ne (.tup us) (.tup []) = some true := by
  cases us with
  | nil => exact absurd rfl hn
  | cons u us =>
    have e := Dk.neNil (S := S) x hh
    have e' : (match dat S 12 (.tup (u :: us)), dat S 12 (.tup []) with
      | some d, some e => if (SeqAt.shaped d && SeqAt.shaped e) = true then some (PyData.eqv d e) else none
      | _, _ => none) = some false := e
    show (match dat S 12 (.tup (u :: us)), dat S 12 (.tup []) with
      | some d, some e => if (SeqAt.shaped d && SeqAt.shaped e) = true then some (!PyData.eqv d e) else none
      | _, _ => none) = _
    cases q1 : dat S 12 (.tup (u :: us)) with
    | none => rw [q1] at e'; cases e'
    | some d1 =>
      cases q2 : dat S 12 (.tup []) with
      | none => rw [q1, q2] at e'; cases e'
      | some d2 =>
        rw [q1, q2] at e'
        simp only at e' ⊢
        split at e'
        · rename_i hs
          rw [if_pos hs, Option.some.inj e']; rfl
        · cases e'
theorem e_bent {S : Sto} {p c : Nat} {B : Int} {us : List U} (hp : Pen S p c B) (hB : B + 6 < 1000000) (hn : us ≠ []) (hl : us.length ≤ 8) (hu : ∀ u, u ∈ us → ∃ i : Int, u = .int i ∧ i.natAbs < 10 ^ 30) :
    ∃ v S', f__law_bent [.obj p, .tup us, .int 1] S = .ok v S' ∧ TOk 2 v ∧ Pen S' p c (B + 6) ∧ Kp p S S' ∧ S'.length = S.length := by
  have hi : ∀ u, u ∈ us → TOk 0 u := fun u h => by
    obtain ⟨i, rfl, hi⟩ := hu u h
    exact .int (Nat.lt_trans hi (by decide))
  have h0 : 0 < us.length := List.length_pos_iff.mpr hn
  have hT : TOk 1 (.tup us) := .tup hi (by omega)
  have nn : ∀ S, cmpE S .ne (.tup us) (.tup []) = some true := fun S => neNil hT.2.1 hn (by decide)
  have hN : N__law_bent.length - 3 = 4 := rfl
  obtain ⟨v1, S1, a1, a2, a3, a4, a5, a6⟩ := e_take (m := 4) hp (by omega) (by decide) (by decide)
  have sum : ∀ xs ys : List U, xs.length ≤ 100 → ys.length ≤ 100 → xs.length + ys.length ≤ sizeLine := fun xs ys h1 h2 => Nat.le_trans (show xs.length + ys.length ≤ 10000 by omega) (by decide +kernel)
  by_cases q : 0 < v1
  · -- an item otherwise
    obtain ⟨v2, S2, b1, b2, b3, b4, b5, b6⟩ := e_take (m := us.length) a4 (by omega) (by omega) (Nat.lt_of_le_of_lt (show _ ≤ 8 by omega) (by decide +kernel))
    obtain ⟨k, rfl⟩ := Int.eq_ofNat_of_zero_le b2
    have hk : k < us.length := by omega
    obtain ⟨i, ei, hi2⟩ := hu us[k] (List.getElem_mem hk)
    have at_ : L2.atI us (k : Int) = some (.int i) := atI_nat (by rw [List.getElem?_eq_getElem hk, ei])
    obtain ⟨v3, S3, c1, c2, c3, c4, c5⟩ := e_bent0 b4 (by omega) hi2
    have l1 := cut_len (us := us) (lo := none) (hi := some (k : Int))
    have l2 := cut_len (us := us) (lo := some ((k : Int) + 1)) (hi := none)
    have ad1 : ∀ S, binE S .add (.tup (cutU us none (some (k : Int)))) (.tup [v3]) = some (.tup (cutU us none (some (k : Int)) ++ [v3])) := fun S => binT_add (sum _ _ (by omega) (by simp))
    have ad2 : ∀ S, binE S .add (.tup (cutU us none (some (k : Int)) ++ [v3])) (.tup (cutU us (some ((k : Int) + 1)) none)) = some (.tup (cutU us none (some (k : Int)) ++ [v3] ++ cutU us (some ((k : Int) + 1)) none)) := fun S => binT_add (sum _ _ (by simp; omega) (by omega))
    have lk : (cutU us none (some (k : Int))).length ≤ k := by
      unfold cutU
      rw [HT.sIx_none, HT.sIx_nat]
      simp
      omega
    have lk2 : (cutU us (some ((k : Int) + 1)) none).length ≤ us.length - (k + 1) := by
      have : HT.sIx us.length 0 (some ((k : Int) + 1)) = min (k + 1) us.length := HT.sIx_nat _ _ (k + 1)
      unfold cutU
      rw [this, HT.sIx_none]
      simp
      omega
    refine ⟨.tup (cutU us none (some (k : Int)) ++ [v3] ++ cutU us (some ((k : Int) + 1)) none), S3, ?_, ?_, c3.mono (by omega), (a5.trans b5).trans c4, by omega⟩
    · rw [b__law_bent, r__law_bent]
      simp [evSs, evS, ev, evs, evB, evO, evN_lst, evN_listOf, evN_cat, evI, Res.bind, Res.toS, SR.andThen, ofO, ofS, asgT, asgTs, List.getElem?_cons_zero, List.getElem?_cons_succ, List.set_cons_zero, List.set_cons_succ, Option.map_some, Option.map_none, Option.bind_some, Option.bind_none, List.length_cons, List.length_nil, if_true, if_false, SR.res, Bool.not_true, Bool.not_false, Bool.false_eq_true, wipeR, List.map_cons, List.map_nil, cmp_eqI, cmp_neI, cmpS_eq, cmpS_ne, cmpI_lt, cmpI_le, cmpI_gt, cmpI_ge, Bool.not_eq_true, decide_true, decide_false, c__law_bent, hN, List.replicate, isiE, tyE, isiT, nn, d__law_bent___law_take, t__law_bent___law_take, a1, q, biE, seqOf, b1, slE, idxE, at_, binI_sub, binI_add, d__law_bent___law_bent, t__law_bent___law_bent, c1, sizeLine, ad1, ad2]
    · refine .tup (fun u hu' => ?_) (by simp; omega)
      rcases List.mem_append.mp hu' with h | h
      · rcases List.mem_append.mp h with h | h
        · exact (hi u (cut_mem h)).mono (by omega)
        · rw [List.mem_singleton.mp h]; exact c2
      · exact (hi u (cut_mem h)).mono (by omega)
  · obtain ⟨v2, S2, b1, b2, b3, b4, b5, b6⟩ := e_take (m := 12) a4 (by omega) (by decide) (by decide)
    obtain ⟨v3, S3, c1, c2, c3, c4, c5⟩ := e_one (us := strange) b4 (by omega) (by simp [strange]) (by simp [strange])
    have l1 := cut_len (us := us) (lo := none) (hi := some 1)
    have l2 := cut_len (us := us) (lo := none) (hi := some (-1))
    have l3 := cut_len (us := us) (lo := some 1) (hi := none)
    have ad1 : ∀ S, binE S .add (.tup us) (.tup (cutU us none (some 1))) = some (.tup (us ++ cutU us none (some 1))) := fun S => binT_add (sum _ _ (by omega) (by omega))
    have ad2 : ∀ S, binE S .add (.tup us) (.tup [.int (v2 - 2)]) = some (.tup (us ++ [.int (v2 - 2)])) := fun S => binT_add (sum _ _ (by omega) (by simp))
    have lk1 : (cutU us none (some 1)).length ≤ 1 := by
      have : HT.sIx us.length us.length (some 1) = min 1 us.length := HT.sIx_nat _ _ 1
      unfold cutU
      rw [this, HT.sIx_none]
      simp
      omega
    obtain ⟨v4, S4, d1, d2, d3, d4, d5⟩ := e_one (us := [.tl us, .tup (us ++ cutU us none (some 1)), .tup (cutU us none (some (-1))), .tup us.reverse, .tup (us ++ [.int (v2 - 2)]), .tup (cutU us (some 1) none), .tup [.tup us], v3]) c3 (by omega) (by simp) (by simp)
    have ad3 : ∀ S, binE S .add (.tl [.tl us, .tup (us ++ cutU us none (some 1)), .tup (cutU us none (some (-1))), .tup us.reverse, .tup (us ++ [.int (v2 - 2)]), .tup (cutU us (some 1) none), .tup [.tup us]]) (.tl [v3]) = some (.tl [.tl us, .tup (us ++ cutU us none (some 1)), .tup (cutU us none (some (-1))), .tup us.reverse, .tup (us ++ [.int (v2 - 2)]), .tup (cutU us (some 1) none), .tup [.tup us], v3]) := fun S => by
      show (if 7 + 1 ≤ sizeLine then some _ else none) = _
      rw [if_pos (by decide +kernel)]; rfl
    refine ⟨v4, S4, ?_, ?_, d3.mono (by omega), ((a5.trans b5).trans c4).trans d4, by omega⟩
    · rw [b__law_bent, r__law_bent]
      simp only [strange] at c1
      simp [evSs, evS, ev, evs, evB, evO, evN_lst, evN_listOf, evN_cat, evI, Res.bind, Res.toS, SR.andThen, ofO, ofS, asgT, asgTs, List.getElem?_cons_zero, List.getElem?_cons_succ, List.set_cons_zero, List.set_cons_succ, Option.map_some, Option.map_none, Option.bind_some, Option.bind_none, List.length_cons, List.length_nil, if_true, if_false, SR.res, Bool.not_true, Bool.not_false, Bool.false_eq_true, wipeR, List.map_cons, List.map_nil, cmp_eqI, cmp_neI, cmpS_eq, cmpS_ne, cmpI_lt, cmpI_le, cmpI_gt, cmpI_ge, Bool.not_eq_true, decide_true, decide_false, c__law_bent, hN, List.replicate, isiE, tyE, isiT, nn, d__law_bent___law_take, t__law_bent___law_take, a1, q, biE, seqOf, b1, slE, binI_sub, binI_add, d__law_bent___law_one, t__law_bent___law_one, c1, pw20, sizeLine, revE, ad1, ad2, ad3, d1]
    · have tT : ∀ ws : List U, (∀ w, w ∈ ws → w ∈ us ∨ w = .int (v2 - 2)) → ws.length ≤ 12 → TOk 2 (.tup ws) := fun ws h1 h2 => (TOk.tup (h := 0) (fun w hw => by
        rcases h1 w hw with e | e
        · exact hi w e
        · rw [e]; exact .int (Nat.lt_trans (show (v2 - 2).natAbs < 12 by omega) (by decide))) h2).mono (by omega)
      refine all_cons ((TOk.tl (h := 0) hi (by omega)).mono (by omega)) (all_cons (tT _ (fun w hw => ?_) (by simp; omega)) (all_cons (tT _ (fun w hw => .inl (cut_mem hw)) (by omega)) (all_cons (tT _ (fun w hw => .inl (List.mem_reverse.mp hw)) (by simp; omega))
        (all_cons (tT _ (fun w hw => ?_) (by simp; omega)) (all_cons (tT _ (fun w hw => .inl (cut_mem hw)) (by omega)) (all_cons (.tup (all_cons hT all_nil) (by simp)) (all_cons ((strange_ok v3 c2).mono (by omega)) all_nil))))))) v4 d2
      · rcases List.mem_append.mp hw with e | e
        · exact .inl e
        · exact .inl (cut_mem e)
      · rcases List.mem_append.mp hw with e | e
        · exact .inl e
        · exact .inr (List.mem_singleton.mp e)
end K

set_option Elab.async false
set_option linter.all false
set_option maxRecDepth 100000
set_option maxHeartbeats 3200000
set_option exponentiation.threshold 500
namespace K
open PySem PySem.Spec PyProof.Rows L2 Z
theorem e_looked {W : List (List Int)} {b t : U} {S : Sto} (h : WebOk W) (hs : Sm W) (hb : ByOk b) (ht : ThingOk t) (hd : Dk 4 (paperU W b t)) : f__law_looked [paperU W b t] S = .ok (dueU W b t) S := by
  rw [b__law_looked, r__law_looked]
  have hN : N__law_looked.length - 1 = 3 := rfl
  have lk := e_look (S := S) h hs hb ht hd
  simp [evSs, evS, ev, evs, evB, evO, evN_lst, evN_listOf, evN_cat, evI, Res.bind, Res.toS, SR.andThen, ofO, ofS, asgT, asgTs, List.getElem?_cons_zero, List.getElem?_cons_succ, List.set_cons_zero, List.set_cons_succ, Option.map_some, Option.map_none, Option.bind_some, Option.bind_none, List.length_cons, List.length_nil, if_true, if_false, SR.res, Bool.not_true, Bool.not_false, Bool.false_eq_true, wipeR, List.map_cons, List.map_nil, cmp_eqI, cmp_neI, cmpS_eq, cmpS_ne, cmpI_lt, cmpI_le, cmpI_gt, cmpI_ge, Bool.not_eq_true, decide_true, decide_false, c__law_looked, hN, List.replicate, sizeLine, d__law_looked__look, t__law_looked__look, lk, U.isNon]
theorem in_false {S : Sto} {f : U → Bool} {us : List U} : cmpE S .inn (.bl false) (.tl (bmap f us)) = some (!us.all f) := by
  have h1 : (bmap f us).all U.flat = true := by
    unfold bmap
    rw [List.all_map]
    exact all_true us
  show inE S (.bl false) (.tl (bmap f us)) = _
  show (if (U.flat (.bl false) && (bmap f us).all U.flat) = true then some (inV (flatD (.bl false)) ((bmap f us).map flatD)) else none) = _
  rw [h1, show (U.flat (.bl false) && true) = true from rfl, if_pos rfl]
  congr 1
  unfold bmap inV
  rw [List.map_map, List.any_map]
  clear h1
  induction us with
  | nil => rfl
  | cons u us ih =>
    rw [List.any_cons, ih, List.all_cons]
    cases q : f u <;> simp [Function.comp, flatD, eqV, q]
def wrong0 : U := .tup [.str "wrong", .int 0]
def wrong1 : U := .tup [.str "wrong", .int 1]
def right_ : U := .tup [.str "right"]
theorem e_du_l1 {W : List (List Int)} {m : Int} {us : List U} {S : Sto} (h8 : us.length ≤ 10000) (ho : ∀ u, u ∈ us → noObj u = true) : evN T19 c__law_due_l1 [some (webU W), some (.int m), some (.tup us), none, none, none, none] S = .ok (bmap (amongB m) us) S :=
  evN_map (T := T19) (tg := .name 5) (it := .seq (.var 2)) (own := [("_law_number", 5)]) (ρ := [some (webU W), some (.int m), some (.tup us), none, none, none, none]) (S := S) (S1 := S) (items := us) (fun u => .bl (amongB m u))
    (by simp [evSs, evS, ev, evs, evB, evO, evN_lst, evN_listOf, evN_cat, evI, Res.bind, Res.toS, SR.andThen, ofO, ofS, asgT, asgTs, List.getElem?_cons_zero, List.getElem?_cons_succ, List.set_cons_zero, List.set_cons_succ, Option.map_some, Option.map_none, Option.bind_some, Option.bind_none, List.length_cons, List.length_nil, if_true, if_false, SR.res, Bool.not_true, Bool.not_false, Bool.false_eq_true, wipeR, List.map_cons, List.map_nil, cmp_eqI, cmp_neI, cmpS_eq, cmpS_ne, cmpI_lt, cmpI_le, cmpI_gt, cmpI_ge, Bool.not_eq_true, decide_true, decide_false, seqOf]) Over.tup len_tup h8 (fun x hx => by
      refine ⟨_, rfl, ?_⟩
      have e := e_lis_whole (S := S) (ho x hx)
      cases x <;> first | (simp [evSs, evS, ev, evs, evB, evO, evN_lst, evN_listOf, evN_cat, evI, Res.bind, Res.toS, SR.andThen, ofO, ofS, asgT, asgTs, List.getElem?_cons_zero, List.getElem?_cons_succ, List.set_cons_zero, List.set_cons_succ, Option.map_some, Option.map_none, Option.bind_some, Option.bind_none, List.length_cons, List.length_nil, if_true, if_false, SR.res, Bool.not_true, Bool.not_false, Bool.false_eq_true, wipeR, List.map_cons, List.map_nil, cmp_eqI, cmp_neI, cmpS_eq, cmpS_ne, cmpI_lt, cmpI_le, cmpI_gt, cmpI_ge, Bool.not_eq_true, decide_true, decide_false, d__law_due___law_is_whole, t__law_due___law_is_whole, e, isW, amongB]; done) | skip
      rename_i i
      by_cases q : 0 ≤ i <;> simp [evSs, evS, ev, evs, evB, evO, evN_lst, evN_listOf, evN_cat, evI, Res.bind, Res.toS, SR.andThen, ofO, ofS, asgT, asgTs, List.getElem?_cons_zero, List.getElem?_cons_succ, List.set_cons_zero, List.set_cons_succ, Option.map_some, Option.map_none, Option.bind_some, Option.bind_none, List.length_cons, List.length_nil, if_true, if_false, SR.res, Bool.not_true, Bool.not_false, Bool.false_eq_true, wipeR, List.map_cons, List.map_nil, cmp_eqI, cmp_neI, cmpS_eq, cmpS_ne, cmpI_lt, cmpI_le, cmpI_gt, cmpI_ge, Bool.not_eq_true, decide_true, decide_false, d__law_due___law_is_whole, t__law_due___law_is_whole, e, isW, amongB, q])
theorem e_du_l2 {W : List (List Int)} {m : Int} {r ts : List Int} {us : List U} {S : Sto} {a d e : Option U} (hus : us = ts.map U.int) (hl : r.length = ts.length) (h8 : r.length ≤ 8) (hr : ∀ i, i ∈ r → i.natAbs < 2 ^ 400) (ht : ∀ i, i ∈ ts → i.natAbs < 2 ^ 400) :
    evN T19 c__law_due_l2 [some (webU W), some (.int m), some (.tup us), a, some (rowU r), d, e] S = .ok ((mulL r ts).map U.int) S := by
  subst hus
  have := evN_map (T := T19) (tg := .tup (.cons (.name 6) (.cons (.name 5) .nil))) (it := .zip false (.var 4) (.var 2)) (elt := .bin .mul (.var 6) (.var 5)) (own := [("_law_many", 6), ("_law_number", 5)]) (ρ := [some (webU W), some (.int m), some (.tup (ts.map U.int)), a, some (rowU r), d, e]) (S := S) (S1 := S) (src := .zip false (rowU r) (.tup (ts.map U.int))) (items := List.zipWith (fun x y => U.tup [x, y]) (r.map U.int) (ts.map U.int)) mulU
    (by simp [evSs, evS, ev, evs, evB, evO, evN_lst, evN_listOf, evN_cat, evI, Res.bind, Res.toS, SR.andThen, ofO, ofS, asgT, asgTs, List.getElem?_cons_zero, List.getElem?_cons_succ, List.set_cons_zero, List.set_cons_succ, Option.map_some, Option.map_none, Option.bind_some, Option.bind_none, List.length_cons, List.length_nil, if_true, if_false, SR.res, Bool.not_true, Bool.not_false, Bool.false_eq_true, wipeR, List.map_cons, List.map_nil, cmp_eqI, cmp_neI, cmpS_eq, cmpS_ne, cmpI_lt, cmpI_le, cmpI_gt, cmpI_ge, Bool.not_eq_true, decide_true, decide_false, rowU, tupOf, lstOf]) (Over.zip (fun _ _ => rfl) (fun _ _ => rfl) (by simp [hl])) (len_zip rfl rfl) (by simp; omega) (fun x hx => by
      obtain ⟨a', b', rfl, h1, h2⟩ := zip_mem hx
      refine ⟨_, rfl, ?_⟩
      simp [evSs, evS, ev, evs, evB, evO, evN_lst, evN_listOf, evN_cat, evI, Res.bind, Res.toS, SR.andThen, ofO, ofS, asgT, asgTs, List.getElem?_cons_zero, List.getElem?_cons_succ, List.set_cons_zero, List.set_cons_succ, Option.map_some, Option.map_none, Option.bind_some, Option.bind_none, List.length_cons, List.length_nil, if_true, if_false, SR.res, Bool.not_true, Bool.not_false, Bool.false_eq_true, wipeR, List.map_cons, List.map_nil, cmp_eqI, cmp_neI, cmpS_eq, cmpS_ne, cmpI_lt, cmpI_le, cmpI_gt, cmpI_ge, Bool.not_eq_true, decide_true, decide_false, binI_mul (hr a' h1) (ht b' h2), mulU])
  rw [zip_mul] at this
  exact this
theorem e_due {W : List (List Int)} {b u : U} {S : Sto} (h : WebOk W) (hs : Sm W) (hb : ByOk b) (ht : ThingOk u) : f__law_due [webU W, b, u] S = .ok (dueU W b u) S := by
  rw [b__law_due, r__law_due]
  have hN : N__law_due.length - 3 = 4 := rfl
  have iw := e_lis_whole (S := S) hb.no
  by_cases qb : ∃ m, b = .int m ∧ 2 ≤ m
  · obtain ⟨m, rfl, hm⟩ := qb
    have hm2 := hb.le m rfl
    have hm' : ¬ m < 2 := by omega
    by_cases qu : ∃ us, u = .tup us
    · obtain ⟨us, rfl⟩ := qu
      obtain ⟨h8, ho⟩ := ht.us us rfl
      have l1 := e_du_l1 (W := W) (m := m) (S := S) h8 ho
      simp only [webU] at l1
      by_cases q1 : us.length = W.length
      · by_cases q2 : us.all (amongB m) = true
        · obtain ⟨ts, ets, htt⟩ := among_ints q2
          have hlt : ts.length = W.length := by rw [ets] at q1; simpa using q1
          have tb : ∀ t, t ∈ ts → t.natAbs < 2 ^ 400 := fun t h => by have := htt t h; omega
          have key := forGo_inv (src := .enum (webU W)) (t := .tup (.cons (.name 3) (.cons (.name 4) .nil))) (body := evSs T19 FU c__law_due_b1) (items := (W.map rowU).mapIdx fun i x => U.tup [.int i, x])
            (fun i ρ S' => (∃ a b, ρ = [some (webU W), some (.int m), some (.tup us), a, b, none, none]) ∧ S' = S ∧ ∀ (j : Nat) (x : Int) (r : List Int), j < i → ts[j]? = some x → W[j]? = some r → (x - dot r ts).fmod m = 0)
            (fun v S' => v = wrong1 ∧ S' = S ∧ sums W m ts = false)
            (fun i ρ S' _ hi => Over.enum (I := fun _ => True) (fun _ _ => rfl) S' trivial i hi)
            (by
              intro i x ρ S' hx ⟨⟨a, b, e1⟩, e2, e3⟩
              subst e1 e2
              rw [List.getElem?_mapIdx, List.getElem?_map] at hx
              cases k2 : W[i]? with
              | none => rw [k2] at hx; cases hx
              | some r =>
                rw [k2] at hx
                cases hx
                have hiW := (List.getElem?_eq_some_iff.mp k2).1
                have k1 : ts[i]? = some ts[i] := List.getElem?_eq_getElem (by omega)
                generalize ts[i] = t at k1
                refine ⟨_, rfl, ?_⟩
                have hr := List.mem_of_getElem? k2
                have at_ : L2.atI us (i : Int) = some (.int t) := atI_nat (by rw [ets, List.getElem?_map, k1]; rfl)
                have l2 := e_du_l2 (W := W) (m := m) (r := r) (ts := ts) (S := S') (a := some (.int (i : Int))) (d := none) (e := none) ets (by rw [h.len r hr, hlt]) (by rw [h.len r hr]; exact h.le) (hs r hr) tb
                have hm0 : m ≠ 0 := by omega
                by_cases q : (t - dot r ts).fmod m = 0
                · refine .inl ⟨[some (webU W), some (.int m), some (.tup us), some (.int i), some (rowU r), none, none], S', .inl ?_, ⟨_, _, rfl⟩, rfl, fun j x r' hj g1 g2 => ?_⟩
                  · have q' : (t - (mulL r ts).sum).fmod m = 0 := q
                    simp [evSs, evS, ev, evs, evB, evO, evN_lst, evN_listOf, evN_cat, evI, Res.bind, Res.toS, SR.andThen, ofO, ofS, asgT, asgTs, List.getElem?_cons_zero, List.getElem?_cons_succ, List.set_cons_zero, List.set_cons_succ, Option.map_some, Option.map_none, Option.bind_some, Option.bind_none, List.length_cons, List.length_nil, if_true, if_false, SR.res, Bool.not_true, Bool.not_false, Bool.false_eq_true, wipeR, List.map_cons, List.map_nil, cmp_eqI, cmp_neI, cmpS_eq, cmpS_ne, cmpI_lt, cmpI_le, cmpI_gt, cmpI_ge, Bool.not_eq_true, decide_true, decide_false, c__law_due_b1, idxE, seqOf, at_, l2, biE, lstOf, intsOf_map, binI_sub, binI_md hm0, q']
                  · by_cases hji : j = i
                    · subst hji
                      rw [k1] at g1
                      rw [k2] at g2
                      cases g1
                      cases g2
                      exact q
                    · exact e3 j x r' (by omega) g1 g2
                · refine .inr ⟨wrong1, S', ?_, rfl, rfl, sums_false k1 k2 q⟩
                  have q' : ¬ (t - (mulL r ts).sum).fmod m = 0 := q
                  simp [evSs, evS, ev, evs, evB, evO, evN_lst, evN_listOf, evN_cat, evI, Res.bind, Res.toS, SR.andThen, ofO, ofS, asgT, asgTs, List.getElem?_cons_zero, List.getElem?_cons_succ, List.set_cons_zero, List.set_cons_succ, Option.map_some, Option.map_none, Option.bind_some, Option.bind_none, List.length_cons, List.length_nil, if_true, if_false, SR.res, Bool.not_true, Bool.not_false, Bool.false_eq_true, wipeR, List.map_cons, List.map_nil, cmp_eqI, cmp_neI, cmpS_eq, cmpS_ne, cmpI_lt, cmpI_le, cmpI_gt, cmpI_ge, Bool.not_eq_true, decide_true, decide_false, c__law_due_b1, idxE, seqOf, at_, l2, biE, lstOf, intsOf_map, binI_sub, binI_md hm0, q', sizeLine, wrong1]) W.length 0 [some (webU W), some (.int m), some (.tup us), none, none, none, none] S (by simp) ⟨⟨_, _, rfl⟩, rfl, by omega⟩
          simp only [webU] at key
          have hlz : Src.len S (.enum (.tup (W.map rowU))) = W.length := by simp [Src.len, seqOf]
          have hwb : worthB W m (.tup us) = sums W m ts := by
            have : intsOf us = some ts := by rw [ets]; exact intsOf_map ts
            simp [worthB, q1, q2, this]
          rcases key with ⟨ρ', S', k1, k2, k3, k4⟩ | ⟨v, S', k1, k2, k3, k4⟩
          · subst k3
            have : sums W m ts = true := sums_true fun i x r h1 h2 => k4 i x r (by
              have := (List.getElem?_eq_some_iff.mp h1).1
              simp; omega) h1 h2
            have hd : dueU W (.int m) (.tup us) = right_ := by simp [dueU, clB, hm, hwb, this, right_]
            rw [hd]
            simp [evSs, evS, ev, evs, evB, evO, evN_lst, evN_listOf, evN_cat, evI, Res.bind, Res.toS, SR.andThen, ofO, ofS, asgT, asgTs, List.getElem?_cons_zero, List.getElem?_cons_succ, List.set_cons_zero, List.set_cons_succ, Option.map_some, Option.map_none, Option.bind_some, Option.bind_none, List.length_cons, List.length_nil, if_true, if_false, SR.res, Bool.not_true, Bool.not_false, Bool.false_eq_true, wipeR, List.map_cons, List.map_nil, cmp_eqI, cmp_neI, cmpS_eq, cmpS_ne, cmpI_lt, cmpI_le, cmpI_gt, cmpI_ge, Bool.not_eq_true, decide_true, decide_false, c__law_due, hN, List.replicate, d__law_due___law_is_whole, t__law_due___law_is_whole, iw, isW, hm', isiE, tyE, isiT, biE, seqOf, lstOf, webU, l1, q1, in_false, q2, hlz, k1, sizeLine, right_]
          · subst k2 k3
            have hd : dueU W (.int m) (.tup us) = wrong1 := by simp [dueU, clB, hm, hwb, k4, wrong1]
            rw [hd]
            simp [evSs, evS, ev, evs, evB, evO, evN_lst, evN_listOf, evN_cat, evI, Res.bind, Res.toS, SR.andThen, ofO, ofS, asgT, asgTs, List.getElem?_cons_zero, List.getElem?_cons_succ, List.set_cons_zero, List.set_cons_succ, Option.map_some, Option.map_none, Option.bind_some, Option.bind_none, List.length_cons, List.length_nil, if_true, if_false, SR.res, Bool.not_true, Bool.not_false, Bool.false_eq_true, wipeR, List.map_cons, List.map_nil, cmp_eqI, cmp_neI, cmpS_eq, cmpS_ne, cmpI_lt, cmpI_le, cmpI_gt, cmpI_ge, Bool.not_eq_true, decide_true, decide_false, c__law_due, hN, List.replicate, d__law_due___law_is_whole, t__law_due___law_is_whole, iw, isW, hm', isiE, tyE, isiT, biE, seqOf, lstOf, webU, l1, q1, in_false, q2, hlz, k1, sizeLine, wrong1]
        · have hwb : worthB W m (.tup us) = false := by simp [worthB, q2]
          have hd : dueU W (.int m) (.tup us) = wrong1 := by simp [dueU, clB, hm, hwb, wrong1]
          rw [hd]
          simp [evSs, evS, ev, evs, evB, evO, evN_lst, evN_listOf, evN_cat, evI, Res.bind, Res.toS, SR.andThen, ofO, ofS, asgT, asgTs, List.getElem?_cons_zero, List.getElem?_cons_succ, List.set_cons_zero, List.set_cons_succ, Option.map_some, Option.map_none, Option.bind_some, Option.bind_none, List.length_cons, List.length_nil, if_true, if_false, SR.res, Bool.not_true, Bool.not_false, Bool.false_eq_true, wipeR, List.map_cons, List.map_nil, cmp_eqI, cmp_neI, cmpS_eq, cmpS_ne, cmpI_lt, cmpI_le, cmpI_gt, cmpI_ge, Bool.not_eq_true, decide_true, decide_false, c__law_due, hN, List.replicate, d__law_due___law_is_whole, t__law_due___law_is_whole, iw, isW, hm', isiE, tyE, isiT, biE, seqOf, lstOf, webU, l1, q1, in_false, q2, sizeLine, wrong1]
      · have hwb : worthB W m (.tup us) = false := by simp [worthB, q1]
        have hd : dueU W (.int m) (.tup us) = wrong1 := by simp [dueU, clB, hm, hwb, wrong1]
        rw [hd]
        have q1' : ¬ ((us.length : Int) = W.length) := by omega
        simp [evSs, evS, ev, evs, evB, evO, evN_lst, evN_listOf, evN_cat, evI, Res.bind, Res.toS, SR.andThen, ofO, ofS, asgT, asgTs, List.getElem?_cons_zero, List.getElem?_cons_succ, List.set_cons_zero, List.set_cons_succ, Option.map_some, Option.map_none, Option.bind_some, Option.bind_none, List.length_cons, List.length_nil, if_true, if_false, SR.res, Bool.not_true, Bool.not_false, Bool.false_eq_true, wipeR, List.map_cons, List.map_nil, cmp_eqI, cmp_neI, cmpS_eq, cmpS_ne, cmpI_lt, cmpI_le, cmpI_gt, cmpI_ge, Bool.not_eq_true, decide_true, decide_false, c__law_due, hN, List.replicate, d__law_due___law_is_whole, t__law_due___law_is_whole, iw, isW, hm', isiE, tyE, isiT, biE, seqOf, lstOf, webU, q1, q1', sizeLine, wrong1]
    · have hwb : worthB W m u = false := by cases u <;> first | rfl | exact absurd ⟨_, rfl⟩ qu
      have hd : dueU W (.int m) u = wrong1 := by simp [dueU, clB, hm, hwb, wrong1]
      rw [hd]
      have hn := ht.no
      cases u <;> first | exact absurd ⟨_, rfl⟩ qu | (cases hn; done) | simp [evSs, evS, ev, evs, evB, evO, evN_lst, evN_listOf, evN_cat, evI, Res.bind, Res.toS, SR.andThen, ofO, ofS, asgT, asgTs, List.getElem?_cons_zero, List.getElem?_cons_succ, List.set_cons_zero, List.set_cons_succ, Option.map_some, Option.map_none, Option.bind_some, Option.bind_none, List.length_cons, List.length_nil, if_true, if_false, SR.res, Bool.not_true, Bool.not_false, Bool.false_eq_true, wipeR, List.map_cons, List.map_nil, cmp_eqI, cmp_neI, cmpS_eq, cmpS_ne, cmpI_lt, cmpI_le, cmpI_gt, cmpI_ge, Bool.not_eq_true, decide_true, decide_false, c__law_due, hN, List.replicate, d__law_due___law_is_whole, t__law_due___law_is_whole, iw, isW, hm', isiE, tyE, isiT, sizeLine, wrong1]
  · have hd : dueU W b u = wrong0 := by
      cases b <;> first | rfl | skip
      rename_i m
      have : ¬ 2 ≤ m := fun e => qb ⟨m, rfl, e⟩
      simp [dueU, clB, this, wrong0]
    rw [hd]
    cases b <;> first | (simp [evSs, evS, ev, evs, evB, evO, evN_lst, evN_listOf, evN_cat, evI, Res.bind, Res.toS, SR.andThen, ofO, ofS, asgT, asgTs, List.getElem?_cons_zero, List.getElem?_cons_succ, List.set_cons_zero, List.set_cons_succ, Option.map_some, Option.map_none, Option.bind_some, Option.bind_none, List.length_cons, List.length_nil, if_true, if_false, SR.res, Bool.not_true, Bool.not_false, Bool.false_eq_true, wipeR, List.map_cons, List.map_nil, cmp_eqI, cmp_neI, cmpS_eq, cmpS_ne, cmpI_lt, cmpI_le, cmpI_gt, cmpI_ge, Bool.not_eq_true, decide_true, decide_false, c__law_due, hN, List.replicate, d__law_due___law_is_whole, t__law_due___law_is_whole, iw, isW, sizeLine, wrong0]; done) | skip
    rename_i m
    have : m < 2 := by
      have : ¬ 2 ≤ m := fun e => qb ⟨m, rfl, e⟩
      omega
    simp [evSs, evS, ev, evs, evB, evO, evN_lst, evN_listOf, evN_cat, evI, Res.bind, Res.toS, SR.andThen, ofO, ofS, asgT, asgTs, List.getElem?_cons_zero, List.getElem?_cons_succ, List.set_cons_zero, List.set_cons_succ, Option.map_some, Option.map_none, Option.bind_some, Option.bind_none, List.length_cons, List.length_nil, if_true, if_false, SR.res, Bool.not_true, Bool.not_false, Bool.false_eq_true, wipeR, List.map_cons, List.map_nil, cmp_eqI, cmp_neI, cmpS_eq, cmpS_ne, cmpI_lt, cmpI_le, cmpI_gt, cmpI_ge, Bool.not_eq_true, decide_true, decide_false, c__law_due, hN, List.replicate, d__law_due___law_is_whole, t__law_due___law_is_whole, iw, isW, this, sizeLine, wrong0]
end K

set_option Elab.async false
set_option linter.all false
set_option maxRecDepth 100000
set_option maxHeartbeats 3200000
set_option exponentiation.threshold 500
namespace K
open PySem PySem.Spec PyProof.Rows L2 Z
theorem Pen.app {S : Sto} {p c : Nat} {B : Int} {o : SO} (x : Pen S p c B) : Pen (S ++ [o]) p c B := by
  have l := x.lt
  obtain ⟨cells, a, h, ⟨h1, h2, h3⟩, h4⟩ := x
  exact ⟨cells, a, h, ⟨by rw [List.getElem?_append_left l.1]; exact h1, by rw [List.getElem?_append_left l.2]; exact h2, h3⟩, h4⟩
theorem Pen.setNe {S : Sto} {p c k : Nat} {B : Int} {o : SO} (x : Pen S p c B) (hp : k ≠ p) (hc : k ≠ c) : Pen (S.set k o) p c B := by
  obtain ⟨cells, a, h, ⟨h1, h2, h3⟩, h4⟩ := x
  exact ⟨cells, a, h, ⟨by rw [List.getElem?_set_ne hp]; exact h1, by rw [List.getElem?_set_ne hc]; exact h2, h3⟩, h4⟩
theorem Kp.app {p : Nat} {S S' : Sto} {o : SO} (x : Kp p S S') : Kp p S (S' ++ [o]) := ⟨by rw [List.length_append]; have := x.1; omega, fun i hi hp => by rw [List.getElem?_append_left (Nat.lt_of_lt_of_le hi x.1)]; exact x.2 i hi hp⟩
theorem Kp.setGe {p k : Nat} {S S' : Sto} {o : SO} (x : Kp p S S') (hk : S.length ≤ k) : Kp p S (S'.set k o) := ⟨by rw [List.length_set]; exact x.1, fun i hi hp => by rw [List.getElem?_set_ne (by omega)]; exact x.2 i hi hp⟩
theorem takes_lc {p c n : Nat} {m B : Int} {st : U → Sto → Res (Option U)} (hn : n ≤ 1000) (hst : ∀ x S (b : Int), b < B + n → Pen S p c b → ∃ v S', st x S = .ok (some (.int v)) S' ∧ 0 ≤ v ∧ v < m ∧ Pen S' p c (b + 1) ∧ Kp p S S' ∧ S'.length = S.length) {S : Sto} (hp : Pen S p c B) :
    ∃ (ws : List Int) (S' : Sto), lcGo (.rng 0 n) st n 0 [] S = .ok (ws.map U.int) S' ∧ ws.length = n ∧ (∀ w, w ∈ ws → 0 ≤ w ∧ w < m) ∧ Pen S' p c (B + n) ∧ Kp p S S' ∧ S'.length = S.length := by
  have hl : ((List.range n).map fun (i : Nat) => U.int (0 + i)).length = n := by simp
  obtain ⟨acc, S', h1, ws, h2, h3, h4, h5, h6, h7⟩ := lcGo_inv (src := .rng 0 n) (st := st) (items := (List.range n).map fun (i : Nat) => U.int (0 + i)) (fun i acc S' => ∃ ws : List Int, acc = ws.map U.int ∧ ws.length = i ∧ (∀ w, w ∈ ws → 0 ≤ w ∧ w < m) ∧ Pen S' p c (B + i) ∧ Kp p S S' ∧ S'.length = S.length)
    (fun i acc S' _ hi => Over.rng (I := fun _ => True) S' trivial i hi) (by
      intro i x acc S' hx ⟨ws, h2, h3, h4, h5, h6, h7⟩
      have hi := (List.getElem?_eq_some_iff.mp hx).1
      rw [hl] at hi
      obtain ⟨v, S2, k1, k2, k3, k4, k5, k6⟩ := hst x S' (B + i) (by omega) h5
      refine ⟨some (.int v), S2, k1, ws ++ [v], by rw [h2]; simp, by simp [h3], fun w hw => ?_, by rw [show B + ((i + 1 : Nat) : Int) = B + i + 1 by omega]; exact k4, h6.trans k5, by omega⟩
      rcases List.mem_append.mp hw with e | e
      · exact h4 w e
      · rw [List.mem_singleton.mp e]; exact ⟨k2, k3⟩) (by rw [hl]; exact sz_of (by omega)) n 0 [] S (by rw [hl]; omega) (Nat.le_refl 0) ⟨[], rfl, rfl, by simp, by simpa using hp, Kp.refl, rfl⟩
  rw [hl] at h3 h5
  exact ⟨ws, S', by rw [h1, h2], h3, h4, h5, h6, h7⟩
theorem pw9 {S : Sto} : binE S .pw (.int 10) (.int 9) = some (.int 1000000000) := by rw [binI_pw (by decide) (by decide) (by decide)]; rfl
section
variable {S : Sto} {p c n : Nat} {B m j : Int}
theorem e_su_l1 {ρ : Rho} (hp : Pen S p c B) (hB : B + n < 1000000) (hn : n ≤ 8) (hm : 1 ≤ m) (hm2 : m.natAbs < 2 ^ 400) (h0 : ρ[0]? = some (some (.obj p))) (h1 : ρ[1]? = some (some (.int n))) (h2 : ρ[2]? = some (some (.int m))) :
    ∃ (ws : List Int) (S' : Sto), evN T18 c__law_sure_l1 ρ S = .ok (ws.map U.int) S' ∧ ws.length = n ∧ (∀ w, w ∈ ws → 0 ≤ w ∧ w < m) ∧ Pen S' p c (B + n) ∧ Kp p S S' ∧ S'.length = S.length := by
  have hz : -(2 ^ 62) ≤ (n : Int) ∧ (n : Int) < 2 ^ 62 := ⟨by omega, by omega⟩
  have key : ∀ x S (b : Int), b < B + n → Pen S p c b → ∃ v S', (fun (x : U) (S2 : Sto) => match asgT (.name 6) x (wipeR ρ [6]) with
      | none => Res.no
      | some ρ' => (ev T18 (.call "_law_take" (.cons (.var 0) (.cons (.var 2) .nil))) ρ' S2).bind fun u S3 => .ok (some u) S3) x S = .ok (some (.int v)) S' ∧ 0 ≤ v ∧ v < m ∧ Pen S' p c (b + 1) ∧ Kp p S S' ∧ S'.length = S.length := by
    intro x S b hb hp
    obtain ⟨v, S', k1, k2⟩ := e_take (m := m) hp (by omega) hm hm2
    refine ⟨v, S', ?_, k2⟩
    have g0 : ((ρ.set 6 none).set 6 (some x))[0]? = some (some (.obj p)) := by rw [List.getElem?_set_ne (by omega), List.getElem?_set_ne (by omega)]; exact h0
    have g2 : ((ρ.set 6 none).set 6 (some x))[2]? = some (some (.int m)) := by rw [List.getElem?_set_ne (by omega), List.getElem?_set_ne (by omega)]; exact h2
    simp only [asgT, wipeR, ev, evs, g0, g2, Res.bind, d__law_sure___law_take, t__law_sure___law_take, if_true, k1]
  obtain ⟨ws, S', k1, k2⟩ := takes_lc (by omega) key hp
  refine ⟨ws, S', ?_, k2⟩
  unfold c__law_sure_l1
  simp only [evN, evI, ev, h1, Res.bind, if_pos hz, Src.len, Int.toNat_natCast, List.map_cons, List.map_nil]
  exact k1
theorem e_su_l2 {ρ : Rho} (hp : Pen S p c B) (hB : B + n < 1000000) (hn : n ≤ 8) (h0 : ρ[0]? = some (some (.obj p))) (h1 : ρ[1]? = some (some (.int n))) :
    ∃ (ws : List Int) (S' : Sto), evN T18 c__law_sure_l2 ρ S = .ok (ws.map U.int) S' ∧ ws.length = n ∧ (∀ w, w ∈ ws → 0 ≤ w ∧ w < 4) ∧ Pen S' p c (B + n) ∧ Kp p S S' ∧ S'.length = S.length := by
  have hz : -(2 ^ 62) ≤ (n : Int) ∧ (n : Int) < 2 ^ 62 := ⟨by omega, by omega⟩
  have key : ∀ x S (b : Int), b < B + n → Pen S p c b → ∃ v S', (fun (x : U) (S2 : Sto) => match asgT (.name 9) x (wipeR ρ [9]) with
      | none => Res.no
      | some ρ' => (ev T18 (.call "_law_take" (.cons (.var 0) (.cons (.int 4) .nil))) ρ' S2).bind fun u S3 => .ok (some u) S3) x S = .ok (some (.int v)) S' ∧ 0 ≤ v ∧ v < 4 ∧ Pen S' p c (b + 1) ∧ Kp p S S' ∧ S'.length = S.length := by
    intro x S b hb hp
    obtain ⟨v, S', k1, k2⟩ := e_take (m := 4) hp (by omega) (by decide) (by decide)
    refine ⟨v, S', ?_, k2⟩
    have g0 : ((ρ.set 9 none).set 9 (some x))[0]? = some (some (.obj p)) := by rw [List.getElem?_set_ne (by omega), List.getElem?_set_ne (by omega)]; exact h0
    simp only [asgT, wipeR, ev, evs, g0, Res.bind, d__law_sure___law_take, t__law_sure___law_take, if_true, k1]
  obtain ⟨ws, S', k1, k2⟩ := takes_lc (by omega) key hp
  refine ⟨ws, S', ?_, k2⟩
  unfold c__law_sure_l2
  simp only [evN, evI, ev, h1, Res.bind, if_pos hz, Src.len, Int.toNat_natCast, List.map_cons, List.map_nil]
  exact k1
theorem e_su_l3 {ρ : Rho} {k k3 : Nat} {r ws : List Int} (hk : S[k]? = some (.lst (ws.map U.int))) (hk3 : S[k3]? = some (.lst (r.map U.int))) (hl : r.length = ws.length) (h8 : r.length ≤ 8) (hr : ∀ i, i ∈ r → i.natAbs < 2 ^ 400) (hw : ∀ i, i ∈ ws → i.natAbs < 2 ^ 400)
    (h3 : ρ[3]? = some (some (.obj k))) (h7 : ρ[7]? = some (some (.obj k3))) (hρ : ρ.length = 11) : evN T18 c__law_sure_l3 ρ S = .ok ((mulL r ws).map U.int) S := by
  have s1 : seqOf S (.obj k3) = some (r.map U.int) := by show lstOf S (.obj k3) = _; simp only [lstOf, hk3]
  have s2 : seqOf S (.obj k) = some (ws.map U.int) := by show lstOf S (.obj k) = _; simp only [lstOf, hk]
  have t1 : lstOf S (.obj k3) = some (r.map U.int) := s1
  have t2 : lstOf S (.obj k) = some (ws.map U.int) := s2
  have := evN_map (T := T18) (tg := .tup (.cons (.name 10) (.cons (.name 9) .nil))) (it := .zip false (.var 7) (.var 3)) (elt := .bin .mul (.var 10) (.var 9)) (own := [("_law_number", 10), ("_law_other", 9)]) (ρ := ρ) (S := S) (S1 := S) (src := .zip false (.obj k3) (.obj k)) (items := List.zipWith (fun x y => U.tup [x, y]) (r.map U.int) (ws.map U.int)) mulU
    (by simp [evI, ev, h3, h7, Res.bind, t1, t2]) (Over.zip (fun S' e => by rw [e]; exact s1) (fun S' e => by rw [e]; exact s2) (by simp [hl])) (len_zip s1 s2) (by simp; omega) (fun x hx => by
      obtain ⟨a', b', rfl, h1, h2⟩ := zip_mem hx
      refine ⟨_, rfl, ?_⟩
      have g10 : (((((ρ.set 9 none).set 10 none).set 10 (some (U.int a'))).set 9 (some (U.int b'))))[10]? = some (some (.int a')) := by rw [List.getElem?_set_ne (by omega), List.getElem?_set_self (by simp; omega)]
      have g9 : (((((ρ.set 9 none).set 10 none).set 10 (some (U.int a'))).set 9 (some (U.int b'))))[9]? = some (some (.int b')) := by rw [List.getElem?_set_self (by simp; omega)]
      simp only [ev, wipeR, List.map_cons, List.map_nil, g10, g9, Res.bind, ofO, binI_mul (hr a' h1) (hw b' h2), mulU])
  rw [zip_mul] at this
  exact this
end
end K

set_option Elab.async false
set_option linter.all false
set_option maxRecDepth 100000
set_option maxHeartbeats 3200000
set_option exponentiation.threshold 500
namespace K
open PySem PySem.Spec PyProof.Rows L2 Z
theorem ixN_nat {n j : Nat} (hj : j < n) : L2.ixN n (j : Int) = some j := by unfold L2.ixN; rw [if_pos (by omega), if_pos (by omega)]; simp
theorem small400 {a : Int} (h0 : 0 ≤ a) (h1 : a < 2000000000) : a.natAbs < 2 ^ 400 := nb400 h0 (Int.lt_trans h1 (by decide))
def RowOk (n : Nat) (r : List Int) : Prop := r.length = n ∧ ∀ i, i ∈ r → 0 ≤ i ∧ i < 2000000000
/-- a turn of sure's walk -/
theorem e_su_b1 {S : Sto} {p c n k k2 j i : Nat} {B m : Int} {ws : List Int} {R : List (List Int)} {r7 r8 : Option U} (hp : Pen S p c B) (hB : B + n < 1000000) (hn : n ≤ 8) (hm : 2 ≤ m) (hm2 : m < 2000000000) (hj : j < n) (hi : i < n)
    (hk : S[k]? = some (.lst (ws.map U.int))) (hk2 : S[k2]? = some (.lst (R.map rowU))) (hw : ws.length = n) (hws : ∀ w, w ∈ ws → 0 ≤ w ∧ w < 2000000000) (hkp : k ≠ p) (hkc : k ≠ c) (hk2p : k2 ≠ p) (hk2c : k2 ≠ c) (hkk : k ≠ k2) (hR : R.length ≤ 8) :
    ∃ (r : List Int) (u7 u8 : U) (S' : Sto), evSs T18 FU c__law_sure_b1 [some (.obj p), some (.int n), some (.int m), some (.obj k), some (.int j), some (.obj k2), some (.int i), r7, r8, none, none] S = .nx [some (.obj p), some (.int n), some (.int m), some (.obj k), some (.int j), some (.obj k2), some (.int i), some u7, some u8, none, none] S' ∧
      RowOk n r ∧ Pen S' p c (B + n) ∧ S'[k]? = some (.lst (ws.map U.int)) ∧ S'[k2]? = some (.lst ((R ++ [r]).map rowU)) ∧ S.length ≤ S'.length ∧ ∀ q, q < S.length → q ≠ p → q ≠ k2 → S'[q]? = S[q]? := by
  obtain ⟨rs, S1, a1, a2, a3, a4, a5, a6⟩ := e_su_l2 (n := n) (ρ := [some (.obj p), some (.int n), some (.int m), some (.obj k), some (.int j), some (.obj k2), some (.int i), r7, r8, none, none]) hp hB hn rfl rfl
  have lp := hp.lt
  have hkl := (List.getElem?_eq_some_iff.mp hk).1
  have hk2l := (List.getElem?_eq_some_iff.mp hk2).1
  -- the row, its place nought
  have e1 : (rs.map U.int).set j (.int 0) = (rs.set j 0).map U.int := by simp [List.map_set]
  have hjr : j < rs.length := by omega
  have rs0 : ∀ x, x ∈ rs.set j 0 → 0 ≤ x ∧ x < 4 := fun x hx => by
    rcases List.mem_or_eq_of_mem_set hx with e | e
    · exact a3 x e
    · rw [e]; decide
  have k1 : S1[k]? = some (.lst (ws.map U.int)) := by rw [a5.2 k hkl hkp]; exact hk
  have k2' : S1[k2]? = some (.lst (R.map rowU)) := by rw [a5.2 k2 hk2l hk2p]; exact hk2
  have l3 := e_su_l3 (S := S1 ++ [SO.lst ((rs.set j 0).map U.int)]) (ρ := [some (.obj p), some (.int n), some (.int m), some (.obj k), some (.int j), some (.obj k2), some (.int i), some (.obj S1.length), r8, none, none]) (k := k) (k3 := S1.length) (r := rs.set j 0) (ws := ws)
    (by rw [List.getElem?_append_left (by omega)]; exact k1) (by simp) (by simp; omega) (by simp; omega) (fun x hx => small400 (rs0 x hx).1 (Int.lt_trans (rs0 x hx).2 (by decide))) (fun x hx => small400 (hws x hx).1 (hws x hx).2) rfl rfl rfl
  have hiw : i < ws.length := by omega
  have at_ : L2.atI (ws.map U.int) (i : Int) = some (.int ws[i]) := atI_nat (by rw [List.getElem?_map, List.getElem?_eq_getElem hiw]; rfl)
  have hm0 : m ≠ 0 := by omega
  generalize hx : (ws[i] - (mulL (rs.set j 0) ws).sum) = x
  have rx := fmod_rng (i := x) (j := m) (by omega)
  have e2 : ((rs.set j 0).map U.int).set j (.int (x.fmod m)) = (rs.set j (x.fmod m)).map U.int := by
    rw [← List.map_set, List.set_set]
  have szl : (R.map rowU).length < sizeLine := Nat.lt_of_le_of_lt (show _ ≤ 8 by simpa using hR) (by decide +kernel)
  refine ⟨rs.set j (x.fmod m), .obj S1.length, .int x, (S1 ++ [SO.lst ((rs.set j (x.fmod m)).map U.int)]).set k2 (.lst ((R ++ [rs.set j (x.fmod m)]).map rowU)), ?_, ⟨by simpa using a2, fun y hy => ?_⟩, (a4.app).setNe hk2p hk2c, ?_, ?_, ?_, ?_⟩
  · have nk1 : (S1 ++ [SO.lst ((rs.set j 0).map U.int)])[k]? = some (.lst (ws.map U.int)) := by rw [List.getElem?_append_left (by omega)]; exact k1
    have nk2 : (S1 ++ [SO.lst ((rs.set j (x.fmod m)).map U.int)])[k2]? = some (.lst (R.map rowU)) := by rw [List.getElem?_append_left (by omega)]; exact k2'
    have ix1 : L2.ixN (rs.map U.int).length (j : Int) = some j := ixN_nat (by simpa using hjr)
    have ix2 : L2.ixN ((rs.set j 0).map U.int).length (j : Int) = some j := ixN_nat (by simpa using hjr)
    have q0 : ∀ o : SO, (S1 ++ [o])[S1.length]? = some o := fun o => by simp
    have q1 : ∀ o o' : SO, (S1 ++ [o]).set S1.length o' = S1 ++ [o'] := fun o o' => by simp
    have st1 : evS T18 FU (.asg (.name 7) (.mk c__law_sure_l2)) [some (.obj p), some (.int n), some (.int m), some (.obj k), some (.int j), some (.obj k2), some (.int i), r7, r8, none, none] S = .nx [some (.obj p), some (.int n), some (.int m), some (.obj k), some (.int j), some (.obj k2), some (.int i), some (.obj S1.length), r8, none, none] (S1 ++ [SO.lst (rs.map U.int)]) := by
      rw [evS, ev, a1]
      rfl
    have st2 : evS T18 FU (.setI (.var 7) (.var 4) (.int 0)) [some (.obj p), some (.int n), some (.int m), some (.obj k), some (.int j), some (.obj k2), some (.int i), some (.obj S1.length), r8, none, none] (S1 ++ [SO.lst (rs.map U.int)]) = .nx [some (.obj p), some (.int n), some (.int m), some (.obj k), some (.int j), some (.obj k2), some (.int i), some (.obj S1.length), r8, none, none] (S1 ++ [SO.lst ((rs.set j 0).map U.int)]) := by
      simp only [evSs, evS, ev, evs, evB, evO, evN_lst, evN_listOf, evN_cat, evI, Res.bind, Res.toS, SR.andThen, ofO, ofS, asgT, asgTs, List.getElem?_cons_zero, List.getElem?_cons_succ, List.set_cons_zero, List.set_cons_succ, Option.map_some, Option.map_none, Option.bind_some, Option.bind_none, List.length_cons, List.length_nil, if_true, if_false, SR.res, Bool.not_true, Bool.not_false, Bool.false_eq_true, wipeR, List.map_cons, List.map_nil, cmp_eqI, cmp_neI, cmpS_eq, cmpS_ne, cmpI_lt, cmpI_le, cmpI_gt, cmpI_ge, Bool.not_eq_true, decide_true, decide_false, q0, ix1, q1, e1]
    have st3 : evS T18 FU (.asg (.name 8) (.bin .sub (.idx (.var 3) (.var 6)) (.bi .sum (.cons (.tmp c__law_sure_l3) .nil)))) [some (.obj p), some (.int n), some (.int m), some (.obj k), some (.int j), some (.obj k2), some (.int i), some (.obj S1.length), r8, none, none] (S1 ++ [SO.lst ((rs.set j 0).map U.int)]) = .nx [some (.obj p), some (.int n), some (.int m), some (.obj k), some (.int j), some (.obj k2), some (.int i), some (.obj S1.length), some (.int x), none, none] (S1 ++ [SO.lst ((rs.set j 0).map U.int)]) := by
      simp only [evSs, evS, ev, evs, evB, evO, evN_lst, evN_listOf, evN_cat, evI, Res.bind, Res.toS, SR.andThen, ofO, ofS, asgT, asgTs, List.getElem?_cons_zero, List.getElem?_cons_succ, List.set_cons_zero, List.set_cons_succ, Option.map_some, Option.map_none, Option.bind_some, Option.bind_none, List.length_cons, List.length_nil, if_true, if_false, SR.res, Bool.not_true, Bool.not_false, Bool.false_eq_true, wipeR, List.map_cons, List.map_nil, cmp_eqI, cmp_neI, cmpS_eq, cmpS_ne, cmpI_lt, cmpI_le, cmpI_gt, cmpI_ge, Bool.not_eq_true, decide_true, decide_false, idxE, seqOf, lstOf, nk1, at_, l3, biE, intsOf_map, binI_sub, hx]
    have st4 : evS T18 FU (.setI (.var 7) (.var 4) (.bin .md (.var 8) (.var 2))) [some (.obj p), some (.int n), some (.int m), some (.obj k), some (.int j), some (.obj k2), some (.int i), some (.obj S1.length), some (.int x), none, none] (S1 ++ [SO.lst ((rs.set j 0).map U.int)]) = .nx [some (.obj p), some (.int n), some (.int m), some (.obj k), some (.int j), some (.obj k2), some (.int i), some (.obj S1.length), some (.int x), none, none] (S1 ++ [SO.lst ((rs.set j (x.fmod m)).map U.int)]) := by
      simp only [evSs, evS, ev, evs, evB, evO, evN_lst, evN_listOf, evN_cat, evI, Res.bind, Res.toS, SR.andThen, ofO, ofS, asgT, asgTs, List.getElem?_cons_zero, List.getElem?_cons_succ, List.set_cons_zero, List.set_cons_succ, Option.map_some, Option.map_none, Option.bind_some, Option.bind_none, List.length_cons, List.length_nil, if_true, if_false, SR.res, Bool.not_true, Bool.not_false, Bool.false_eq_true, wipeR, List.map_cons, List.map_nil, cmp_eqI, cmp_neI, cmpS_eq, cmpS_ne, cmpI_lt, cmpI_le, cmpI_gt, cmpI_ge, Bool.not_eq_true, decide_true, decide_false, binI_md hm0, q0, ix2, q1, e2]
    have st5 : evS T18 FU (.app (.var 5) (.bi .tuple (.cons (.var 7) .nil))) [some (.obj p), some (.int n), some (.int m), some (.obj k), some (.int j), some (.obj k2), some (.int i), some (.obj S1.length), some (.int x), none, none] (S1 ++ [SO.lst ((rs.set j (x.fmod m)).map U.int)]) = .nx [some (.obj p), some (.int n), some (.int m), some (.obj k), some (.int j), some (.obj k2), some (.int i), some (.obj S1.length), some (.int x), none, none] ((S1 ++ [SO.lst ((rs.set j (x.fmod m)).map U.int)]).set k2 (.lst ((R ++ [rs.set j (x.fmod m)]).map rowU))) := by
      have e3 : (R ++ [rs.set j (x.fmod m)]).map rowU = R.map rowU ++ [.tup ((rs.set j (x.fmod m)).map U.int)] := by rw [List.map_append]; rfl
      rw [e3]
      simp only [evSs, evS, ev, evs, evB, evO, evN_lst, evN_listOf, evN_cat, evI, Res.bind, Res.toS, SR.andThen, ofO, ofS, asgT, asgTs, List.getElem?_cons_zero, List.getElem?_cons_succ, List.set_cons_zero, List.set_cons_succ, Option.map_some, Option.map_none, Option.bind_some, Option.bind_none, List.length_cons, List.length_nil, if_true, if_false, SR.res, Bool.not_true, Bool.not_false, Bool.false_eq_true, wipeR, List.map_cons, List.map_nil, cmp_eqI, cmp_neI, cmpS_eq, cmpS_ne, cmpI_lt, cmpI_le, cmpI_gt, cmpI_ge, Bool.not_eq_true, decide_true, decide_false, lstOf, nk2, Option.isSome_some, biE, seqOf, q0, if_pos szl]
    unfold c__law_sure_b1
    rw [evSs, st1]
    show evSs _ _ _ _ _ = _
    rw [evSs, st2]
    show evSs _ _ _ _ _ = _
    rw [evSs, st3]
    show evSs _ _ _ _ _ = _
    rw [evSs, st4]
    show evSs _ _ _ _ _ = _
    rw [evSs, st5]
    show evSs _ _ _ _ _ = _
    rw [evSs]
  · rcases List.mem_or_eq_of_mem_set hy with e | e
    · have := a3 y e; omega
    · rw [e]; omega
  · rw [List.getElem?_set_ne (Ne.symm hkk), List.getElem?_append_left (by omega)]; exact k1
  · exact List.getElem?_set_self (by simp; omega)
  · simp; omega
  · intro q hq hqp hqk
    rw [List.getElem?_set_ne (Ne.symm hqk), List.getElem?_append_left (by omega)]
    exact a5.2 q hq hqp
end K

set_option Elab.async false
set_option linter.all false
set_option maxRecDepth 100000
set_option maxHeartbeats 3200000
set_option exponentiation.threshold 500
namespace K
open PySem PySem.Spec PyProof.Rows L2 Z
theorem then_nx {ρ : Rho} {S : Sto} {k : Rho → Sto → SR} : (SR.nx ρ S).andThen k = k ρ S := rfl
theorem then_rt {u : U} {S : Sto} {k : Rho → Sto → SR} : (SR.rt u S).andThen k = .rt u S := rfl
structure Sure (n : Nat) (W : List (List Int)) (m : Int) (ts : List Int) : Prop where
  web : WebOk W
  len : W.length = n
  sm : ∀ r, r ∈ W → ∀ i, i ∈ r → 0 ≤ i ∧ i < 2000000000
  m2 : 2 ≤ m
  ml : m < 2000000000
  tl : ts.length = n
  ts : ∀ t, t ∈ ts → 0 ≤ t ∧ t < 2000000000
theorem e_sure {S : Sto} {p c n : Nat} {B : Int} (hp : Pen S p c B) (hB : B + 200 < 1000000) (h1 : 1 ≤ n) (h8 : n ≤ 8) :
    ∃ W m ts S', f__law_sure [.obj p, .int n] S = .ok (.tup [webU W, .int m, .tup (ts.map U.int)]) S' ∧ Sure n W m ts ∧ Pen S' p c (B + 200) ∧ Kp p S S' := by
  rw [b__law_sure, r__law_sure]
  have hN : N__law_sure.length - 2 = 9 := rfl
  rw [hN]
  obtain ⟨v0, Sa, a1, a2, a3, a4, a5⟩ := e_one (us := [.int 5, .int 40, .int 1000000000]) hp (by omega) (by simp) (by simp)
  obtain ⟨q, hv0, hq1, hq2⟩ : ∃ q : Int, v0 = .int q ∧ 5 ≤ q ∧ q ≤ 1000000000 := by
    simp only [List.mem_cons, List.not_mem_nil, or_false] at a2
    rcases a2 with e | e | e <;> exact ⟨_, e, by decide, by decide⟩
  subst hv0
  obtain ⟨m0, Sb, b1, b2, b3, b4, b5, b6⟩ := e_take (m := q) a3 (by omega) (by omega) (small400 (by omega) (by omega))
  have hm2 : (2 : Int) ≤ 2 + m0 := by omega
  have hml : 2 + m0 < 2000000000 := by omega
  generalize hm : 2 + m0 = m at hm2 hml
  obtain ⟨ws, Sc, c1, c2, c3, c4, c5, c6⟩ := e_su_l1 (n := n) (m := m) (ρ := [some (.obj p), some (.int n), some (.int m), none, none, none, none, none, none, none, none]) b4 (by omega) h8 (by omega) (small400 (by omega) hml) rfl rfl rfl
  obtain ⟨jj, Sd, d1, d2, d3, d4, d5, d6⟩ := e_take (S := Sc ++ [SO.lst (ws.map U.int)]) (m := n) c4.app (by omega) (by omega) (small400 (by omega) (by omega))
  obtain ⟨j, rfl⟩ := Int.eq_ofNat_of_zero_le d2
  have hj : j < n := by omega
  have lp := c4.lt
  have hkS : Sd[Sc.length]? = some (.lst (ws.map U.int)) := by rw [d5.2 Sc.length (by simp) (by omega)]; simp
  have e1 : (ws.map U.int).set j (.int 1) = (ws.set j 1).map U.int := by simp [List.map_set]
  have ix1 : L2.ixN (ws.map U.int).length (j : Int) = some j := ixN_nat (by simp; omega)
  have hws : ∀ w, w ∈ ws.set j 1 → 0 ≤ w ∧ w < 2000000000 := fun w hw => by
    rcases List.mem_or_eq_of_mem_set hw with e | e
    · have := c3 w e; omega
    · rw [e]; decide
  have ldS : Sd.length = Sc.length + 1 := by rw [d6]; simp
  -- the store ahead of the walk: Sd, the worth written, the rows laid
  have pE : Pen (Sd.set Sc.length (.lst ((ws.set j 1).map U.int)) ++ [SO.lst ([] : List U)]) p c (B + 1 + 1 + n + 1) := (d4.setNe (by omega) (by omega)).app
  obtain ⟨ρ', Sf, f1, R, x7, x8, x6, f2, f3, f4, f5, f6, f7, f8⟩ := forGo_all (src := .rng 0 n) (t := .name 6) (body := evSs T18 FU c__law_sure_b1) (items := (List.range n).map fun (i : Nat) => U.int (0 + i))
    (fun i ρ S' => ∃ (R : List (List Int)) (r7 r8 r6 : Option U), ρ = [some (.obj p), some (.int n), some (.int m), some (.obj Sc.length), some (.int j), some (.obj (Sc.length + 1)), r6, r7, r8, none, none] ∧ R.length = i ∧ (∀ r, r ∈ R → RowOk n r) ∧ Pen S' p c (B + 1 + 1 + n + 1 + i * n) ∧ S'[Sc.length]? = some (.lst ((ws.set j 1).map U.int)) ∧ S'[Sc.length + 1]? = some (.lst (R.map rowU)) ∧ ∀ q, q < Sc.length → q ≠ p → S'[q]? = Sc[q]?)
    (fun i ρ S' _ hi => Over.rng (I := fun _ => True) S' trivial i hi) (by
      intro i x ρ S' hx ⟨R, r7, r8, r6, g1, g2, g3, g4, g5, g6, g7⟩
      have hi : i < n := by
        have := (List.getElem?_eq_some_iff.mp hx).1
        simpa using this
      have hx' : x = .int i := by
        rw [List.getElem?_map, List.getElem?_range hi] at hx
        have := Option.some.inj hx
        rw [← this]; simp
      subst g1 hx'
      refine ⟨_, rfl, ?_⟩
      have hin : (i : Int) * n + n ≤ 64 := by
        have h1 : i + 1 ≤ 8 := by omega
        have h2 : (i + 1) * n ≤ 8 * 8 := Nat.mul_le_mul h1 h8
        have h3 : ((i + 1 : Nat) : Int) * n = i * n + n := by rw [Int.natCast_add, Int.add_mul]; simp
        have h4 : (((i + 1) * n : Nat) : Int) ≤ 64 := by omega
        rw [Int.natCast_mul] at h4
        omega
      obtain ⟨r, u7, u8, S2, k1, k2, k3, k4, k5, k6, k7⟩ := e_su_b1 (r7 := r7) (r8 := r8) (k := Sc.length) (k2 := Sc.length + 1) g4 (by omega) h8 hm2 hml hj hi g5 g6 (by simpa using c2) hws (by omega) (by omega) (by omega) (by omega) (by omega) (by omega)
      have hl5 := (List.getElem?_eq_some_iff.mp g5).1
      refine ⟨_, S2, k1, R ++ [r], _, _, _, rfl, by simp [g2], fun r' hr' => ?_, ?_, k4, k5, fun q hq hqp => ?_⟩
      · rcases List.mem_append.mp hr' with e | e
        · exact g3 r' e
        · rw [List.mem_singleton.mp e]; exact k2
      · have : ((i + 1 : Nat) : Int) * n = i * n + n := by rw [Int.natCast_add, Int.add_mul]; simp
        rw [this, ← Int.add_assoc]
        exact k3
      · rw [k7 q (by omega) hqp (by omega)]; exact g7 q hq hqp) (n := n) (ρ := [some (.obj p), some (.int n), some (.int m), some (.obj Sc.length), some (.int j), some (.obj (Sc.length + 1)), none, none, none, none, none])
      (S := Sd.set Sc.length (.lst ((ws.set j 1).map U.int)) ++ [SO.lst ([] : List U)]) (by simp)
      ⟨[], none, none, none, rfl, rfl, by simp, by simpa using pE, by
        rw [List.getElem?_append_left (by simp; omega)]; exact List.getElem?_set_self (by omega), by
        have : (Sd.set Sc.length (SO.lst ((ws.set j 1).map U.int))).length = Sc.length + 1 := by simp; omega
        rw [← this]; simp, fun q hq hqp => by
        rw [List.getElem?_append_left (by simp; omega), List.getElem?_set_ne (by omega), d5.2 q (by simp; omega) hqp, List.getElem?_append_left hq]⟩
  have hln : ((List.range n).map fun (i : Nat) => U.int (0 + i)).length = n := by simp
  rw [hln] at f3 f5
  subst f2
  have hnn : (n : Int) * n ≤ 64 := by
    have h2 : n * n ≤ 8 * 8 := Nat.mul_le_mul h8 h8
    have h4 : ((n * n : Nat) : Int) ≤ 64 := by omega
    rw [Int.natCast_mul] at h4
    omega
  have hz : -(2 ^ 62) ≤ (n : Int) ∧ (n : Int) < 2 ^ 62 := ⟨by omega, by omega⟩
  have l5 := (List.getElem?_eq_some_iff.mp f7).1
  refine ⟨R, m, ws.set j 1, Sf, ?_, ⟨⟨by omega, by omega, fun r hr => by rw [f3]; exact (f4 r hr).1, fun r hr i hi => ((f4 r hr).2 i hi).1⟩, f3, fun r hr i hi => (f4 r hr).2 i hi, hm2, hml, by simpa using c2, hws⟩, f5.mono (by omega), ?_⟩
  · have st1 : evS T18 FU (.asg (.name 2) (.bin .add (.int 2) (.call "_law_take" (.cons (.var 0) (.cons (.call "_law_one" (.cons (.var 0) (.cons (.tmp (.lst (.cons (.int 5) (.cons (.int 40) (.cons (.bin .pw (.int 10) (.int 9)) .nil))))) .nil))) .nil))))) [some (.obj p), some (.int n), none, none, none, none, none, none, none, none, none] S = .nx [some (.obj p), some (.int n), some (.int m), none, none, none, none, none, none, none, none] Sb := by
      simp [evSs, evS, ev, evs, evB, evO, evN_lst, evN_listOf, evN_cat, evI, Res.bind, Res.toS, SR.andThen, ofO, ofS, asgT, asgTs, List.getElem?_cons_zero, List.getElem?_cons_succ, List.set_cons_zero, List.set_cons_succ, Option.map_some, Option.map_none, Option.bind_some, Option.bind_none, List.length_cons, List.length_nil, if_true, if_false, SR.res, Bool.not_true, Bool.not_false, Bool.false_eq_true, wipeR, List.map_cons, List.map_nil, cmp_eqI, cmp_neI, cmpS_eq, cmpS_ne, cmpI_lt, cmpI_le, cmpI_gt, cmpI_ge, Bool.not_eq_true, decide_true, decide_false, pw9, sizeLine, d__law_sure___law_one, t__law_sure___law_one, a1, d__law_sure___law_take, t__law_sure___law_take, b1, binI_add, hm]
    have st2 : evS T18 FU (.asg (.name 3) (.mk c__law_sure_l1)) [some (.obj p), some (.int n), some (.int m), none, none, none, none, none, none, none, none] Sb = .nx [some (.obj p), some (.int n), some (.int m), some (.obj Sc.length), none, none, none, none, none, none, none] (Sc ++ [SO.lst (ws.map U.int)]) := by
      rw [evS, ev, c1]
      rfl
    have st3 : evS T18 FU (.asg (.name 4) (.call "_law_take" (.cons (.var 0) (.cons (.var 1) .nil)))) [some (.obj p), some (.int n), some (.int m), some (.obj Sc.length), none, none, none, none, none, none, none] (Sc ++ [SO.lst (ws.map U.int)]) = .nx [some (.obj p), some (.int n), some (.int m), some (.obj Sc.length), some (.int j), none, none, none, none, none, none] Sd := by
      simp [evSs, evS, ev, evs, evB, evO, evN_lst, evN_listOf, evN_cat, evI, Res.bind, Res.toS, SR.andThen, ofO, ofS, asgT, asgTs, List.getElem?_cons_zero, List.getElem?_cons_succ, List.set_cons_zero, List.set_cons_succ, Option.map_some, Option.map_none, Option.bind_some, Option.bind_none, List.length_cons, List.length_nil, if_true, if_false, SR.res, Bool.not_true, Bool.not_false, Bool.false_eq_true, wipeR, List.map_cons, List.map_nil, cmp_eqI, cmp_neI, cmpS_eq, cmpS_ne, cmpI_lt, cmpI_le, cmpI_gt, cmpI_ge, Bool.not_eq_true, decide_true, decide_false, d__law_sure___law_take, t__law_sure___law_take, d1]
    have st4 : evS T18 FU (.setI (.var 3) (.var 4) (.int 1)) [some (.obj p), some (.int n), some (.int m), some (.obj Sc.length), some (.int j), none, none, none, none, none, none] Sd = .nx [some (.obj p), some (.int n), some (.int m), some (.obj Sc.length), some (.int j), none, none, none, none, none, none] (Sd.set Sc.length (.lst ((ws.set j 1).map U.int))) := by
      simp only [evSs, evS, ev, evs, evB, evO, evN_lst, evN_listOf, evN_cat, evI, Res.bind, Res.toS, SR.andThen, ofO, ofS, asgT, asgTs, List.getElem?_cons_zero, List.getElem?_cons_succ, List.set_cons_zero, List.set_cons_succ, Option.map_some, Option.map_none, Option.bind_some, Option.bind_none, List.length_cons, List.length_nil, if_true, if_false, SR.res, Bool.not_true, Bool.not_false, Bool.false_eq_true, wipeR, List.map_cons, List.map_nil, cmp_eqI, cmp_neI, cmpS_eq, cmpS_ne, cmpI_lt, cmpI_le, cmpI_gt, cmpI_ge, Bool.not_eq_true, decide_true, decide_false, hkS, ix1, e1]
    have st5 : evS T18 FU (.asg (.name 5) (.mk (.lst .nil))) [some (.obj p), some (.int n), some (.int m), some (.obj Sc.length), some (.int j), none, none, none, none, none, none] (Sd.set Sc.length (.lst ((ws.set j 1).map U.int))) = .nx [some (.obj p), some (.int n), some (.int m), some (.obj Sc.length), some (.int j), some (.obj (Sc.length + 1)), none, none, none, none, none] (Sd.set Sc.length (.lst ((ws.set j 1).map U.int)) ++ [SO.lst ([] : List U)]) := by
      simp [evSs, evS, ev, evs, evB, evO, evN_lst, evN_listOf, evN_cat, evI, Res.bind, Res.toS, SR.andThen, ofO, ofS, asgT, asgTs, List.getElem?_cons_zero, List.getElem?_cons_succ, List.set_cons_zero, List.set_cons_succ, Option.map_some, Option.map_none, Option.bind_some, Option.bind_none, List.length_cons, List.length_nil, if_true, if_false, SR.res, Bool.not_true, Bool.not_false, Bool.false_eq_true, wipeR, List.map_cons, List.map_nil, cmp_eqI, cmp_neI, cmpS_eq, cmpS_ne, cmpI_lt, cmpI_le, cmpI_gt, cmpI_ge, Bool.not_eq_true, decide_true, decide_false, ldS]
    have st6 : evS T18 FU (.for_ (.name 6) (.rng1 (.var 1)) c__law_sure_b1) [some (.obj p), some (.int n), some (.int m), some (.obj Sc.length), some (.int j), some (.obj (Sc.length + 1)), none, none, none, none, none] (Sd.set Sc.length (.lst ((ws.set j 1).map U.int)) ++ [SO.lst ([] : List U)]) = .nx [some (.obj p), some (.int n), some (.int m), some (.obj Sc.length), some (.int j), some (.obj (Sc.length + 1)), x6, x7, x8, none, none] Sf := by
      have : evI T18 (.rng1 (.var 1)) [some (.obj p), some (.int n), some (.int m), some (.obj Sc.length), some (.int j), some (.obj (Sc.length + 1)), none, none, none, none, none] (Sd.set Sc.length (.lst ((ws.set j 1).map U.int)) ++ [SO.lst ([] : List U)]) = .ok (.rng 0 n) (Sd.set Sc.length (.lst ((ws.set j 1).map U.int)) ++ [SO.lst ([] : List U)]) := by
        exact evI_rng1 (by rw [ev]; rfl) (by omega)
      rw [evS, this]
      exact f1
    have st7 : evS T18 FU (.ret (.tup (.cons (.bi .tuple (.cons (.var 5) .nil)) (.cons (.var 2) (.cons (.bi .tuple (.cons (.var 3) .nil)) .nil))))) [some (.obj p), some (.int n), some (.int m), some (.obj Sc.length), some (.int j), some (.obj (Sc.length + 1)), x6, x7, x8, none, none] Sf = .rt (.tup [webU R, .int m, .tup ((ws.set j 1).map U.int)]) Sf := by
      have q1 : biE Sf .tuple [.obj (Sc.length + 1)] = some (webU R) := by simp only [biE, seqOf, lstOf, f7, Option.map_some, webU]
      have q2 : biE Sf .tuple [.obj Sc.length] = some (.tup ((ws.set j 1).map U.int)) := by simp only [biE, seqOf, lstOf, f6, Option.map_some]
      have q3 : 0 + 1 + 1 + 1 ≤ sizeLine := by decide +kernel
      simp only [evSs, evS, ev, evs, evB, evO, evN_lst, evN_listOf, evN_cat, evI, Res.bind, Res.toS, SR.andThen, ofO, ofS, asgT, asgTs, List.getElem?_cons_zero, List.getElem?_cons_succ, List.set_cons_zero, List.set_cons_succ, Option.map_some, Option.map_none, Option.bind_some, Option.bind_none, List.length_cons, List.length_nil, if_true, if_false, SR.res, Bool.not_true, Bool.not_false, Bool.false_eq_true, wipeR, List.map_cons, List.map_nil, cmp_eqI, cmp_neI, cmpS_eq, cmpS_ne, cmpI_lt, cmpI_le, cmpI_gt, cmpI_ge, Bool.not_eq_true, decide_true, decide_false, q1, q2, if_pos q3]
    unfold c__law_sure
    show (evSs _ _ _ [some (.obj p), some (.int n), none, none, none, none, none, none, none, none, none] S).res = _
    rw [evSs, st1, then_nx, evSs, st2, then_nx, evSs, st3, then_nx, evSs, st4, then_nx, evSs, st5, then_nx, evSs, st6, then_nx, evSs, st7, then_rt, SR.res]
  · refine ⟨by omega, fun q hq hqp => ?_⟩
    rw [f8 q (by omega) hqp, c5.2 q (by omega) hqp, b5.2 q (by omega) hqp, a4.2 q hq hqp]
end K

set_option Elab.async false
set_option linter.all false
set_option maxRecDepth 100000
set_option maxHeartbeats 3200000
set_option exponentiation.threshold 500
namespace K
open PySem PySem.Spec PyProof.Rows L2 Z
theorem dk_web {W : List (List Int)} (h : WebOk W) (hs : ∀ r, r ∈ W → ∀ i, i ∈ r → 0 ≤ i ∧ i < 2000000000) : Dk 2 (webU W) := by
  refine Dk.tup (h := 1) (fun u hu => ?_) (by have := h.le; simp; omega)
  obtain ⟨r, hr, rfl⟩ := List.mem_map.mp hu
  refine Dk.tup (h := 0) (fun v hv => ?_) (by have := h.le; have := h.len r hr; simp; omega)
  obtain ⟨i, hi, rfl⟩ := List.mem_map.mp hv
  have := hs r hr i hi
  exact .int (Nat.lt_trans (show i.natAbs < 2000000000 by omega) (by decide))
theorem worth_str {h : Nat} : TOk h (.str "worth") := .str (by decide +kernel) (by decide +kernel)
theorem dk_due {W : List (List Int)} {b t : U} : Dk 1 (dueU W b t) ∧ (dueU W b t).isRef = true := by
  have hr : Dk 1 right_ := Dk.tup (h := 0) (fun u hu => by rw [List.mem_singleton.mp hu]; exact .str (by decide +kernel) (by decide +kernel)) (by simp)
  have hw : ∀ i : Int, i.natAbs < 10 ^ 40 → Dk 1 (.tup [.str "wrong", .int i]) := fun i hi => Dk.tup (h := 0) (fun u hu => by
    simp only [List.mem_cons, List.not_mem_nil, or_false] at hu
    rcases hu with e | e
    · rw [e]; exact .str (by decide +kernel) (by decide +kernel)
    · rw [e]; exact .int hi) (by simp)
  unfold dueU
  have hc : clB W b t = .non ∨ clB W b t = .int 0 ∨ clB W b t = .int 1 := by
    unfold clB
    cases b <;> first | exact .inr (.inl rfl) | skip
    dsimp only
    split
    · split
      · exact .inl rfl
      · exact .inr (.inr rfl)
    · exact .inr (.inl rfl)
  rcases hc with e | e | e
  · rw [e]; exact ⟨hr, rfl⟩
  · rw [e]; exact ⟨hw 0 (by decide), rfl⟩
  · rw [e]; exact ⟨hw 1 (by decide), rfl⟩
theorem dk_paper {W : List (List Int)} {b t : U} (h : WebOk W) (hs : ∀ r, r ∈ W → ∀ i, i ∈ r → 0 ≤ i ∧ i < 2000000000) (hb : Dk 3 b) (ht : Dk 3 t) : Dk 4 (paperU W b t) :=
  Dk.tup (h := 3) (fun u hu => by
    simp only [List.mem_cons, List.not_mem_nil, or_false] at hu
    rcases hu with e | e | e | e
    · rw [e]; exact worth_str.2.1
    · rw [e]; exact (dk_web h hs).mono (by decide)
    · rw [e]; exact hb
    · rw [e]; exact ht) (by simp)
theorem e_b1 {S : Sto} {W : List (List Int)} {b t sc pn wo : U} {m : Int} {r2 r6 r7 r10 r11 r12 : Option U} (h : WebOk W) (hs : ∀ r, r ∈ W → ∀ i, i ∈ r → 0 ≤ i ∧ i < 2000000000) (hb : ByOk b) (hb2 : Dk 3 b) (ht : TOk 3 t) :
    ∃ u10 u11, evSs T20 FU c_law_b1 [some sc, some pn, r2, some (webU W), some (.int m), some wo, r6, r7, some t, some b, r10, r11, r12] S = .nx [some sc, some pn, r2, some (webU W), some (.int m), some wo, r6, r7, some t, some b, some u10, some u11, r12] S := by
  have hd := dk_paper h hs hb2 ht.2.1
  have sm : Sm W := fun r hr i hi => small400 (hs r hr i hi).1 (hs r hr i hi).2
  obtain ⟨s1, hs1⟩ := hd.repr (by decide) rfl
  obtain ⟨s2, hs2⟩ := (dk_due (W := W) (b := b) (t := t)).1.repr (by decide) (dk_due (W := W) (b := b) (t := t)).2
  have lk := e_looked (S := S) h sm hb ⟨ht.1, ht.2.2⟩ hd
  have du := e_due (S := S) h sm hb (u := t) ⟨ht.1, ht.2.2⟩
  have h4 : 0 + 1 + 1 + 1 + 1 ≤ sizeLine := by decide +kernel
  refine ⟨paperU W b t, .str s1, ?_⟩
  simp only [paperU] at hs1 lk
  simp only [evSs, evS, ev, evs, evB, evO, evN_lst, evN_listOf, evN_cat, evI, Res.bind, Res.toS, SR.andThen, ofO, ofS, asgT, asgTs, List.getElem?_cons_zero, List.getElem?_cons_succ, List.set_cons_zero, List.set_cons_succ, Option.map_some, Option.map_none, Option.bind_some, Option.bind_none, List.length_cons, List.length_nil, if_true, if_false, SR.res, Bool.not_true, Bool.not_false, Bool.false_eq_true, wipeR, List.map_cons, List.map_nil, cmp_eqI, cmp_neI, cmpS_eq, cmpS_ne, cmpI_lt, cmpI_le, cmpI_gt, cmpI_ge, Bool.not_eq_true, decide_true, decide_false, c_law_b1, if_pos h4, hs1, d_law___law_looked, t_law___law_looked, lk, hs2, d_law___law_due, t_law___law_due, du, paperU]
end K

set_option Elab.async false
set_option linter.all false
set_option maxRecDepth 100000
set_option maxHeartbeats 3200000
set_option exponentiation.threshold 500
namespace K
open PySem PySem.Spec PyProof.Rows L2 Z
def bys : List U := [.int 1, .int 0, .int (-2), .non, .bl true, .str "2", .tup [.int 2]]
theorem bys_ok : ∀ v, v ∈ bys → TOk 1 v ∧ ByOk v := by
  intro v hv
  have t : TOk 1 v := all_cons (.int (by decide)) (all_cons (.int (by decide)) (all_cons (.int (by decide)) (all_cons .non (all_cons .bl (all_cons (.str (by decide +kernel) (by decide +kernel)) (all_cons (.tup (all_cons (.int (by decide)) all_nil) (by decide)) all_nil)))))) v hv
  refine ⟨t, t.1, fun m e => ?_⟩
  subst e
  simp only [bys, List.mem_cons, List.not_mem_nil, or_false, U.int.injEq, reduceCtorEq] at hv
  rcases hv with e | e | e <;> subst e <;> decide
theorem e_b2 {S : Sto} {p c : Nat} {B : Int} {W : List (List Int)} {t sc wo : U} {m : Int} {r2 r6 r7 r9 r10 r11 r12 : Option U} (hp : Pen S p c B) (hB : B < 1000000) (h : WebOk W) (hs : ∀ r, r ∈ W → ∀ i, i ∈ r → 0 ≤ i ∧ i < 2000000000) (hm : 2 ≤ m) (hml : m < 2000000000) (ht : TOk 3 t) :
    ∃ u9 u10 u11 S', evSs T20 FU c_law_b2 [some sc, some (.obj p), r2, some (webU W), some (.int m), some wo, r6, r7, some t, r9, r10, r11, r12] S = .nx [some sc, some (.obj p), r2, some (webU W), some (.int m), some wo, r6, r7, some t, u9, u10, u11, r12] S' ∧ Pen S' p c (B + 1) ∧ Kp p S S' ∧ S'.length = S.length := by
  obtain ⟨v, S1, a1, a2, a3, a4, a5⟩ := e_one (us := bys) hp hB (by simp [bys]) (by simp [bys])
  have mu : binE S .mul (.int 2) (.int m) = some (.int (2 * m)) := binI_mul (by decide) (small400 (by omega) hml)
  have hbi : ∀ b, b ∈ [U.int m, .int m, .int 2, .int (2 * m), v] → ByOk b ∧ Dk 3 b := by
    intro b hb
    simp only [List.mem_cons, List.not_mem_nil, or_false] at hb
    have i1 : ∀ i : Int, 0 ≤ i → i < 4000000000 → ByOk (.int i) ∧ Dk 3 (.int i) := fun i h0 h1 => ⟨⟨id rfl, fun m e => by cases e; exact nb400 h0 (Int.lt_trans h1 (by decide))⟩, .int (Nat.lt_trans (show i.natAbs < 4000000000 by omega) (by decide))⟩
    rcases hb with e | e | e | e | e
    · rw [e]; exact i1 m (by omega) (by omega)
    · rw [e]; exact i1 m (by omega) (by omega)
    · rw [e]; exact i1 2 (by omega) (by omega)
    · rw [e]; exact i1 (2 * m) (by omega) (by omega)
    · rw [e]; exact ⟨(bys_ok v a2).2, (bys_ok v a2).1.2.1.mono (by omega)⟩
  obtain ⟨ρ', S2, f1, u9, u10, u11, f2, f3⟩ := forGo_all (src := .seq (.tl [U.int m, .int m, .int 2, .int (2 * m), v])) (t := .name 9) (body := evSs T20 FU c_law_b1) (items := [U.int m, .int m, .int 2, .int (2 * m), v])
    (fun i ρ S' => ∃ u9 u10 u11, ρ = [some sc, some (.obj p), r2, some (webU W), some (.int m), some wo, r6, r7, some t, u9, u10, u11, r12] ∧ S' = S1) (fun i ρ S' _ hi => Over.tl (I := fun _ => True) S' trivial i hi) (by
      intro i x ρ S' hx ⟨u9, u10, u11, g1, g2⟩
      subst g1 g2
      have hb := hbi x (List.mem_of_getElem? hx)
      refine ⟨_, rfl, ?_⟩
      obtain ⟨y10, y11, k⟩ := e_b1 (S := S') (b := x) (sc := sc) (pn := .obj p) (wo := wo) (m := m) (r2 := r2) (r6 := r6) (r7 := r7) (r10 := u10) (r11 := u11) (r12 := r12) h hs hb.1 hb.2 ht
      exact ⟨_, S', k, _, _, _, rfl, rfl⟩) (n := 5) (ρ := [some sc, some (.obj p), r2, some (webU W), some (.int m), some wo, r6, r7, some t, r9, r10, r11, r12]) (S := S1) rfl ⟨_, _, _, rfl, rfl⟩
  subst f2 f3
  refine ⟨u9, u10, u11, S2, ?_, a3, a4, a5⟩
  have ei : evI T20 (.seq (.tmp (.lst (.cons (.var 4) (.cons (.var 4) (.cons (.int 2) (.cons (.bin .mul (.int 2) (.var 4)) (.cons (.call "_law_one" (.cons (.var 1) (.cons (.tmp (.lst (.cons (.int 1) (.cons (.int 0) (.cons (.neg (.int 2)) (.cons .non (.cons (.bl true) (.cons (.str "2") (.cons (.tup (.cons (.int 2) .nil)) .nil))))))))) .nil))) .nil)))))))) [some sc, some (.obj p), r2, some (webU W), some (.int m), some wo, r6, r7, some t, r9, r10, r11, r12] S = .ok (.seq (.tl [U.int m, .int m, .int 2, .int (2 * m), v])) S2 := by
    simp only [bys] at a1
    simp [evSs, evS, ev, evs, evB, evO, evN_lst, evN_listOf, evN_cat, evI, Res.bind, Res.toS, SR.andThen, ofO, ofS, asgT, asgTs, List.getElem?_cons_zero, List.getElem?_cons_succ, List.set_cons_zero, List.set_cons_succ, Option.map_some, Option.map_none, Option.bind_some, Option.bind_none, List.length_cons, List.length_nil, if_true, if_false, SR.res, Bool.not_true, Bool.not_false, Bool.false_eq_true, wipeR, List.map_cons, List.map_nil, cmp_eqI, cmp_neI, cmpS_eq, cmpS_ne, cmpI_lt, cmpI_le, cmpI_gt, cmpI_ge, Bool.not_eq_true, decide_true, decide_false, mu, d_law___law_one, t_law___law_one, a1, sizeLine, seqOf, lstOf]
  unfold c_law_b2
  rw [evSs, evS, ei]
  show SR.andThen (forGo (.seq (.tl [U.int m, .int m, .int 2, .int (2 * m), v])) (.name 9) (evSs T20 FU c_law_b1) 5 0 [some sc, some (.obj p), r2, some (webU W), some (.int m), some wo, r6, r7, some t, r9, r10, r11, r12] S2) (evSs T20 FU .nil) = _
  rw [f1, then_nx, evSs]
end K

set_option Elab.async false
set_option linter.all false
set_option maxRecDepth 100000
set_option maxHeartbeats 3200000
set_option exponentiation.threshold 500
namespace K
open PySem PySem.Spec PyProof.Rows L2 Z
theorem zeros {n : Nat} (h1 : 1 ≤ n) (h8 : n ≤ 8) : ∃ z : List U, (∀ S, binE S .mul (.tup [.int 0]) (.int n) = some (.tup z)) ∧ z.length = n ∧ ∀ u, u ∈ z → u = .int 0 := by
  have e : ∀ S, binE S .mul (.tup [.int 0]) (.int n) = if (n : Int) = 1 then some (.tup [.int 0]) else if [U.int 0] ≠ [] ∧ 2 ≤ (n : Int) ∧ (n : Int) ≤ 1000 ∧ [U.int 0].length ≤ 1000 then some (.tup (List.replicate (n : Int).toNat [U.int 0]).flatten) else none := fun S => rfl
  by_cases q : (n : Int) = 1
  · refine ⟨[.int 0], fun S => by rw [e, if_pos q], by simp; omega, fun u hu => List.mem_singleton.mp hu⟩
  · refine ⟨(List.replicate n [U.int 0]).flatten, fun S => ?_, ?_, fun u hu => ?_⟩
    · rw [e, if_neg q, if_pos ⟨by simp, by omega, by omega, by simp⟩, Int.toNat_natCast]
    · simp
    · obtain ⟨l, hl, hu⟩ := List.mem_flatten.mp hu
      rw [(List.mem_replicate.mp hl).2] at hu
      exact List.mem_singleton.mp hu
def g1 (m : Int) : U → U
  | .int x => .int ((2 * x).fmod m)
  | _ => .non
def g2 (m : Int) : U → U
  | .int x => .int (x + m)
  | _ => .non
def g3 : U → U
  | .int x => .bl (decide (x = 1))
  | _ => .non
section
variable {S : Sto} {W : List (List Int)} {m : Int} {sc pn : U} {us : List U} {r2 r6 r7 r8 r9 r10 r11 : Option U}
theorem e_l1 (hm : 2 ≤ m) (hu : ∀ u, u ∈ us → ∃ i : Int, u = .int i ∧ 0 ≤ i ∧ i < 2000000000) (hl : us.length ≤ 8) : evN T20 c_law_l1 [some sc, some pn, r2, some (webU W), some (.int m), some (.tup us), r6, r7, r8, r9, r10, r11, none] S = .ok (us.map (g1 m)) S :=
  evN_map (T := T20) (tg := .name 12) (it := .seq (.var 5)) (own := [("_law_number", 12)]) (ρ := [some sc, some pn, r2, some (webU W), some (.int m), some (.tup us), r6, r7, r8, r9, r10, r11, none]) (S := S) (S1 := S) (items := us) (g1 m)
    (by simp [evSs, evS, ev, evs, evB, evO, evN_lst, evN_listOf, evN_cat, evI, Res.bind, Res.toS, SR.andThen, ofO, ofS, asgT, asgTs, List.getElem?_cons_zero, List.getElem?_cons_succ, List.set_cons_zero, List.set_cons_succ, Option.map_some, Option.map_none, Option.bind_some, Option.bind_none, List.length_cons, List.length_nil, if_true, if_false, SR.res, Bool.not_true, Bool.not_false, Bool.false_eq_true, wipeR, List.map_cons, List.map_nil, cmp_eqI, cmp_neI, cmpS_eq, cmpS_ne, cmpI_lt, cmpI_le, cmpI_gt, cmpI_ge, Bool.not_eq_true, decide_true, decide_false, seqOf]) Over.tup len_tup (by omega) (fun x hx => by
      obtain ⟨i, rfl, h0, h1⟩ := hu x hx
      refine ⟨_, rfl, ?_⟩
      have b1 : binE S .mul (.int 2) (.int i) = some (.int (2 * i)) := binI_mul (by decide) (small400 h0 h1)
      have hm0 : m ≠ 0 := by omega
      simp only [evSs, evS, ev, evs, evB, evO, evN_lst, evN_listOf, evN_cat, evI, Res.bind, Res.toS, SR.andThen, ofO, ofS, asgT, asgTs, List.getElem?_cons_zero, List.getElem?_cons_succ, List.set_cons_zero, List.set_cons_succ, Option.map_some, Option.map_none, Option.bind_some, Option.bind_none, List.length_cons, List.length_nil, if_true, if_false, SR.res, Bool.not_true, Bool.not_false, Bool.false_eq_true, wipeR, List.map_cons, List.map_nil, cmp_eqI, cmp_neI, cmpS_eq, cmpS_ne, cmpI_lt, cmpI_le, cmpI_gt, cmpI_ge, Bool.not_eq_true, decide_true, decide_false, b1, binI_md hm0, g1])
theorem e_l2 (hu : ∀ u, u ∈ us → ∃ i : Int, u = .int i ∧ 0 ≤ i ∧ i < 2000000000) (hl : us.length ≤ 8) : evN T20 c_law_l2 [some sc, some pn, r2, some (webU W), some (.int m), some (.tup us), r6, r7, r8, r9, r10, r11, none] S = .ok (us.map (g2 m)) S :=
  evN_map (T := T20) (tg := .name 12) (it := .seq (.var 5)) (own := [("_law_number", 12)]) (ρ := [some sc, some pn, r2, some (webU W), some (.int m), some (.tup us), r6, r7, r8, r9, r10, r11, none]) (S := S) (S1 := S) (items := us) (g2 m)
    (by simp [evSs, evS, ev, evs, evB, evO, evN_lst, evN_listOf, evN_cat, evI, Res.bind, Res.toS, SR.andThen, ofO, ofS, asgT, asgTs, List.getElem?_cons_zero, List.getElem?_cons_succ, List.set_cons_zero, List.set_cons_succ, Option.map_some, Option.map_none, Option.bind_some, Option.bind_none, List.length_cons, List.length_nil, if_true, if_false, SR.res, Bool.not_true, Bool.not_false, Bool.false_eq_true, wipeR, List.map_cons, List.map_nil, cmp_eqI, cmp_neI, cmpS_eq, cmpS_ne, cmpI_lt, cmpI_le, cmpI_gt, cmpI_ge, Bool.not_eq_true, decide_true, decide_false, seqOf]) Over.tup len_tup (by omega) (fun x hx => by
      obtain ⟨i, rfl, h0, h1⟩ := hu x hx
      refine ⟨_, rfl, ?_⟩
      simp only [evSs, evS, ev, evs, evB, evO, evN_lst, evN_listOf, evN_cat, evI, Res.bind, Res.toS, SR.andThen, ofO, ofS, asgT, asgTs, List.getElem?_cons_zero, List.getElem?_cons_succ, List.set_cons_zero, List.set_cons_succ, Option.map_some, Option.map_none, Option.bind_some, Option.bind_none, List.length_cons, List.length_nil, if_true, if_false, SR.res, Bool.not_true, Bool.not_false, Bool.false_eq_true, wipeR, List.map_cons, List.map_nil, cmp_eqI, cmp_neI, cmpS_eq, cmpS_ne, cmpI_lt, cmpI_le, cmpI_gt, cmpI_ge, Bool.not_eq_true, decide_true, decide_false, binI_add, g2])
theorem e_l3 (hu : ∀ u, u ∈ us → ∃ i : Int, u = .int i ∧ 0 ≤ i ∧ i < 2000000000) (hl : us.length ≤ 8) : evN T20 c_law_l3 [some sc, some pn, r2, some (webU W), some (.int m), some (.tup us), r6, r7, r8, r9, r10, r11, none] S = .ok (us.map g3) S :=
  evN_map (T := T20) (tg := .name 12) (it := .seq (.var 5)) (own := [("_law_number", 12)]) (ρ := [some sc, some pn, r2, some (webU W), some (.int m), some (.tup us), r6, r7, r8, r9, r10, r11, none]) (S := S) (S1 := S) (items := us) g3
    (by simp [evSs, evS, ev, evs, evB, evO, evN_lst, evN_listOf, evN_cat, evI, Res.bind, Res.toS, SR.andThen, ofO, ofS, asgT, asgTs, List.getElem?_cons_zero, List.getElem?_cons_succ, List.set_cons_zero, List.set_cons_succ, Option.map_some, Option.map_none, Option.bind_some, Option.bind_none, List.length_cons, List.length_nil, if_true, if_false, SR.res, Bool.not_true, Bool.not_false, Bool.false_eq_true, wipeR, List.map_cons, List.map_nil, cmp_eqI, cmp_neI, cmpS_eq, cmpS_ne, cmpI_lt, cmpI_le, cmpI_gt, cmpI_ge, Bool.not_eq_true, decide_true, decide_false, seqOf]) Over.tup len_tup (by omega) (fun x hx => by
      obtain ⟨i, rfl, h0, h1⟩ := hu x hx
      refine ⟨_, rfl, ?_⟩
      simp only [evSs, evS, ev, evs, evB, evO, evN_lst, evN_listOf, evN_cat, evI, Res.bind, Res.toS, SR.andThen, ofO, ofS, asgT, asgTs, List.getElem?_cons_zero, List.getElem?_cons_succ, List.set_cons_zero, List.set_cons_succ, Option.map_some, Option.map_none, Option.bind_some, Option.bind_none, List.length_cons, List.length_nil, if_true, if_false, SR.res, Bool.not_true, Bool.not_false, Bool.false_eq_true, wipeR, List.map_cons, List.map_nil, cmp_eqI, cmp_neI, cmpS_eq, cmpS_ne, cmpI_lt, cmpI_le, cmpI_gt, cmpI_ge, Bool.not_eq_true, decide_true, decide_false, g3])
end
theorem e_b3 {S : Sto} {p c : Nat} {B : Int} {sc : U} {r2 r3 r4 r5 r6 r7 r8 r9 r10 r11 : Option U} (hp : Pen S p c B) (hB : B + 1000 < 1000000) :
    ∃ q3 q4 q5 q6 q7 q8 q9 q10 q11 S', evSs T20 FU c_law_b3 [some sc, some (.obj p), r2, r3, r4, r5, r6, r7, r8, r9, r10, r11, none] S = .nx [some sc, some (.obj p), r2, q3, q4, q5, q6, q7, q8, q9, q10, q11, none] S' ∧ Pen S' p c (B + 1000) := by
  obtain ⟨Sa, a1, a2, a3, a4⟩ := e_anew hp
  obtain ⟨v, Sb, b1, b2, b3, b4, b5, b6⟩ := e_take (m := 8) a2 (by omega) (by decide) (by decide)
  obtain ⟨kk, rfl⟩ := Int.eq_ofNat_of_zero_le b2
  obtain ⟨W, m, ts, Sc, c1, c2, c3, c4⟩ := e_sure (n := 1 + kk) b4 (by omega) (by omega) (by omega)
  have en : (1 : Int) + kk = ((1 + kk : Nat) : Int) := by omega
  generalize hn : 1 + kk = n at c1 c2 en
  have n1 : 1 ≤ n := by omega
  have n8 : n ≤ 8 := by omega
  have hl := c2.len
  obtain ⟨atv, Sd, d1, d2, d3, d4, d5, d6⟩ := e_take (m := W.length) c3 (by omega) (by omega) (small400 (by omega) (by omega))
  obtain ⟨at_, rfl⟩ := Int.eq_ofNat_of_zero_le d2
  have hat : at_ < ts.length := by have := c2.tl; omega
  generalize hus : ts.map U.int = us at c1
  have ul : us.length = n := by rw [← hus]; simpa using c2.tl
  have uu : ∀ u, u ∈ us → ∃ i : Int, u = .int i ∧ 0 ≤ i ∧ i < 2000000000 := fun u hu => by
    rw [← hus] at hu
    obtain ⟨i, hi, rfl⟩ := List.mem_map.mp hu
    exact ⟨i, rfl, c2.ts i hi⟩
  have u0 : ∀ u, u ∈ us → TOk 0 u := fun u hu => by
    obtain ⟨i, rfl, h0, h1⟩ := uu u hu
    exact .int (Nat.lt_trans (show i.natAbs < 2000000000 by omega) (by decide))
  have aix : L2.atI us (at_ : Int) = some (.int ts[at_]) := by rw [← hus]; exact atI_nat (by rw [List.getElem?_map, List.getElem?_eq_getElem hat]; rfl)
  obtain ⟨z, z1, z2, z3⟩ := zeros n1 n8
  have hm2 := c2.m2
  have hml := c2.ml
  have sum : ∀ xs ys : List U, xs.length ≤ 100 → ys.length ≤ 100 → xs.length + ys.length ≤ sizeLine := fun xs ys h1 h2 => Nat.le_trans (show xs.length + ys.length ≤ 10000 by omega) (by decide +kernel)
  have ad4 : ∀ S, binE S .add (.tup us) (.tup [.int 0]) = some (.tup (us ++ [.int 0])) := fun S => binT_add (sum _ _ (by omega) (by simp))
  generalize hx : (ts[at_] + 1).fmod m = x
  have rx := fmod_rng (i := ts[at_] + 1) (j := m) (by omega)
  rw [hx] at rx
  have lc1 := cut_len (us := us) (lo := none) (hi := some (at_ : Int))
  have lc2 := cut_len (us := us) (lo := some ((at_ : Int) + 1)) (hi := none)
  have lc3 := cut_len (us := us) (lo := some 1) (hi := none)
  have lk : (cutU us none (some (at_ : Int))).length ≤ at_ := by
    unfold cutU
    rw [HT.sIx_none, HT.sIx_nat]
    simp
    omega
  have lk2 : (cutU us (some ((at_ : Int) + 1)) none).length ≤ us.length - (at_ + 1) := by
    have : HT.sIx us.length 0 (some ((at_ : Int) + 1)) = min (at_ + 1) us.length := HT.sIx_nat _ _ (at_ + 1)
    unfold cutU
    rw [this, HT.sIx_none]
    simp
    omega
  have ad7a : ∀ S, binE S .add (.tup (cutU us none (some (at_ : Int)))) (.tup [.int x]) = some (.tup (cutU us none (some (at_ : Int)) ++ [.int x])) := fun S => binT_add (sum _ _ (by omega) (by simp))
  have ad7b : ∀ S, binE S .add (.tup (cutU us none (some (at_ : Int)) ++ [.int x])) (.tup (cutU us (some ((at_ : Int) + 1)) none)) = some (.tup (cutU us none (some (at_ : Int)) ++ [.int x] ++ cutU us (some ((at_ : Int) + 1)) none)) := fun S => binT_add (sum _ _ (by simp; omega) (by omega))
  generalize hw7 : cutU us none (some (at_ : Int)) ++ [.int x] ++ cutU us (some ((at_ : Int) + 1)) none = w7 at ad7b
  have ok7 : TOk 1 (.tup w7) := by
    rw [← hw7]
    refine .tup (fun u hu => ?_) (by simp; omega)
    rcases List.mem_append.mp hu with h | h
    · rcases List.mem_append.mp h with h | h
      · exact u0 u (cut_mem h)
      · rw [List.mem_singleton.mp h]; exact .int (Nat.lt_trans (show x.natAbs < 2000000000 by omega) (by decide))
    · exact u0 u (cut_mem h)
  -- the store as the list grows
  let L3 : List U := [.tup us, .tup z, .tl us, .tup (cutU us (some 1) none), .tup (us ++ [.int 0])]
  let L4 : List U := L3 ++ [.tup (us.map (g1 m)), .tup (us.map (g2 m))]
  let L5 : List U := L4 ++ [.tup w7]
  have k3 : (Sd ++ [SO.lst L3])[Sd.length]? = some (.lst L3) := by simp
  have k4 : (Sd ++ [SO.lst L3] ++ [SO.lst L4])[Sd.length + 1]? = some (.lst L4) := by simp
  have e5 : (Sd ++ [SO.lst L3] ++ [SO.lst L4]).set (Sd.length + 1) (.lst L5) = Sd ++ [SO.lst L3] ++ [SO.lst L5] := by
    have : Sd.length + 1 = (Sd ++ [SO.lst L3]).length := by simp
    rw [this]
    exact app_set
  have k5 : (Sd ++ [SO.lst L3] ++ [SO.lst L5])[Sd.length + 1]? = some (.lst L5) := by simp
  have pE : Pen (Sd ++ [SO.lst L3] ++ [SO.lst L5]) p c (B + 1 + 200 + 1) := d4.app.app
  have lp := d4.lt
  obtain ⟨v8, Se, g1', g2', g3', g4', g5'⟩ := e_bent (us := us) pE (by omega) (fun e => by rw [e] at ul; simp at ul; omega) (by omega) (fun u hu => by
    obtain ⟨i, rfl, h0, h1⟩ := uu u hu
    exact ⟨i, rfl, Nat.lt_trans (show i.natAbs < 2000000000 by omega) (by decide)⟩)
  have k6 : Se[Sd.length + 1]? = some (.lst L5) := by rw [g4'.2 (Sd.length + 1) (by simp) (by omega)]; exact k5
  let L6 : List U := L5 ++ [v8, .tup (us.map g3), .non, .int 0]
  have hT : ∀ t, t ∈ L6 → TOk 3 t := by
    have mp : ∀ g : U → U, (∀ u, u ∈ us → TOk 0 (g u)) → TOk 3 (.tup (us.map g)) := fun g hg => (TOk.tup (h := 0) (fun u hu => by
      obtain ⟨v, hv, rfl⟩ := List.mem_map.mp hu
      exact hg v hv) (by simp; omega)).mono (by decide)
    show ∀ t, t ∈ [U.tup us, .tup z, .tl us, .tup (cutU us (some 1) none), .tup (us ++ [.int 0]), .tup (us.map (g1 m)), .tup (us.map (g2 m)), .tup w7, v8, .tup (us.map g3), .non, .int 0] → TOk 3 t
    refine all_cons ((TOk.tup (h := 0) u0 (by omega)).mono (by decide)) (all_cons ((TOk.tup (h := 0) (fun u hu => by rw [z3 u hu]; exact .int (by decide)) (by omega)).mono (by decide)) (all_cons ((TOk.tl (h := 0) u0 (by omega)).mono (by decide)) (all_cons ((TOk.tup (h := 0) (fun u hu => u0 u (cut_mem hu)) (by omega)).mono (by decide))
      (all_cons ((TOk.tup (h := 0) (fun u hu => ?_) (by simp; omega)).mono (by decide)) (all_cons (mp _ fun u hu => ?_) (all_cons (mp _ fun u hu => ?_) (all_cons (ok7.mono (by decide)) (all_cons (g2'.mono (by decide)) (all_cons (mp _ fun u hu => ?_) (all_cons .non (all_cons (.int (by decide)) all_nil)))))))))))
    · rcases List.mem_append.mp hu with h | h
      · exact u0 u h
      · rw [List.mem_singleton.mp h]; exact .int (by decide)
    · obtain ⟨i, rfl, h0, h1⟩ := uu u hu
      have := fmod_rng (i := 2 * i) (j := m) (by omega)
      exact .int (Nat.lt_trans (show ((2 * i).fmod m).natAbs < 2000000000 by omega) (by decide))
    · obtain ⟨i, rfl, h0, h1⟩ := uu u hu
      exact .int (Nat.lt_trans (show (i + m).natAbs < 4000000000 by omega) (by decide))
    · obtain ⟨i, rfl, h0, h1⟩ := uu u hu
      exact .bl
  have k7 : (Se ++ [SO.lst L6])[Se.length]? = some (.lst L6) := by simp
  obtain ⟨ρ', Sf, f1, q8, q9, q10, q11, f2, f3, f4, f5⟩ := forGo_all (src := .seq (.obj Se.length)) (t := .name 8) (body := evSs T20 FU c_law_b2) (items := L6)
    (fun i ρ S' => ∃ q8 q9 q10 q11, ρ = [some sc, some (.obj p), r2, some (webU W), some (.int m), some (.tup us), some (.int at_), some (.obj Se.length), q8, q9, q10, q11, none] ∧ Pen S' p c (B + 300 + i) ∧ S'[Se.length]? = some (.lst L6) ∧ Se.length + 1 ≤ S'.length)
    (fun i ρ S' ⟨_, _, _, _, _, _, hh, _⟩ hi => Over.obj (I := fun S => S[Se.length]? = some (.lst L6)) (fun _ h => h) S' hh i hi) (by
      intro i t ρ S' hx ⟨q8, q9, q10, q11, h1, h2, h3, h4⟩
      subst h1
      have hi : i < 12 := (List.getElem?_eq_some_iff.mp hx).1
      refine ⟨_, rfl, ?_⟩
      obtain ⟨u9, u10, u11, S2, y1, y2, y3, y4⟩ := e_b2 (sc := sc) (wo := .tup us) (r2 := r2) (r6 := some (.int at_)) (r7 := some (.obj Se.length)) (r9 := q9) (r10 := q10) (r11 := q11) (r12 := none) h2 (by omega) c2.web c2.sm hm2 hml (hT t (List.mem_of_getElem? hx))
      have lpp := h2.lt
      have pne : Se.length ≠ p := by have := g3'.lt; omega
      exact ⟨_, S2, y1, _, _, _, _, rfl, by rw [show B + 300 + ((i + 1 : Nat) : Int) = B + 300 + i + 1 by omega]; exact y2, by rw [y3.2 _ (by omega) pne]; exact h3, by omega⟩) (n := 12) (ρ := [some sc, some (.obj p), r2, some (webU W), some (.int m), some (.tup us), some (.int at_), some (.obj Se.length), r8, r9, r10, r11, none]) (S := Se ++ [SO.lst L6]) rfl
      ⟨_, _, _, _, rfl, (g3'.app).mono (by omega), k7, by simp⟩
  subst f2
  refine ⟨some (webU W), some (.int m), some (.tup us), some (.int at_), some (.obj Se.length), q8, q9, q10, q11, Sf, ?_, f3.mono (by show B + 300 + ((12 : Nat) : Int) ≤ B + 1000; omega)⟩
  have hk2 : biE Sc .len [webU W] = some (.int W.length) := by simp [biE, seqOf, webU]
  have st1 : evS T20 FU (.asg (.tup (.cons (.name 3) (.cons (.name 4) (.cons (.name 5) .nil)))) (.call "_law_sure" (.cons (.call "_law_anew" (.cons (.var 1) .nil)) (.cons (.bin .add (.int 1) (.call "_law_take" (.cons (.var 1) (.cons (.int 8) .nil)))) .nil)))) [some sc, some (.obj p), r2, r3, r4, r5, r6, r7, r8, r9, r10, r11, none] S = .nx [some sc, some (.obj p), r2, some (webU W), some (.int m), some (.tup us), r6, r7, r8, r9, r10, r11, none] Sc := by
    simp only [evSs, evS, ev, evs, evB, evO, evN_lst, evN_listOf, evN_cat, evI, Res.bind, Res.toS, SR.andThen, ofO, ofS, asgT, asgTs, List.getElem?_cons_zero, List.getElem?_cons_succ, List.set_cons_zero, List.set_cons_succ, Option.map_some, Option.map_none, Option.bind_some, Option.bind_none, List.length_cons, List.length_nil, if_true, if_false, SR.res, Bool.not_true, Bool.not_false, Bool.false_eq_true, wipeR, List.map_cons, List.map_nil, cmp_eqI, cmp_neI, cmpS_eq, cmpS_ne, cmpI_lt, cmpI_le, cmpI_gt, cmpI_ge, Bool.not_eq_true, decide_true, decide_false, d_law___law_anew, t_law___law_anew, a1, d_law___law_take, t_law___law_take, b1, binI_add, en, d_law___law_sure, t_law___law_sure, c1]
  have st2 : evS T20 FU (.asg (.name 6) (.call "_law_take" (.cons (.var 1) (.cons (.bi .len (.cons (.var 3) .nil)) .nil)))) [some sc, some (.obj p), r2, some (webU W), some (.int m), some (.tup us), r6, r7, r8, r9, r10, r11, none] Sc = .nx [some sc, some (.obj p), r2, some (webU W), some (.int m), some (.tup us), some (.int at_), r7, r8, r9, r10, r11, none] Sd := by
    simp only [evSs, evS, ev, evs, evB, evO, evN_lst, evN_listOf, evN_cat, evI, Res.bind, Res.toS, SR.andThen, ofO, ofS, asgT, asgTs, List.getElem?_cons_zero, List.getElem?_cons_succ, List.set_cons_zero, List.set_cons_succ, Option.map_some, Option.map_none, Option.bind_some, Option.bind_none, List.length_cons, List.length_nil, if_true, if_false, SR.res, Bool.not_true, Bool.not_false, Bool.false_eq_true, wipeR, List.map_cons, List.map_nil, cmp_eqI, cmp_neI, cmpS_eq, cmpS_ne, cmpI_lt, cmpI_le, cmpI_gt, cmpI_ge, Bool.not_eq_true, decide_true, decide_false, hk2, d_law___law_take, t_law___law_take, d1]
  have hk3 : biE Sd .len [webU W] = some (.int W.length) := by simp [biE, seqOf, webU]
  have hWn : (W.length : Int) = n := by rw [hl]
  have q5 : 0 + 1 + 1 + 1 + 1 + 1 ≤ sizeLine := by decide +kernel
  have q2 : 0 + 1 + 1 ≤ sizeLine := by decide +kernel
  have q4 : 0 + 1 + 1 + 1 + 1 ≤ sizeLine := by decide +kernel
  have q1 : 0 + 1 ≤ sizeLine := by decide +kernel
  have st3 : evS T20 FU (.asg (.name 7) (.mk (.lst (.cons (.var 5) (.cons (.bin .mul (.tup (.cons (.int 0) .nil)) (.bi .len (.cons (.var 3) .nil))) (.cons (.tmp (.listOf (.var 5))) (.cons (.sl (.var 5) (.cons (.int 1) .nil) .nil) (.cons (.bin .add (.var 5) (.tup (.cons (.int 0) .nil))) .nil)))))))) [some sc, some (.obj p), r2, some (webU W), some (.int m), some (.tup us), some (.int at_), r7, r8, r9, r10, r11, none] Sd = .nx [some sc, some (.obj p), r2, some (webU W), some (.int m), some (.tup us), some (.int at_), some (.obj (Sd.length)), r8, r9, r10, r11, none] (Sd ++ [SO.lst L3]) := by
    simp only [evSs, evS, ev, evs, evB, evO, evN_lst, evN_listOf, evN_cat, evI, Res.bind, Res.toS, SR.andThen, ofO, ofS, asgT, asgTs, List.getElem?_cons_zero, List.getElem?_cons_succ, List.set_cons_zero, List.set_cons_succ, Option.map_some, Option.map_none, Option.bind_some, Option.bind_none, List.length_cons, List.length_nil, if_true, if_false, SR.res, Bool.not_true, Bool.not_false, Bool.false_eq_true, wipeR, List.map_cons, List.map_nil, cmp_eqI, cmp_neI, cmpS_eq, cmpS_ne, cmpI_lt, cmpI_le, cmpI_gt, cmpI_ge, Bool.not_eq_true, decide_true, decide_false, hk3, hWn, if_pos q5, if_pos q1, z1, seqOf, slE, ad4, L3]
  have q7 : L3.length + [U.tup (us.map (g1 m)), U.tup (us.map (g2 m))].length ≤ sizeLine := sz_of (show 5 + 2 ≤ 10000 by decide)
  have st4 : evS T20 FU (.asg (.name 7) (.mk (.cat (.var 7) (.tmp (.lst (.cons (.bi .tuple (.cons (.tmp c_law_l1) .nil)) (.cons (.bi .tuple (.cons (.tmp c_law_l2) .nil)) .nil))))))) [some sc, some (.obj p), r2, some (webU W), some (.int m), some (.tup us), some (.int at_), some (.obj (Sd.length)), r8, r9, r10, r11, none] (Sd ++ [SO.lst L3]) = .nx [some sc, some (.obj p), r2, some (webU W), some (.int m), some (.tup us), some (.int at_), some (.obj (Sd.length + 1)), r8, r9, r10, r11, none] (Sd ++ [SO.lst L3] ++ [SO.lst L4]) := by
    have l1 := e_l1 (S := Sd ++ [SO.lst L3]) (W := W) (m := m) (sc := sc) (pn := .obj p) (us := us) (r2 := r2) (r6 := some (.int at_)) (r7 := some (.obj Sd.length)) (r8 := r8) (r9 := r9) (r10 := r10) (r11 := r11) hm2 uu (by omega)
    have l2 := e_l2 (S := Sd ++ [SO.lst L3]) (W := W) (m := m) (sc := sc) (pn := .obj p) (us := us) (r2 := r2) (r6 := some (.int at_)) (r7 := some (.obj Sd.length)) (r8 := r8) (r9 := r9) (r10 := r10) (r11 := r11) uu (by omega)
    have hl : (Sd ++ [SO.lst L3]).length = Sd.length + 1 := by simp
    have lh : lstH (Sd ++ [SO.lst L3]) (.obj Sd.length) = some L3 := by simp only [lstH, k3]
    have lt : lstH (Sd ++ [SO.lst L3]) (.tl [U.tup (us.map (g1 m)), U.tup (us.map (g2 m))]) = some [U.tup (us.map (g1 m)), U.tup (us.map (g2 m))] := rfl
    have ca : evN T20 (.cat (.var 7) (.tmp (.lst (.cons (.bi .tuple (.cons (.tmp c_law_l1) .nil)) (.cons (.bi .tuple (.cons (.tmp c_law_l2) .nil)) .nil))))) [some sc, some (.obj p), r2, some (webU W), some (.int m), some (.tup us), some (.int at_), some (.obj (Sd.length)), r8, r9, r10, r11, none] (Sd ++ [SO.lst L3]) = .ok L4 (Sd ++ [SO.lst L3]) := by
      have el : ev T20 (.tmp (.lst (.cons (.bi .tuple (.cons (.tmp c_law_l1) .nil)) (.cons (.bi .tuple (.cons (.tmp c_law_l2) .nil)) .nil)))) [some sc, some (.obj p), r2, some (webU W), some (.int m), some (.tup us), some (.int at_), some (.obj (Sd.length)), r8, r9, r10, r11, none] (Sd ++ [SO.lst L3]) = .ok (.tl [U.tup (us.map (g1 m)), U.tup (us.map (g2 m))]) (Sd ++ [SO.lst L3]) := by
        simp only [evSs, evS, ev, evs, evB, evO, evN_lst, evN_listOf, evN_cat, evI, Res.bind, Res.toS, SR.andThen, ofO, ofS, asgT, asgTs, List.getElem?_cons_zero, List.getElem?_cons_succ, List.set_cons_zero, List.set_cons_succ, Option.map_some, Option.map_none, Option.bind_some, Option.bind_none, List.length_cons, List.length_nil, if_true, if_false, SR.res, Bool.not_true, Bool.not_false, Bool.false_eq_true, wipeR, List.map_cons, List.map_nil, cmp_eqI, cmp_neI, cmpS_eq, cmpS_ne, cmpI_lt, cmpI_le, cmpI_gt, cmpI_ge, Bool.not_eq_true, decide_true, decide_false, l1, l2, biE, seqOf, lstOf, if_pos q2]
      have ev7 : ev T20 (.var 7) [some sc, some (.obj p), r2, some (webU W), some (.int m), some (.tup us), some (.int at_), some (.obj (Sd.length)), r8, r9, r10, r11, none] (Sd ++ [SO.lst L3]) = .ok (.obj Sd.length) (Sd ++ [SO.lst L3]) := by rw [ev]; rfl
      rw [evN_cat, ev7]
      simp only [Res.bind, el, lh, lt, if_pos q7]
      rfl
    rw [evS, ev, ca]
    simp only [Res.bind, Res.toS, asgT, hl]
    rfl
  have st5 : evS T20 FU (.app (.var 7) (.bin .add (.bin .add (.sl (.var 5) .nil (.cons (.var 6) .nil)) (.tup (.cons (.bin .md (.bin .add (.idx (.var 5) (.var 6)) (.int 1)) (.var 4)) .nil))) (.sl (.var 5) (.cons (.bin .add (.var 6) (.int 1)) .nil) .nil))) [some sc, some (.obj p), r2, some (webU W), some (.int m), some (.tup us), some (.int at_), some (.obj (Sd.length + 1)), r8, r9, r10, r11, none] (Sd ++ [SO.lst L3] ++ [SO.lst L4]) = .nx [some sc, some (.obj p), r2, some (webU W), some (.int m), some (.tup us), some (.int at_), some (.obj (Sd.length + 1)), r8, r9, r10, r11, none] (Sd ++ [SO.lst L3] ++ [SO.lst L5]) := by
    have q6 : L4.length < sizeLine := Nat.lt_of_le_of_lt (show L4.length ≤ 7 from Nat.le_refl 7) (by decide +kernel)
    have hm0 : m ≠ 0 := by omega
    simp only [evSs, evS, ev, evs, evB, evO, evN_lst, evN_listOf, evN_cat, evI, Res.bind, Res.toS, SR.andThen, ofO, ofS, asgT, asgTs, List.getElem?_cons_zero, List.getElem?_cons_succ, List.set_cons_zero, List.set_cons_succ, Option.map_some, Option.map_none, Option.bind_some, Option.bind_none, List.length_cons, List.length_nil, if_true, if_false, SR.res, Bool.not_true, Bool.not_false, Bool.false_eq_true, wipeR, List.map_cons, List.map_nil, cmp_eqI, cmp_neI, cmpS_eq, cmpS_ne, cmpI_lt, cmpI_le, cmpI_gt, cmpI_ge, Bool.not_eq_true, decide_true, decide_false, lstOf, k4, Option.isSome_some, slE, idxE, seqOf, aix, binI_add, binI_md hm0, hx, if_pos q1, ad7a, ad7b, if_pos q6]
    rw [show L4 ++ [U.tup w7] = L5 from rfl, e5]
  have q8' : L5.length + [v8, U.tup (us.map g3), .non, .int 0].length ≤ sizeLine := sz_of (show 8 + 4 ≤ 10000 by decide)
  have st6 : evS T20 FU (.asg (.name 7) (.mk (.cat (.var 7) (.tmp (.lst (.cons (.call "_law_bent" (.cons (.var 1) (.cons (.var 5) (.cons (.int 1) .nil)))) (.cons (.bi .tuple (.cons (.tmp c_law_l3) .nil)) (.cons .non (.cons (.int 0) .nil))))))))) [some sc, some (.obj p), r2, some (webU W), some (.int m), some (.tup us), some (.int at_), some (.obj (Sd.length + 1)), r8, r9, r10, r11, none] (Sd ++ [SO.lst L3] ++ [SO.lst L5]) = .nx [some sc, some (.obj p), r2, some (webU W), some (.int m), some (.tup us), some (.int at_), some (.obj (Se.length)), r8, r9, r10, r11, none] (Se ++ [SO.lst L6]) := by
    have l3 := e_l3 (S := Se) (W := W) (m := m) (sc := sc) (pn := .obj p) (us := us) (r2 := r2) (r6 := some (.int at_)) (r7 := some (.obj (Sd.length + 1))) (r8 := r8) (r9 := r9) (r10 := r10) (r11 := r11) uu (by omega)
    have lh : lstH Se (.obj (Sd.length + 1)) = some L5 := by simp only [lstH, k6]
    have lt : lstH Se (.tl [v8, U.tup (us.map g3), .non, .int 0]) = some [v8, U.tup (us.map g3), .non, .int 0] := rfl
    have el : ev T20 (.tmp (.lst (.cons (.call "_law_bent" (.cons (.var 1) (.cons (.var 5) (.cons (.int 1) .nil)))) (.cons (.bi .tuple (.cons (.tmp c_law_l3) .nil)) (.cons .non (.cons (.int 0) .nil)))))) [some sc, some (.obj p), r2, some (webU W), some (.int m), some (.tup us), some (.int at_), some (.obj (Sd.length + 1)), r8, r9, r10, r11, none] (Sd ++ [SO.lst L3] ++ [SO.lst L5]) = .ok (.tl [v8, U.tup (us.map g3), .non, .int 0]) Se := by
      simp only [evSs, evS, ev, evs, evB, evO, evN_lst, evN_listOf, evN_cat, evI, Res.bind, Res.toS, SR.andThen, ofO, ofS, asgT, asgTs, List.getElem?_cons_zero, List.getElem?_cons_succ, List.set_cons_zero, List.set_cons_succ, Option.map_some, Option.map_none, Option.bind_some, Option.bind_none, List.length_cons, List.length_nil, if_true, if_false, SR.res, Bool.not_true, Bool.not_false, Bool.false_eq_true, wipeR, List.map_cons, List.map_nil, cmp_eqI, cmp_neI, cmpS_eq, cmpS_ne, cmpI_lt, cmpI_le, cmpI_gt, cmpI_ge, Bool.not_eq_true, decide_true, decide_false, d_law___law_bent, t_law___law_bent, g1', l3, biE, seqOf, lstOf, if_pos q4]
    have ev7 : ev T20 (.var 7) [some sc, some (.obj p), r2, some (webU W), some (.int m), some (.tup us), some (.int at_), some (.obj (Sd.length + 1)), r8, r9, r10, r11, none] (Sd ++ [SO.lst L3] ++ [SO.lst L5]) = .ok (.obj (Sd.length + 1)) (Sd ++ [SO.lst L3] ++ [SO.lst L5]) := by rw [ev]; rfl
    have ca : evN T20 (.cat (.var 7) (.tmp (.lst (.cons (.call "_law_bent" (.cons (.var 1) (.cons (.var 5) (.cons (.int 1) .nil)))) (.cons (.bi .tuple (.cons (.tmp c_law_l3) .nil)) (.cons .non (.cons (.int 0) .nil))))))) [some sc, some (.obj p), r2, some (webU W), some (.int m), some (.tup us), some (.int at_), some (.obj (Sd.length + 1)), r8, r9, r10, r11, none] (Sd ++ [SO.lst L3] ++ [SO.lst L5]) = .ok L6 Se := by
      rw [evN_cat, ev7]
      simp only [Res.bind, el, lh, lt, if_pos q8']
      rfl
    rw [evS, ev, ca]
    rfl
  have st7 : evS T20 FU (.for_ (.name 8) (.seq (.var 7)) c_law_b2) [some sc, some (.obj p), r2, some (webU W), some (.int m), some (.tup us), some (.int at_), some (.obj (Se.length)), r8, r9, r10, r11, none] (Se ++ [SO.lst L6]) = .nx [some sc, some (.obj p), r2, some (webU W), some (.int m), some (.tup us), some (.int at_), some (.obj Se.length), q8, q9, q10, q11, none] Sf := by
    have ei : evI T20 (.seq (.var 7)) [some sc, some (.obj p), r2, some (webU W), some (.int m), some (.tup us), some (.int at_), some (.obj (Se.length)), r8, r9, r10, r11, none] (Se ++ [SO.lst L6]) = .ok (.seq (.obj Se.length)) (Se ++ [SO.lst L6]) := by
      simp only [evSs, evS, ev, evs, evB, evO, evN_lst, evN_listOf, evN_cat, evI, Res.bind, Res.toS, SR.andThen, ofO, ofS, asgT, asgTs, List.getElem?_cons_zero, List.getElem?_cons_succ, List.set_cons_zero, List.set_cons_succ, Option.map_some, Option.map_none, Option.bind_some, Option.bind_none, List.length_cons, List.length_nil, if_true, if_false, SR.res, Bool.not_true, Bool.not_false, Bool.false_eq_true, wipeR, List.map_cons, List.map_nil, cmp_eqI, cmp_neI, cmpS_eq, cmpS_ne, cmpI_lt, cmpI_le, cmpI_gt, cmpI_ge, Bool.not_eq_true, decide_true, decide_false, seqOf, lstOf, k7, Option.isSome_some]
    have hlen : Src.len (Se ++ [SO.lst L6]) (.seq (.obj Se.length)) = 12 := by
      simp only [Src.len, seqOf, lstOf, k7, Option.getD_some]
      rfl
    rw [evS, ei, Res.toS, hlen]
    exact f1
  unfold c_law_b3
  rw [evSs, st1, then_nx, evSs, st2, then_nx, evSs, st3, then_nx, evSs, st4, then_nx, evSs, st5, then_nx, evSs, st6, then_nx, evSs, st7, then_nx, evSs]
end K

set_option Elab.async false
set_option linter.all false
set_option maxRecDepth 100000
set_option maxHeartbeats 3200000
set_option exponentiation.threshold 500
namespace K
open PySem PySem.Spec PyProof.Rows L2 Z
theorem e_law {ns : List Int} {S : Sto} : ∃ S', f_law [.rl (ns.map U.int)] S = .ok (.bl true) S' := by
  rw [b_law, r_law]
  have hN : N_law.length - 1 = 12 := rfl
  rw [hN]
  obtain ⟨S1, a1, a2, a3, a4⟩ := e_open (ns := ns) (S := S)
  obtain ⟨ρ', S2, f1, r2, r3, r4, r5, r6, r7, r8, r9, r10, r11, f2, f3⟩ := forGo_all (src := .rng 0 5) (t := .name 2) (body := evSs T20 FU c_law_b3) (items := (List.range 5).map fun (i : Nat) => U.int (0 + i))
    (fun i ρ S' => ∃ r2 r3 r4 r5 r6 r7 r8 r9 r10 r11, ρ = [some (.rl (ns.map U.int)), some (.obj (S.length + 1)), r2, r3, r4, r5, r6, r7, r8, r9, r10, r11, none] ∧ Pen S' (S.length + 1) S.length (i * 1000)) (fun i ρ S' _ hi => Over.rng (I := fun _ => True) S' trivial i hi) (by
      intro i x ρ S' hx ⟨r2, r3, r4, r5, r6, r7, r8, r9, r10, r11, h1, h2⟩
      subst h1
      have hi : i < 5 := (List.getElem?_eq_some_iff.mp hx).1
      refine ⟨_, rfl, ?_⟩
      obtain ⟨q3, q4, q5, q6, q7, q8, q9, q10, q11, S2, k1, k2⟩ := e_b3 (sc := .rl (ns.map U.int)) (r2 := some x) (r3 := r3) (r4 := r4) (r5 := r5) (r6 := r6) (r7 := r7) (r8 := r8) (r9 := r9) (r10 := r10) (r11 := r11) h2 (by omega)
      exact ⟨_, S2, k1, _, _, _, _, _, _, _, _, _, _, rfl, by rw [show ((i + 1 : Nat) : Int) * 1000 = i * 1000 + 1000 by omega]; exact k2⟩) (n := 5) (ρ := [some (.rl (ns.map U.int)), some (.obj (S.length + 1)), none, none, none, none, none, none, none, none, none, none, none]) (S := S1) rfl ⟨_, _, _, _, _, _, _, _, _, _, rfl, by simpa using a2⟩
  refine ⟨S2, ?_⟩
  have st1 : evS T20 FU (.asg (.name 1) (.call "_law_open" (.cons (.var 0) .nil))) [some (.rl (ns.map U.int)), none, none, none, none, none, none, none, none, none, none, none, none] S = .nx [some (.rl (ns.map U.int)), some (.obj (S.length + 1)), none, none, none, none, none, none, none, none, none, none, none] S1 := by
    simp only [evSs, evS, ev, evs, evB, evO, evN_lst, evN_listOf, evN_cat, evI, Res.bind, Res.toS, SR.andThen, ofO, ofS, asgT, asgTs, List.getElem?_cons_zero, List.getElem?_cons_succ, List.set_cons_zero, List.set_cons_succ, Option.map_some, Option.map_none, Option.bind_some, Option.bind_none, List.length_cons, List.length_nil, if_true, if_false, SR.res, Bool.not_true, Bool.not_false, Bool.false_eq_true, wipeR, List.map_cons, List.map_nil, cmp_eqI, cmp_neI, cmpS_eq, cmpS_ne, cmpI_lt, cmpI_le, cmpI_gt, cmpI_ge, Bool.not_eq_true, decide_true, decide_false, d_law___law_open, t_law___law_open, a1]
  have st2 : evS T20 FU (.for_ (.name 2) (.rng1 (.int 5)) c_law_b3) [some (.rl (ns.map U.int)), some (.obj (S.length + 1)), none, none, none, none, none, none, none, none, none, none, none] S1 = .nx ρ' S2 := by
    have ei : evI T20 (.rng1 (.int 5)) [some (.rl (ns.map U.int)), some (.obj (S.length + 1)), none, none, none, none, none, none, none, none, none, none, none] S1 = .ok (.rng 0 5) S1 := evI_rng1 (n := 5) (by rw [ev]; rfl) (by decide)
    rw [evS, ei]
    exact f1
  have st3 : evS T20 FU (.ret (.bl true)) ρ' S2 = .rt (.bl true) S2 := by simp only [evSs, evS, ev, evs, evB, evO, evN_lst, evN_listOf, evN_cat, evI, Res.bind, Res.toS, SR.andThen, ofO, ofS, asgT, asgTs, List.getElem?_cons_zero, List.getElem?_cons_succ, List.set_cons_zero, List.set_cons_succ, Option.map_some, Option.map_none, Option.bind_some, Option.bind_none, List.length_cons, List.length_nil, if_true, if_false, SR.res, Bool.not_true, Bool.not_false, Bool.false_eq_true, wipeR, List.map_cons, List.map_nil, cmp_eqI, cmp_neI, cmpS_eq, cmpS_ne, cmpI_lt, cmpI_le, cmpI_gt, cmpI_ge, Bool.not_eq_true, decide_true, decide_false]
  unfold c_law
  show (evSs _ _ _ [some (.rl (ns.map U.int)), none, none, none, none, none, none, none, none, none, none, none, none] S).res = _
  rw [evSs, st1, then_nx, evSs, st2, then_nx, evSs, st3, then_rt, SR.res]
end K

set_option Elab.async false
set_option linter.all false
set_option maxRecDepth 100000
set_option maxHeartbeats 0
namespace HdX
open PySem PySem.Spec PyProof.Rows L2
def top (i : Nat) : Stmt := PySem.Challenge.pw_laidroads_k80_papers_of_worths.main.body.getD i (.Pass ⟨0, 0, 0, 0⟩)
def dOf (i : Nat) (x : Str) : He.DefD := ⟨(x, none), x, x, defArgs (top i), defBody (top i), defScope (top i), [], []⟩
def fn : List He.DefD := [dOf 23 "is_whole", dOf 24 "is_from", dOf 25 "is_square", dOf 33 "is_among", dOf 34 "is_web", dOf 35 "need_web", dOf 55 "is_worth_of", dOf 65 "worth_clauses", dOf 67 "need_paper", dOf 68 "look", dOf 70 "_law_spread", dOf 71 "_law_open", dOf 72 "_law_anew", dOf 73 "_law_take", dOf 74 "_law_one", dOf 75 "_law_is_whole", dOf 76 "_law_bent", dOf 78 "_law_looked", dOf 79 "_law_sure", dOf 80 "_law_due", dOf 81 "law"]
def fa : List He.Fa := [.glo "is_whole", .glo "is_from", .glo "is_square", .glo "is_among", .glo "is_web", .glo "need_web", .glo "is_worth_of", .glo "worth_clauses", .glo "need_paper", .glo "look", .glo "_law_spread", .glo "_law_open", .glo "_law_anew", .glo "_law_take", .glo "_law_one", .glo "_law_is_whole", .glo "_law_bent", .glo "_law_looked", .glo "_law_sure", .glo "_law_due", .glo "law", .free "len", .free "tuple", .free "int", .free "abs", .free "all", .free "any", .free "sum", .free "isinstance", .free "bool", .free "str", .free "list", .free "dict", .free "range", .free "enumerate", .free "zip", .free "min", .free "repr", .int "MOST_PLACES_webs" 8, .glo "PARTS", .glo "CLAUSES", .glo "OF_TWO"]
def ts : List He.Tab := [(fun K => He.ga K "PARTS", ["led", "parted", "sign", "numbers", "worth"]), (fun K => He.ga K "CLAUSES", ["led", "parted", "sign", "numbers", "worth"])]
def ex (K : PySem.W.Frag) : Bool := He.valsB K (He.ga K "PARTS") [("worth", .int 4)] && (He.valsB K (He.ga K "CLAUSES") [("worth", .glo "worth_clauses")] && He.tupB K "OF_TWO" [.str "led", .str "parted", .str "sign"])
def names_0 : List PySem.Str := ["RoadError", "NoWeb", "NoPlace", "NoOrder", "NoRound", "NoNumber", "NoWorth", "NoNumbers", "NotRich", "NotFull", "NotLevel", "NoPaper", "Nothing", "TooMany", "TooLong", "TooGreat", "NoDeed", "NoName", "Standing", "Full", "NoMark", "is_whole", "is_from", "is_square", "flipped", "ones", "less_ones", "product", "set_row", "MOST_PLACES_webs"]
def names_1 : List PySem.Str := ["is_among", "is_web", "need_web", "MOST_PLACES_deeds", "WORDS", "led", "unled", "is_pair", "turned_over", "put_in", "ends_of", "taken_out", "behind", "determinant", "Reducing", "reduced", "numbers_by", "sign_by", "common_divisor", "is_worth_of", "many_by", "PARTS", "OF_TWO", "led_clauses", "parted_clauses", "sign_clauses", "divide_on", "numbers_clauses", "worth_clauses", "CLAUSES"]
def names_2 : List PySem.Str := ["need_paper", "look", "_law_spread", "_law_open", "_law_anew", "_law_take", "_law_one", "_law_is_whole", "_law_bent", "_law_refusal", "_law_looked", "_law_sure", "_law_due"]
def names : List PySem.Str := names_0 ++ names_1 ++ names_2
abbrev R : PySem.W.OpenRow := PySem.W.OpenLaw.row PySem.Challenge.rw_laidroads_k80_papers_of_worths
abbrev hk : PySem.W.Hook := He.hookX 5 fa fn ts [] ex
def ob (s : PySem.W.SharedT) : He.AlX := He.obsX 5 fa fn ts [] ex (HandSHeadRun.getT s)
theorem ob_eq (s : PySem.W.SharedT) : ob s = hk.obs s.abs := He.obsX_eq (HandSHeadRun.getT_eq s)
theorem runF (w : World) : HandSHeadRun.RunEq R (PySem.W.view R.prog [81]) hk ob 20000 names (w.withFollow "special-get-raises" false) := by
  intro os
  kernel_rfl
theorem runT (w : World) : HandSHeadRun.RunEq R (PySem.W.view R.prog [81]) hk ob 20000 names (w.withFollow "special-get-raises" true) := by
  intro os
  kernel_rfl
theorem run (w : World) : HandSHeadRun.RunEq R (PySem.W.view R.prog [81]) hk ob 20000 names w := PySem.W.byRow2 (P := fun w => HandSHeadRun.RunEq R (PySem.W.view R.prog [81]) hk ob 20000 names w) "special-get-raises" runF runT w
end HdX


set_option maxHeartbeats 0
namespace K
open PySem PySem.Spec PyProof.Rows L2 Z
section
variable {w : World} {h : Heap} {K : PySem.W.Frag} {mg : Str → Option Value}
theorem free_ok (X : K.In h) (G : h.Ns mainGlobals mg) (c : He.SaysX HdX.fa HdX.fn HdX.ts [] HdX.ex w h K) : ∀ x, x ∈ bnames → mg x = none := by
  intro x hx
  simp only [bnames, List.mem_cons, List.not_mem_nil, or_false] at hx
  rcases hx with rfl | rfl | rfl | rfl | rfl | rfl | rfl | rfl | rfl | rfl | rfl | rfl | rfl | rfl | rfl | rfl | rfl
  · exact He.free_ok X G (c.t.d.fact 21 (f := .free "len") rfl)
  · exact He.free_ok X G (c.t.d.fact 22 (f := .free "tuple") rfl)
  · exact He.free_ok X G (c.t.d.fact 23 (f := .free "int") rfl)
  · exact He.free_ok X G (c.t.d.fact 24 (f := .free "abs") rfl)
  · exact He.free_ok X G (c.t.d.fact 25 (f := .free "all") rfl)
  · exact He.free_ok X G (c.t.d.fact 26 (f := .free "any") rfl)
  · exact He.free_ok X G (c.t.d.fact 27 (f := .free "sum") rfl)
  · exact He.free_ok X G (c.t.d.fact 28 (f := .free "isinstance") rfl)
  · exact He.free_ok X G (c.t.d.fact 29 (f := .free "bool") rfl)
  · exact He.free_ok X G (c.t.d.fact 30 (f := .free "str") rfl)
  · exact He.free_ok X G (c.t.d.fact 31 (f := .free "list") rfl)
  · exact He.free_ok X G (c.t.d.fact 32 (f := .free "dict") rfl)
  · exact He.free_ok X G (c.t.d.fact 33 (f := .free "range") rfl)
  · exact He.free_ok X G (c.t.d.fact 34 (f := .free "enumerate") rfl)
  · exact He.free_ok X G (c.t.d.fact 35 (f := .free "zip") rfl)
  · exact He.free_ok X G (c.t.d.fact 36 (f := .free "min") rfl)
  · exact He.free_ok X G (c.t.d.fact 37 (f := .free "repr") rfl)
theorem glo0 (X : K.In h) (G : h.Ns mainGlobals mg) (c : He.SaysX HdX.fa HdX.fn HdX.ts [] HdX.ex w h K) : Glo w K mg T0 := by
  have ex := c.more
  unfold HdX.ex at ex
  obtain ⟨x1, x2⟩ := He.ba ex
  obtain ⟨x2, x3⟩ := He.ba x2
  refine ⟨free_ok X G c, fun x u hx => ?_, fun x d hx => ?_⟩
  · replace hx : (if x = "MOST_PLACES_webs" then some (U.int 8) else if x = "OF_TWO" then some (.tup [.str "led", .str "parted", .str "sign"]) else none) = some u := hx
    by_cases q : x = "MOST_PLACES_webs"
    · subst q
      rw [if_pos rfl] at hx
      cases hx
      obtain ⟨t, e⟩ := He.int_ok X G (c.t.d.fact 38 (f := .int "MOST_PLACES_webs" 8) rfl)
      exact ⟨.int 8, _, e, ⟨t, rfl⟩, fun _ _ _ _ => .int 8⟩
    · rw [if_neg q] at hx
      by_cases q2 : x = "OF_TWO"
      · subst q2
        rw [if_pos rfl] at hx
        cases hx
        exact ⟨.ref (He.ga K "OF_TWO"), _, He.glo_ok X G (c.t.d.fact 41 (f := .glo "OF_TWO") rfl), rfl, fun _ _ _ H => .tup (He.tupB_ok x3 H) (.cons (.str _) (.cons (.str _) (.cons (.str _) .nil)))⟩
      · rw [if_neg q2] at hx; cases hx
  · replace hx : (if x = "PARTS" then some dParts else if x = "CLAUSES" then some dClauses else none) = some d := hx
    by_cases q : x = "PARTS"
    · subst q
      rw [if_pos rfl] at hx
      cases hx
      obtain ⟨es, n, kd⟩ := c.t.tab 0 (t := (fun K => He.ga K "PARTS", ["led", "parted", "sign", "numbers", "worth"])) rfl
      refine ⟨He.ga K "PARTS", es, n, He.glo_ok X G (c.t.d.fact 39 (f := .glo "PARTS") rfl), kd, fun z r hz => ?_⟩
      unfold dParts at hz
      by_cases qz : z = "worth"
      · rw [if_pos qz] at hz
        cases hz
        subst qz
        obtain ⟨u, e1, e2⟩ := He.valsB_ok x1 (q := ("worth", .int 4)) (List.mem_singleton.mpr rfl)
        exact ⟨u, .int 4, e1, e2, fun _ _ _ _ => .int 4⟩
      · rw [if_neg qz] at hz; cases hz
    · rw [if_neg q] at hx
      by_cases q2 : x = "CLAUSES"
      · subst q2
        rw [if_pos rfl] at hx
        cases hx
        obtain ⟨es, n, kd⟩ := c.t.tab 1 (t := (fun K => He.ga K "CLAUSES", ["led", "parted", "sign", "numbers", "worth"])) rfl
        refine ⟨He.ga K "CLAUSES", es, n, He.glo_ok X G (c.t.d.fact 40 (f := .glo "CLAUSES") rfl), kd, fun z r hz => ?_⟩
        unfold dClauses at hz
        by_cases qz : z = "worth"
        · rw [if_pos qz] at hz
          cases hz
          subst qz
          obtain ⟨u, e1, e2⟩ := He.valsB_ok x2 (q := ("worth", .glo "worth_clauses")) (List.mem_singleton.mpr rfl)
          exact ⟨u, .ref (He.ga K "worth_clauses"), e1, e2, fun _ _ _ _ => .fn (He.glo_ok X G (c.t.d.fact 7 (f := .glo "worth_clauses") rfl))⟩
        · rw [if_neg qz] at hz; cases hz
      · rw [if_neg q2] at hx; cases hx
theorem law_ok (X : K.In h) (G : h.Ns mainGlobals mg) (c : He.SaysX HdX.fa HdX.fn HdX.ts [] HdX.ex w h K) {P : Program} : ∃ fd : FuncData, (∀ (s : Shared) (u : Value), BindsTo s fd ⟨[u], []⟩ [("_law_script", u)]) ∧
    ∀ base : Heap, K.In base → base.Ns mainGlobals mg → ZG.FnG P w K mg base 22 (He.ga K "law") fd ["_law_script"] (SpF K mg f_law) := by
  obtain ⟨e0, F0⟩ := c.t.d.def_ 0 (d := HdX.dOf 23 "is_whole") rfl
  replace F0 : FunD K "is_whole" "is_whole" (defArgs (top 23)) (defBody (top 23)) (defScope (top 23)) [] [] (He.ga K "is_whole") e0 := F0
  obtain ⟨e1, F1⟩ := c.t.d.def_ 1 (d := HdX.dOf 24 "is_from") rfl
  replace F1 : FunD K "is_from" "is_from" (defArgs (top 24)) (defBody (top 24)) (defScope (top 24)) [] [] (He.ga K "is_from") e1 := F1
  obtain ⟨e2, F2⟩ := c.t.d.def_ 2 (d := HdX.dOf 25 "is_square") rfl
  replace F2 : FunD K "is_square" "is_square" (defArgs (top 25)) (defBody (top 25)) (defScope (top 25)) [] [] (He.ga K "is_square") e2 := F2
  obtain ⟨e3, F3⟩ := c.t.d.def_ 3 (d := HdX.dOf 33 "is_among") rfl
  replace F3 : FunD K "is_among" "is_among" (defArgs (top 33)) (defBody (top 33)) (defScope (top 33)) [] [] (He.ga K "is_among") e3 := F3
  obtain ⟨e4, F4⟩ := c.t.d.def_ 4 (d := HdX.dOf 34 "is_web") rfl
  replace F4 : FunD K "is_web" "is_web" (defArgs (top 34)) (defBody (top 34)) (defScope (top 34)) [] [] (He.ga K "is_web") e4 := F4
  obtain ⟨e5, F5⟩ := c.t.d.def_ 5 (d := HdX.dOf 35 "need_web") rfl
  replace F5 : FunD K "need_web" "need_web" (defArgs (top 35)) (defBody (top 35)) (defScope (top 35)) [] [] (He.ga K "need_web") e5 := F5
  obtain ⟨e6, F6⟩ := c.t.d.def_ 6 (d := HdX.dOf 55 "is_worth_of") rfl
  replace F6 : FunD K "is_worth_of" "is_worth_of" (defArgs (top 55)) (defBody (top 55)) (defScope (top 55)) [] [] (He.ga K "is_worth_of") e6 := F6
  obtain ⟨e7, F7⟩ := c.t.d.def_ 7 (d := HdX.dOf 65 "worth_clauses") rfl
  replace F7 : FunD K "worth_clauses" "worth_clauses" (defArgs (top 65)) (defBody (top 65)) (defScope (top 65)) [] [] (He.ga K "worth_clauses") e7 := F7
  obtain ⟨e8, F8⟩ := c.t.d.def_ 8 (d := HdX.dOf 67 "need_paper") rfl
  replace F8 : FunD K "need_paper" "need_paper" (defArgs (top 67)) (defBody (top 67)) (defScope (top 67)) [] [] (He.ga K "need_paper") e8 := F8
  obtain ⟨e9, F9⟩ := c.t.d.def_ 9 (d := HdX.dOf 68 "look") rfl
  replace F9 : FunD K "look" "look" (defArgs (top 68)) (defBody (top 68)) (defScope (top 68)) [] [] (He.ga K "look") e9 := F9
  obtain ⟨e10, F10⟩ := c.t.d.def_ 10 (d := HdX.dOf 70 "_law_spread") rfl
  replace F10 : FunD K "_law_spread" "_law_spread" (defArgs (top 70)) (defBody (top 70)) (defScope (top 70)) [] [] (He.ga K "_law_spread") e10 := F10
  obtain ⟨e11, F11⟩ := c.t.d.def_ 11 (d := HdX.dOf 71 "_law_open") rfl
  replace F11 : FunD K "_law_open" "_law_open" (defArgs (top 71)) (defBody (top 71)) (defScope (top 71)) [] [] (He.ga K "_law_open") e11 := F11
  obtain ⟨e12, F12⟩ := c.t.d.def_ 12 (d := HdX.dOf 72 "_law_anew") rfl
  replace F12 : FunD K "_law_anew" "_law_anew" (defArgs (top 72)) (defBody (top 72)) (defScope (top 72)) [] [] (He.ga K "_law_anew") e12 := F12
  obtain ⟨e13, F13⟩ := c.t.d.def_ 13 (d := HdX.dOf 73 "_law_take") rfl
  replace F13 : FunD K "_law_take" "_law_take" (defArgs (top 73)) (defBody (top 73)) (defScope (top 73)) [] [] (He.ga K "_law_take") e13 := F13
  obtain ⟨e14, F14⟩ := c.t.d.def_ 14 (d := HdX.dOf 74 "_law_one") rfl
  replace F14 : FunD K "_law_one" "_law_one" (defArgs (top 74)) (defBody (top 74)) (defScope (top 74)) [] [] (He.ga K "_law_one") e14 := F14
  obtain ⟨e15, F15⟩ := c.t.d.def_ 15 (d := HdX.dOf 75 "_law_is_whole") rfl
  replace F15 : FunD K "_law_is_whole" "_law_is_whole" (defArgs (top 75)) (defBody (top 75)) (defScope (top 75)) [] [] (He.ga K "_law_is_whole") e15 := F15
  obtain ⟨e16, F16⟩ := c.t.d.def_ 16 (d := HdX.dOf 76 "_law_bent") rfl
  replace F16 : FunD K "_law_bent" "_law_bent" (defArgs (top 76)) (defBody (top 76)) (defScope (top 76)) [] [] (He.ga K "_law_bent") e16 := F16
  obtain ⟨e17, F17⟩ := c.t.d.def_ 17 (d := HdX.dOf 78 "_law_looked") rfl
  replace F17 : FunD K "_law_looked" "_law_looked" (defArgs (top 78)) (defBody (top 78)) (defScope (top 78)) [] [] (He.ga K "_law_looked") e17 := F17
  obtain ⟨e18, F18⟩ := c.t.d.def_ 18 (d := HdX.dOf 79 "_law_sure") rfl
  replace F18 : FunD K "_law_sure" "_law_sure" (defArgs (top 79)) (defBody (top 79)) (defScope (top 79)) [] [] (He.ga K "_law_sure") e18 := F18
  obtain ⟨e19, F19⟩ := c.t.d.def_ 19 (d := HdX.dOf 80 "_law_due") rfl
  replace F19 : FunD K "_law_due" "_law_due" (defArgs (top 80)) (defBody (top 80)) (defScope (top 80)) [] [] (He.ga K "_law_due") e19 := F19
  obtain ⟨e20, F20⟩ := c.t.d.def_ 20 (d := HdX.dOf 81 "law") rfl
  replace F20 : FunD K "law" "law" (defArgs (top 81)) (defBody (top 81)) (defScope (top 81)) [] [] (He.ga K "law") e20 := F20
  refine ⟨e20, fun s u => (FunD.bindsA (ps := ["_law_script"]) F20 fun _ _ _ _ _ _ us hl => match us, hl with | [_], _ => rfl) s [u] rfl, fun base hb hn => ?_⟩
  have g0 : Glo w K mg T0 := glo0 X G c
  have t0 : Tab P w K mg base 0 T0 := fun f hf => by cases hf
  have d0 : DefIn P w K mg base 1 "is_whole" f_is_whole := defInE (F := FU) F0 (He.glo_ok X G (c.t.d.fact 0 (f := .glo "is_whole") rfl)) (F0.bindsN fun _ _ _ _ _ _ us hl => match us, hl with | [_], _ => rfl) s_is_whole g0 t0 m_is_whole
  have t1 : Tab P w K mg base 1 T1 := t0.add d0
  have g1 : Glo w K mg T1 := g0.add
  have d1 : DefIn P w K mg base 2 "is_from" f_is_from := defInE (F := FU) F1 (He.glo_ok X G (c.t.d.fact 1 (f := .glo "is_from") rfl)) (F1.bindsN fun _ _ _ _ _ _ us hl => match us, hl with | [_, _], _ => rfl) s_is_from g1 t1 m_is_from
  have t2 : Tab P w K mg base 2 T2 := t1.add d1
  have g2 : Glo w K mg T2 := g1.add
  have d2 : DefIn P w K mg base 3 "is_square" f_is_square := defInE (F := FU) F2 (He.glo_ok X G (c.t.d.fact 2 (f := .glo "is_square") rfl)) (F2.bindsN fun _ _ _ _ _ _ us hl => match us, hl with | [_, _], _ => rfl) s_is_square g2 t2 m_is_square
  have t3 : Tab P w K mg base 3 T3 := t2.add d2
  have g3 : Glo w K mg T3 := g2.add
  have d3 : DefIn P w K mg base 4 "is_among" f_is_among := defInE (F := FU) F3 (He.glo_ok X G (c.t.d.fact 3 (f := .glo "is_among") rfl)) (F3.bindsN fun _ _ _ _ _ _ us hl => match us, hl with | [_, _], _ => rfl) s_is_among g3 t3 m_is_among
  have t4 : Tab P w K mg base 4 T4 := t3.add d3
  have g4 : Glo w K mg T4 := g3.add
  have d4 : DefIn P w K mg base 5 "is_web" f_is_web := defInE (F := FU) F4 (He.glo_ok X G (c.t.d.fact 4 (f := .glo "is_web") rfl)) (F4.bindsN fun _ _ _ _ _ _ us hl => match us, hl with | [_], _ => rfl) s_is_web g4 t4 m_is_web
  have t5 : Tab P w K mg base 5 T5 := t4.add d4
  have g5 : Glo w K mg T5 := g4.add
  have d5 : DefIn P w K mg base 6 "need_web" f_need_web := defInE (F := FU) F5 (He.glo_ok X G (c.t.d.fact 5 (f := .glo "need_web") rfl)) (F5.bindsN fun _ _ _ _ _ _ us hl => match us, hl with | [_], _ => rfl) s_need_web g5 t5 m_need_web
  have t6 : Tab P w K mg base 6 T6 := t5.add d5
  have g6 : Glo w K mg T6 := g5.add
  have d6 : DefIn P w K mg base 7 "is_worth_of" f_is_worth_of := defInE (F := FU) F6 (He.glo_ok X G (c.t.d.fact 6 (f := .glo "is_worth_of") rfl)) (F6.bindsN fun _ _ _ _ _ _ us hl => match us, hl with | [_, _, _], _ => rfl) s_is_worth_of g6 t6 m_is_worth_of
  have t7 : Tab P w K mg base 7 T7 := t6.add d6
  have g7 : Glo w K mg T7 := g6.add
  have d7 : DefIn P w K mg base 8 "worth_clauses" f_worth_clauses := defInE (F := FU) F7 (He.glo_ok X G (c.t.d.fact 7 (f := .glo "worth_clauses") rfl)) (F7.bindsN fun _ _ _ _ _ _ us hl => match us, hl with | [_], _ => rfl) s_worth_clauses g7 t7 m_worth_clauses
  have t8 : Tab P w K mg base 8 T8 := t7.add d7
  have g8 : Glo w K mg T8 := g7.add
  have d8 : DefIn P w K mg base 9 "need_paper" f_need_paper := defInE (F := FU) F8 (He.glo_ok X G (c.t.d.fact 8 (f := .glo "need_paper") rfl)) (F8.bindsN fun _ _ _ _ _ _ us hl => match us, hl with | [_], _ => rfl) s_need_paper g8 t8 m_need_paper
  have t9 : Tab P w K mg base 9 T9 := t8.add d8
  have g9 : Glo w K mg T9 := g8.add
  have d9 : DefIn P w K mg base 10 "look" f_look := defInE (F := FU) F9 (He.glo_ok X G (c.t.d.fact 9 (f := .glo "look") rfl)) (F9.bindsN fun _ _ _ _ _ _ us hl => match us, hl with | [_], _ => rfl) s_look g9 t9 m_look
  have t10 : Tab P w K mg base 10 T10 := t9.add d9
  have g10 : Glo w K mg T10 := g9.add
  have d10 : DefIn P w K mg base 11 "_law_spread" f__law_spread := defInE (F := FU) F10 (He.glo_ok X G (c.t.d.fact 10 (f := .glo "_law_spread") rfl)) (F10.bindsN fun _ _ _ _ _ _ us hl => match us, hl with | [_, _], _ => rfl) s__law_spread g10 t10 m__law_spread
  have t11 : Tab P w K mg base 11 T11 := t10.add d10
  have g11 : Glo w K mg T11 := g10.add
  have d11 : DefIn P w K mg base 12 "_law_open" f__law_open := defInE (F := FU) F11 (He.glo_ok X G (c.t.d.fact 11 (f := .glo "_law_open") rfl)) (F11.bindsN fun _ _ _ _ _ _ us hl => match us, hl with | [_], _ => rfl) s__law_open g11 t11 m__law_open
  have t12 : Tab P w K mg base 12 T12 := t11.add d11
  have g12 : Glo w K mg T12 := g11.add
  have d12 : DefIn P w K mg base 13 "_law_anew" f__law_anew := defInE (F := FU) F12 (He.glo_ok X G (c.t.d.fact 12 (f := .glo "_law_anew") rfl)) (F12.bindsN fun _ _ _ _ _ _ us hl => match us, hl with | [_], _ => rfl) s__law_anew g12 t12 m__law_anew
  have t13 : Tab P w K mg base 13 T13 := t12.add d12
  have g13 : Glo w K mg T13 := g12.add
  have d13 : DefIn P w K mg base 14 "_law_take" f__law_take := defInE (F := FU) F13 (He.glo_ok X G (c.t.d.fact 13 (f := .glo "_law_take") rfl)) (F13.bindsN fun _ _ _ _ _ _ us hl => match us, hl with | [_, _], _ => rfl) s__law_take g13 t13 m__law_take
  have t14 : Tab P w K mg base 14 T14 := t13.add d13
  have g14 : Glo w K mg T14 := g13.add
  have d14 : DefIn P w K mg base 15 "_law_one" f__law_one := defInE (F := FU) F14 (He.glo_ok X G (c.t.d.fact 14 (f := .glo "_law_one") rfl)) (F14.bindsN fun _ _ _ _ _ _ us hl => match us, hl with | [_, _], _ => rfl) s__law_one g14 t14 m__law_one
  have t15 : Tab P w K mg base 15 T15 := t14.add d14
  have g15 : Glo w K mg T15 := g14.add
  have d15 : DefIn P w K mg base 16 "_law_is_whole" f__law_is_whole := defInE (F := FU) F15 (He.glo_ok X G (c.t.d.fact 15 (f := .glo "_law_is_whole") rfl)) (F15.bindsN fun _ _ _ _ _ _ us hl => match us, hl with | [_], _ => rfl) s__law_is_whole g15 t15 m__law_is_whole
  have t16 : Tab P w K mg base 16 T16 := t15.add d15
  have g16 : Glo w K mg T16 := g15.add
  have d16r : DefIn P w K mg base 17 "_law_bent" f0__law_bent := defInE (F := FU) F16 (He.glo_ok X G (c.t.d.fact 16 (f := .glo "_law_bent") rfl)) (F16.bindsN fun _ _ _ _ _ _ us hl => match us, hl with | [_, _, _], _ => rfl) s__law_bent g16 t16 m__law_bent
  have t16r : Tab P w K mg base 17 T16r := t16.add d16r
  have g16r : Glo w K mg T16r := g16.add
  have d16 : DefIn P w K mg base 18 "_law_bent" f__law_bent := defInE (F := FU) F16 (He.glo_ok X G (c.t.d.fact 16 (f := .glo "_law_bent") rfl)) (F16.bindsN fun _ _ _ _ _ _ us hl => match us, hl with | [_, _, _], _ => rfl) s__law_bent g16r t16r m__law_bent
  have t17 : Tab P w K mg base 18 T17 := t16r.add d16
  have g17 : Glo w K mg T17 := g16r.add
  have d17 : DefIn P w K mg base 19 "_law_looked" f__law_looked := defInE (F := FU) F17 (He.glo_ok X G (c.t.d.fact 17 (f := .glo "_law_looked") rfl)) (F17.bindsN fun _ _ _ _ _ _ us hl => match us, hl with | [_], _ => rfl) s__law_looked g17 t17 m__law_looked
  have t18 : Tab P w K mg base 19 T18 := t17.add d17
  have g18 : Glo w K mg T18 := g17.add
  have d18 : DefIn P w K mg base 20 "_law_sure" f__law_sure := defInE (F := FU) F18 (He.glo_ok X G (c.t.d.fact 18 (f := .glo "_law_sure") rfl)) (F18.bindsN fun _ _ _ _ _ _ us hl => match us, hl with | [_, _], _ => rfl) s__law_sure g18 t18 m__law_sure
  have t19 : Tab P w K mg base 20 T19 := t18.add d18
  have g19 : Glo w K mg T19 := g18.add
  have d19 : DefIn P w K mg base 21 "_law_due" f__law_due := defInE (F := FU) F19 (He.glo_ok X G (c.t.d.fact 19 (f := .glo "_law_due") rfl)) (F19.bindsN fun _ _ _ _ _ _ us hl => match us, hl with | [_, _, _], _ => rfl) s__law_due g19 t19 m__law_due
  have t20 : Tab P w K mg base 21 T20 := t19.add d19
  have g20 : Glo w K mg T20 := g19.add
  exact fnE (F := FU) F20 s_law g20 t20 m_law
end
end K
open PySem PySem.W PySem.Calls PyProof.Rows
theorem PySem.Challenge.cw_laidroads_k80_papers_of_worths_holds : PySem.Challenge.rw_laidroads_k80_papers_of_worths.Holds := by
  w_on; o_law
  refine HandSHeadRun.head_any (r := (OpenLaw.row PySem.Challenge.rw_laidroads_k80_papers_of_worths)) (q := view (OpenLaw.row PySem.Challenge.rw_laidroads_k80_papers_of_worths).prog [81]) (H := HdX.hk) (ob := HdX.ob) (M := 20000) (loose := HdX.names) (d := HandSHeadRun.topDef (OpenLaw.row PySem.Challenge.rw_laidroads_k80_papers_of_worths).prog 81) (kwd := []) HdX.ob_eq
    (by kernel_rfl) (fun s => by kernel_rfl) HdX.run (by kernel_rfl) (by kernel_rfl) (by kernel_rfl) (by rfl) (by first | assumption | decide +kernel) (by decide +kernel) ⟨rfl, rfl, rfl, rfl, rfl, by decide +kernel⟩ ?hw ?hc
  case hw => w_witness2
  case hc =>
    refine ZG.walkG (l := PySem.Challenge.rw_laidroads_k80_papers_of_worths) (n := 63) (k := 22) (x := "_law_script") rfl (by decide) (by kernel_rfl) ⟨rfl, by decide, by decide⟩ ?F
    intro w mg fa h Y G hmg0
    obtain ⟨K, KX, c⟩ := Y
    have hmg : mg ("law" : PySem.Str) = some (.ref fa) := by
      have e : (HandSHeadRun.topDef (OpenLaw.row PySem.Challenge.rw_laidroads_k80_papers_of_worths).prog 81).name = ("law" : PySem.Str) := by kernel_rfl
      rw [← e]
      exact hmg0
    have e := hmg.symm.trans (He.glo_ok KX G (c.t.d.fact 20 (f := .glo "law") rfl))
    cases e
    obtain ⟨fd, hb, hF⟩ := _root_.K.law_ok (P := (PySem.Challenge.rw_laidroads_k80_papers_of_worths).prog) KX G c
    exact ⟨K, fd, Z.SpF K mg _root_.K.f_law, KX, hb, fun H a ns hl hO hS => Z.sp_law _root_.K.e_law hO hS, hF⟩
