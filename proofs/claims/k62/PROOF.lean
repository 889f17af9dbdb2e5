import PyProof.Rows.All
import Wide.All
import OpenK.AllK
import Wide.FinOn
import KE.GoesZip
import KE.GoesMore
import HandS.ForMost
import HandS.Walk
import HandS.Lambda
import HandS.SortKw
import KE.KSortKeySt
import HandS.SetFor
import HandS.Strs
import HandS.More
import HandS.Dict
import HandS.SetBool
import KE.KCallOwn
import HandS.Style
import HandS.NoneIn
import HandS.IsInst
import HandS.SortInts
import KE.KStateDown
import HandS.Head0
import HandS.Head1
import HandS.Head2
import HandS.HeadEnd
import HandS.HeadHook1
import HandS.HeadHook2
import HandS.HeadHook3
import HandS.HeadHook4
import HandS.HeadWalk
import HandS.MakeKw
import HandS.Defaults
import HandS.FStr
import HandS.RaiseMore
import PySem.Challenge.RW_littlemasters_k62_journals_written
import HandS.Conv
import Lean
import KE.KNestM
set_option Elab.async false
set_option linter.all false
set_option maxRecDepth 100000
set_option maxHeartbeats 2000000
/-! zip(a, b, strict=True) over two iterators of one length. -/
namespace LmZ
open PySem PySem.Spec PyProof.Rows
open PySem.Sem (wp)

/-- a strict zip object -/
abbrev ZipS (h : Heap) (z TI TO : Addr) (f0 : Value) : Prop :=
  h.get? z = some { cls := .type "zip", dict := none, data := .fields #[f0, .bool false, .bool true, .ref TI, .ref TO], slots := #[] }

section
variable {prog : Program} {w : World} {A : Around} {E : Value → Shared → Prop} {s : Shared} {z TI TO i1 i2 : Addr} {fp1 fp2 fp : List Addr} {n n1 n2 i : Nat} {P P1 P2 : Nat → Value → Prop} {St St1 St2 : Nat → Heap → Prop} {a1 a2 : Value} {it : Addr}

theorem draw_item {Q : Option Value → Shared → Prop} (D : Draws prog w A it fp n P St) (hi : i < n) (st : St i s.heap)
    (hQ : ∀ x h' tk, P i x → St (i + 1) h' → Heap.SameBut it s.heap h' → Q (some x) { s with heap := h', toks := tk }) :
    wpAny (model prog w) A (Builtin.SmallTypes.nextOrEnd (.ref it)) Q E s := by
  unfold Builtin.SmallTypes.nextOrEnd
  exact wpAny_bind (wpAny_attempt (D.item i s _ _ hi st fun x h' tk p st' sb => wpAny_pure (hQ x h' tk p st' sb)))
theorem draw_end {Q : Option Value → Shared → Prop} (D : Draws prog w A it fp n P St) (st : St n s.heap)
    (hQ : ∀ h', Heap.ExtBut it s.heap h' → Q none { s with heap := h' }) :
    wpAny (model prog w) A (Builtin.SmallTypes.nextOrEnd (.ref it)) Q E s := by
  unfold Builtin.SmallTypes.nextOrEnd
  refine wpAny_bind (wpAny_attempt (D.done s _ _ st fun h' e hx he => ?_))
  obtain ⟨o, ho, hc⟩ := he
  exact wpAny_bind (wpAny_isInstance (T := "StopIteration") (b := true) ⟨o, ho, hc⟩ isSubtype_stop (wpAny_pure (hQ h' hx)))

theorem zipS_next_item {Q : Value → Shared → Prop} (S : ZipSep2 z TI TO i1 i2 fp1 fp2) (D1 : Draws prog w A i1 fp1 n1 P1 St1) (D2 : Draws prog w A i2 fp2 n2 P2 St2)
    (hz : ZipS s.heap z TI TO .none) (hTI : IsTupOf2 s.heap TI (.ref i1) (.ref i2)) (hTO : IsTupOf2 s.heap TO a1 a2) (st1 : St1 i s.heap) (st2 : St2 i s.heap) (hlt1 : i < n1) (hlt2 : i < n2)
    (hQ : ∀ x1 x2 h' tk, P1 i x1 → P2 i x2 → ZipS h' z TI TO (rawInt s.heap.objs.size) → IsTupOf2 h' TO x1 x2 → St1 (i + 1) h' → St2 (i + 1) h' → IsTupOf2 h' s.heap.objs.size x1 x2 → h'.objs.size = s.heap.objs.size + 1 →
      (∀ c o, c ≠ z → c ≠ TO → c ≠ i1 → c ≠ i2 → s.heap.get? c = some o → h'.get? c = some o) → Q (.ref s.heap.objs.size) { s with heap := h', toks := tk }) :
    wpAny (model prog w) A (Builtin.«zip.__next__» ⟨[.ref z], []⟩) (fun fin s' => ∃ v, fin = .done (.ret v) ∧ Q v s') E s := by
  obtain ⟨hp, g, d, tk0, os⟩ := s
  show wpAny _ _ (field (.ref z) 2 >>= _) _ _ _
  refine wpAny_bind (wpAny_field hz rfl (x := .bool true) rfl ?_)
  show wpAny _ _ (field (.ref z) 3 >>= _) _ _ _
  refine wpAny_bind (wpAny_field hz rfl (x := .ref TI) rfl ?_)
  refine wpAny_bind (wpAny_seqItems hTI rfl ?_)
  show wpAny _ _ (Builtin.SmallTypes.ownedTupleIsFree (.ref z) >>= _) _ _ _
  refine wpAny_bind ?_
  unfold Builtin.SmallTypes.ownedTupleIsFree
  refine wpAny_bind (wpAny_field hz rfl (x := .none) rfl (wpAny_pure ?_))
  simp only [if_true]
  refine wpAny_bind (wpAny_rule ?_)
  refine wpAny_bind (wpAny_field hz rfl (x := .ref TO) rfl ?_)
  refine wpAny_bind (wpAny_setField_rec hz (by simp) fun g0 hz0 hs0 => ?_)
  replace hz0 : ZipS g0 z TI TO .ellipsis := hz0
  replace hs0 : Heap.SameBut z hp g0 := hs0
  refine wpAny_bind ?_
  simp only [List.zipIdx_cons, List.zipIdx_nil, List.forIn_cons, List.forIn_nil]
  refine wpAny_bind (wpAny_bind (wpAny_onRaise ?_))
  show wpAny _ _ (Builtin.SmallTypes.nextOrEnd (.ref i1)) _ _ ⟨g0, g, d, tk0, os⟩
  refine draw_item D1 hlt1 (D1.over st1 hs0 S.zf1) fun x1 p1 tk1 hx1 sn1 hp1 => ?_
  replace hp1 : Heap.SameBut i1 g0 p1 := hp1
  have hU1 : IsTupOf2 p1 TO a1 a2 := hp1.extBut _ _ S.Ti1 (hs0.extBut _ _ S.TOz hTO)
  refine wpAny_bind (wpAny_seqItems (s := ⟨p1, g, d, tk1, os⟩) hU1 rfl ?_)
  refine wpAny_bind (updateSeq_IsTupOf2 (s := ⟨p1, g, d, tk1, os⟩) hU1 fun g1 hT1 hs1 => ?_)
  replace hT1 : IsTupOf2 g1 TO x1 a2 := hT1
  replace hs1 : Heap.SameBut TO p1 g1 := hs1
  refine wpAny_bind (wpAny_letGo (wpAny_pure ?_))
  refine wpAny_bind (wpAny_bind (wpAny_onRaise ?_))
  show wpAny _ _ (Builtin.SmallTypes.nextOrEnd (.ref i2)) _ _ ⟨g1, g, d, tk1, os⟩
  refine draw_item D2 hlt2 (D2.over (D2.over (D2.over st2 hs0 S.zf2) hp1 S.sep1_2) hs1 S.Tf2) fun x2 p2 tk2 hx2 sn2 hp2 => ?_
  replace hp2 : Heap.SameBut i2 g1 p2 := hp2
  have hU2 : IsTupOf2 p2 TO x1 a2 := hp2.extBut _ _ S.Ti2 hT1
  refine wpAny_bind (wpAny_seqItems (s := ⟨p2, g, d, tk2, os⟩) hU2 rfl ?_)
  refine wpAny_bind (updateSeq_IsTupOf2 (s := ⟨p2, g, d, tk2, os⟩) hU2 fun g2 hT2 hs2 => ?_)
  replace hT2 : IsTupOf2 g2 TO x1 x2 := hT2
  replace hs2 : Heap.SameBut TO p2 g2 := hs2
  refine wpAny_bind (wpAny_letGo (wpAny_pure (wpAny_pure ?_)))
  refine wpAny_bind (wpAny_seqItems (s := ⟨g2, g, d, tk2, os⟩) hT2 rfl ?_)
  refine wpAny_bind (wpAny_newTuple ?_)
  have hsz : g2.objs.size = hp.objs.size := by rw [hs2.1, hp2.1, hs1.1, hp1.1, hs0.1]
  have hzz : ZipS g2 z TI TO .ellipsis := (hs2.extBut _ _ S.TOz.symm (hp2.extBut _ _ S.zi2 (hs1.extBut _ _ S.TOz.symm (hp1.extBut _ _ S.zi1 hz0))))
  have hkk : ∀ c o, c ≠ z → c ≠ TO → c ≠ i1 → c ≠ i2 → hp.get? c = some o → g2.get? c = some o := fun c o cz cT c1 c2 e =>
    (hs2.extBut _ _ cT (hp2.extBut _ _ c2 (hs1.extBut _ _ cT (hp1.extBut _ _ c1 (hs0.extBut _ _ cz e)))))
  have hj1 : St1 (i + 1) g2 := (D1.over (D1.over (D1.over sn1 hs1 S.Tf1) hp2 S.sep2_1) hs2 S.Tf1)
  have hj2 : St2 (i + 1) g2 := (D2.over sn2 hs2 S.Tf2)
  have hzlt : z < g2.objs.size := Heap.lt_size hzz
  show wpAny _ _ (Builtin.SmallTypes.ownedTupleHandOut (.ref z) (.ref g2.objs.size) >>= _) _ _ ⟨g2.push { cls := .type "tuple", data := .seq #[x1, x2] }, g, d, tk2, os⟩
  refine wpAny_bind ?_
  unfold Builtin.SmallTypes.ownedTupleHandOut
  have hz6 : ZipS (g2.push { cls := .type "tuple", data := .seq #[x1, x2] }) z TI TO .ellipsis := Heap.get?_push_of_some _ hzz
  refine wpAny_bind (wpAny_setField_rec hz6 (by simp) fun h7 hz7 hs7 => ?_)
  replace hz7 : ZipS h7 z TI TO (rawInt g2.objs.size) := hz7
  refine wpAny_setField_rec hz7 (by simp) fun h8 hz8 hs8 => ?_
  replace hz8 : ZipS h8 z TI TO (rawInt g2.objs.size) := hz8
  replace hs7 : Heap.SameBut z (g2.push { cls := .type "tuple", data := .seq #[x1, x2] }) h7 := hs7
  replace hs8 : Heap.SameBut z h7 h8 := hs8
  have up : ∀ c o, c ≠ z → g2.get? c = some o → h8.get? c = some o := fun c o c1 e => hs8.extBut _ _ c1 (hs7.extBut _ _ c1 (Heap.get?_push_of_some _ e))
  have hT8 : IsTupOf2 h8 g2.objs.size x1 x2 := hs8.extBut _ _ (Nat.ne_of_gt hzlt) (hs7.extBut _ _ (Nat.ne_of_gt hzlt) (Heap.get?_push_size _ rfl))
  have hz9 : h8.objs.size = g2.objs.size + 1 := by rw [hs8.1, hs7.1, Heap.size_push]
  rw [hsz] at hz8 hT8 hz9
  refine wpAny_pure ⟨_, rfl, ?_⟩
  show Q (.ref g2.objs.size) ⟨h8, g, d, tk2, os⟩
  rw [hsz]
  exact hQ x1 x2 h8 tk2 hx1 hx2 hz8 (up _ _ S.TOz hT2) (D1.frame _ _ _ hj1 fun b hb o e => up b o (fun q => S.zf1 (q ▸ hb)) e) (D2.frame _ _ _ hj2 fun b hb o e => up b o (fun q => S.zf2 (q ▸ hb)) e) hT8 hz9 fun c o cz cT c1 c2 e => up c o cz (hkk c o cz cT c1 c2 e)

/-- the end: both have ended -/
theorem zipS_next_end {Q : Fin → Shared → Prop} (hh : A.handled = none) (S : ZipSep2 z TI TO i1 i2 fp1 fp2) (D1 : Draws prog w A i1 fp1 n P1 St1) (D2 : Draws prog w A i2 fp2 n P2 St2)
    (hz : ZipS s.heap z TI TO .none) (hTI : IsTupOf2 s.heap TI (.ref i1) (.ref i2)) (hTO : IsTupOf2 s.heap TO a1 a2) (st1 : St1 n s.heap) (st2 : St2 n s.heap)
    (hE : ∀ h' e, (∀ c o, c ≠ z → c ≠ TO → c ≠ i1 → c ≠ i2 → s.heap.get? c = some o → h'.get? c = some o) → (∃ o, h'.get? e = some o ∧ o.cls = .type "StopIteration") → E (.ref e) { s with heap := h' }) :
    wpAny (model prog w) A (Builtin.«zip.__next__» ⟨[.ref z], []⟩) Q E s := by
  obtain ⟨hp, g, d, tk0, os⟩ := s
  show wpAny _ _ (field (.ref z) 2 >>= _) _ _ _
  refine wpAny_bind (wpAny_field hz rfl (x := .bool true) rfl ?_)
  show wpAny _ _ (field (.ref z) 3 >>= _) _ _ _
  refine wpAny_bind (wpAny_field hz rfl (x := .ref TI) rfl ?_)
  refine wpAny_bind (wpAny_seqItems hTI rfl ?_)
  show wpAny _ _ (Builtin.SmallTypes.ownedTupleIsFree (.ref z) >>= _) _ _ _
  refine wpAny_bind ?_
  unfold Builtin.SmallTypes.ownedTupleIsFree
  refine wpAny_bind (wpAny_field hz rfl (x := .none) rfl (wpAny_pure ?_))
  simp only [if_true]
  refine wpAny_bind (wpAny_rule ?_)
  refine wpAny_bind (wpAny_field hz rfl (x := .ref TO) rfl ?_)
  refine wpAny_bind (wpAny_setField_rec hz (by simp) fun g0 hz0 hs0 => ?_)
  replace hz0 : ZipS g0 z TI TO .ellipsis := hz0
  replace hs0 : Heap.SameBut z hp g0 := hs0
  refine wpAny_bind ?_
  simp only [List.zipIdx_cons, List.zipIdx_nil, List.forIn_cons, List.forIn_nil]
  refine wpAny_bind (wpAny_bind (wpAny_onRaise ?_))
  show wpAny _ _ (Builtin.SmallTypes.nextOrEnd (.ref i1)) _ _ ⟨g0, g, d, tk0, os⟩
  refine draw_end (s := ⟨g0, g, d, tk0, os⟩) D1 (D1.over st1 hs0 S.zf1) fun q hq => ?_
  replace hq : Heap.ExtBut i1 g0 q := hq
  have hzq : ZipS q z TI TO .ellipsis := hq _ _ S.zi1 hz0
  refine wpAny_bind (wpAny_setField_rec (s := ⟨q, g, d, tk0, os⟩) hzq (by simp) fun q1 hz1 hs1 => ?_)
  replace hs1 : Heap.SameBut z q q1 := hs1
  refine wpAny_bind ?_
  show wpAny _ _ ((forIn [(Value.ref i2, (1 : Nat))] PUnit.unit _) >>= _) _ _ _
  simp only [List.forIn_cons, List.forIn_nil]
  refine wpAny_bind (wpAny_bind ?_)
  have st2q : St2 n q1 := D2.over (D2.frame _ _ _ (D2.over st2 hs0 S.zf2) fun b hb o e => hq b o (fun x => S.sep1_2 (x ▸ hb)) e) hs1 S.zf2
  refine wpAny_bind (draw_end (s := ⟨q1, g, d, tk0, os⟩) D2 st2q fun q2 hq2 => ?_)
  replace hq2 : Heap.ExtBut i2 q1 q2 := hq2
  refine wpAny_ite_false rfl (wpAny_pure (wpAny_pure ?_))
  refine wpAny_bind (wpAny_rule ?_)
  show wpAny _ _ (newExc (.type "StopIteration") [] >>= _) _ _ _
  refine wpAny_bind ?_
  simp only [newExc, newTuple]
  refine wpAny_bind (wpAny_newObj_type ?_ (by size_fits))
  refine wpAny_bind (m := firstArgMember _ _) (wpAny_of_eq (a := Value.none) (by first | rfl | (simp only [firstArgMember]; rfl)) ?_)
  refine wpAny_newObj_type ?_ (by size_fits)
  simp only [raiseNew]
  refine wpAny_bind (wpAny_handled ?_)
  first | rw [show A.in1.handled = none from hh] | rw [hh]
  refine wpAny_bind (wpAny_pure (wpAny_throw ?_))
  refine hE _ _ (fun c o cz cT c1 c2 x => ?_) ⟨_, Heap.get?_push_size _ rfl, rfl⟩
  exact Heap.get?_push_of_some _ (Heap.get?_push_of_some _ (hq2 _ _ c2 (hs1.extBut _ _ cz (hq _ _ c1 (hs0.extBut _ _ cz x)))))

theorem pyNext_zipS_item {Q : Option Value → Shared → Prop} (S : ZipSep2 z TI TO i1 i2 fp1 fp2) (D1 : Draws prog w A.in1 i1 fp1 n1 P1 St1) (D2 : Draws prog w A.in1 i2 fp2 n2 P2 St2)
    (hz : ZipS s.heap z TI TO .none) (hTI : IsTupOf2 s.heap TI (.ref i1) (.ref i2)) (hTO : IsTupOf2 s.heap TO a1 a2) (st1 : St1 i s.heap) (st2 : St2 i s.heap) (hlt1 : i < n1) (hlt2 : i < n2)
    (hQ : ∀ x1 x2 h' tk, P1 i x1 → P2 i x2 → ZipS h' z TI TO (rawInt s.heap.objs.size) → IsTupOf2 h' TO x1 x2 → St1 (i + 1) h' → St2 (i + 1) h' → IsTupOf2 h' s.heap.objs.size x1 x2 → h'.objs.size = s.heap.objs.size + 1 →
      (∀ c o, c ≠ z → c ≠ TO → c ≠ i1 → c ≠ i2 → s.heap.get? c = some o → h'.get? c = some o) → Q (some (.ref s.heap.objs.size)) { s with heap := h', toks := tk }) :
    wpAny (model prog w) A (pyNext (.ref z)) Q E s := by
  have hT : s.TypeIs (.ref z) "zip" := ⟨_, hz, rfl⟩
  unfold pyNext
  exact wpAny_bind (wpAny_attempt (wpAny_callSpecial?_slot (name := Str.ofString "__next__") hT F.slot_zip_next
    (wpAny_call_entry F.slot_zip_next hT F.entry_zip_next
      (zipS_next_item S D1 D2 hz hTI hTO st1 st2 hlt1 hlt2 fun x1 x2 h' tk y1 y2 b1 b2 d1 d2 b5 b6 b7 => wpAny_pure (hQ x1 x2 h' tk y1 y2 b1 b2 d1 d2 b5 b6 b7)) (F.args_zip_next_1 _))))
theorem pyNext_zipS_end {Q : Option Value → Shared → Prop} (hh : A.handled = none) (S : ZipSep2 z TI TO i1 i2 fp1 fp2) (D1 : Draws prog w A.in1 i1 fp1 n P1 St1) (D2 : Draws prog w A.in1 i2 fp2 n P2 St2)
    (hz : ZipS s.heap z TI TO .none) (hTI : IsTupOf2 s.heap TI (.ref i1) (.ref i2)) (hTO : IsTupOf2 s.heap TO a1 a2) (st1 : St1 n s.heap) (st2 : St2 n s.heap)
    (hQ : ∀ h', (∀ c o, c ≠ z → c ≠ TO → c ≠ i1 → c ≠ i2 → s.heap.get? c = some o → h'.get? c = some o) → Q none { s with heap := h' }) : wpAny (model prog w) A (pyNext (.ref z)) Q E s := by
  have hT : s.TypeIs (.ref z) "zip" := ⟨_, hz, rfl⟩
  unfold pyNext
  refine wpAny_bind (wpAny_attempt (wpAny_callSpecial?_slot (name := Str.ofString "__next__") hT F.slot_zip_next
    (wpAny_call_entry F.slot_zip_next hT F.entry_zip_next (zipS_next_end hh S D1 D2 hz hTI hTO st1 st2 fun h' e hk he => ?_) (F.args_zip_next_1 _))))
  obtain ⟨o, ho, hc⟩ := he
  refine wpAny_bind (wpAny_isInstance (T := "StopIteration") (b := true) ⟨o, ho, hc⟩ isSubtype_stop ?_)
  exact wpAny_pure (hQ _ hk)
theorem letGo_zipS {elts : List Expr} {x1} {pos : Pos} {T : Addr} {Q : Unit → Shared → Prop} (hz : ZipS s.heap z TI TO (rawInt T))
    (hQ : ∀ h', ZipS h' z TI TO .none → Heap.SameBut z s.heap h' → Q () { s with heap := h' }) :
    wpAny (model prog w) A (letOwnedTupleGo (.Tuple elts x1 pos) (.ref z) (.ref T)) Q E s := by
  unfold letOwnedTupleGo
  refine wpAny_bind (wpAny_load hz ?_)
  show wpAny _ _ (if (["enumerate", "zip", "dict_itemiterator", "dict_reverseitemiterator", "odict_iterator", "itertools.zip_longest", "itertools.pairwise"].contains "zip" &&
      (#[rawInt T, .bool false, .bool true, .ref TI, .ref TO] : Array Value)[0]? == some (rawInt T)) = true then _ else _) Q E s
  rw [if_pos (by simp)]
  refine wpAny_bind (wpAny_rule ?_)
  show wpAny _ _ (setField (.ref z) 0 .none) Q E s
  exact wpAny_setField_rec hz (by simp) fun h' hz' hs' => hQ h' hz' hs'
theorem pyIter_zipS {f0 : Value} {Q : Value → Shared → Prop} (hz : ZipS s.heap z TI TO f0) (h : Q (.ref z) s) : wpAny (model prog w) A (pyIter (.ref z)) Q E s := by
  have hT : s.TypeIs (.ref z) "zip" := ⟨_, hz, rfl⟩
  refine wpAny_pyIter_slot hT F.slot_zip_iter (wpAny_call_entry F.slot_zip_iter hT F.entry_zip_iter ?_ (F.args_zip_iter_1 _))
  show wpAny _ _ (ret (.ref z)) _ _ s
  exact wpAny_pure ⟨_, rfl, "zip", _, hT, F.slot_zip_next.lookup, h⟩
end
end LmZ
set_option Elab.async false
set_option linter.all false
set_option maxRecDepth 100000
set_option maxHeartbeats 2000000
namespace LmZ
open PySem PySem.Spec PyProof.Rows
open PySem.Sem (wp)
section
variable {prog : Program} {w : World} {A : Around} {E : Value → Shared → Prop} {s : Shared}
/-- object.__init__ of a type with its own __new__, whatever is handed -/
theorem init_any {T newId : String} {self : Value} {rest : List Value} {kw : List (Str × Value)} (hl : typeLookup (.type T) "__init__" = pure (some (.builtin "object.__init__")))
    (hm : Bind.madeBy (.type T) = pure (some newId)) (hne : (some newId != some "object.__new__") = true) :
    Meets (Builtin.«object.__init__» ⟨self :: rest, kw⟩) (fun _ R s => s.TypeIs self T ∧ R (.ok (.ret .none)) s) := by
  refine Meets.of_wp fun prog w A R s hs => ?_
  obtain ⟨hT, hq⟩ := hs
  cases rest with
  | nil =>
    cases kw with
    | nil => exact wpAny_pure ⟨_, rfl, hq⟩
    | cons a rest =>
      repeat (any_goals (first | assumption | wp_step))
      exact ⟨_, rfl, hq⟩
  | cons a rest =>
    repeat (any_goals (first | assumption | wp_step))
    exact ⟨_, rfl, hq⟩
theorem callTypeK {T newId : String} {Bn : Builtin} {args : List Value} {kw : List (Str × Value)} {S : PySem.Spec} {Q : Value → Shared → Prop} (ft : TypeCalled T newId "object.__init__")
    (hne : (some newId != some "object.__new__") = true)
    (hct : checkTypeCall T ⟨args, kw⟩ = pure ()) (hcn : checkBuiltinCall newId ⟨.type T :: args, kw⟩ = pure ()) (hok : ∀ obj, argsOk "object.__init__" ⟨obj :: args, kw⟩) (entryN : entryFor table newId = some Bn)
    (g : Meets (Bn ⟨.type T :: args, kw⟩) S) (h : S A.in1 (wants (fun obj s₁ => s₁.TypeIs obj T ∧ Q obj s₁) E) s) : wpAny (model prog w) A (call (.type T) args kw) Q E s := by
  obtain ⟨c, tl, hmro⟩ := ft.mro
  have hmade := ft.made
  have hsub := ft.sub
  refine wpAny_call (codeAny_of_tree ?_)
  show wpAny _ _ (callAny (.type T) _) _ _ _
  refine wpAny_pure ⟨Code.quiet_builtin _ (by decide +kernel), codeAny_builtin F.entry_type_call ?_⟩
  rw [Around.under_plain (weight_type_call_type T args kw) (units_type_call_type T args kw)]
  have h1 := ft.notType
  have h2 := ft.canCreate
  repeat (any_goals (first | assumption | wp_step))
  refine codeAny_mono (codeAny_call_builtin ft.plain entryN (wpAny_of_eq hcn (g prog w A.in1 _ s h))) fun r s₁ hr => ?_
  cases r with
  | error e => exact hr
  | ok fl =>
    cases fl with
    | ret obj =>
      obtain ⟨hT, hq⟩ := hr
      have hli := ft.init.lookup
      have hbi := ft.init.bind obj
      repeat (any_goals (first | assumption | wp_step))
      refine codeAny_mono (codeAny_call_builtin ft.init.plain F.entry_object_init (ft.init.check _ _ _ _ _ _ _ _ hT (hok obj) (init_any (kw := kw) ft.init.lookup ft.made hne prog w A.in1 _ s₁ ⟨hT, (show wants (fun r s₂ => r = .none ∧ Q obj s₂) E (.ok (.ret .none)) s₁ from ⟨rfl, hq⟩)⟩))) fun r₂ s₂ hr₂ => ?_
      cases r₂ with
      | error e => exact hr₂
      | ok fl₂ =>
        cases fl₂ with
        | ret r =>
          obtain ⟨rfl, hq⟩ := hr₂
          repeat (any_goals (first | assumption | wp_step))
        | _ => exact hr₂.elim
    | _ => exact hr.elim
theorem typeCall_zipS (a b c : Value) : checkTypeCall "zip" ⟨[a, b], [(Str.ofString "strict", c)]⟩ = pure () := by kernel_rfl
theorem newCall_zipS (a b c : Value) : checkBuiltinCall "zip.__new__" ⟨[.type "zip", a, b], [(Str.ofString "strict", c)]⟩ = pure () := by kernel_rfl
theorem args_initK (a b c d : Value) : argsOk "object.__init__" ⟨[a, b, c], [(Str.ofString "strict", d)]⟩ := by
  unfold argsOk; rw [signature?_of (id := "object.__init__") (n := ['_', '_', 't', 'i', 'n', 'i', '_', '_']) (o := ['t', 'c', 'e', 'j', 'b', 'o']) (by kernel_rfl) F.owner_object]; kernel_rfl
end
abbrev zsZ (h : Heap) (o1 o2 : Obj) : Heap := (gzO2 h o1 o2).push { cls := .type "zip", data := .fields #[.none, .bool false, .bool true, .ref ((h.push o1).push o2).objs.size, .ref (gzT2 h o1 o2).objs.size] }
theorem meets_zipS_new {v1 v2 : Value} {o1 o2 : Obj} {H1 H2 : Heap → Prop} (B1 : Begins v1 o1 H1) (B2 : Begins v2 o2 H2) :
    Meets (Builtin.«zip.__new__» ⟨[.type "zip", v1, v2], [(Str.ofString "strict", .bool true)]⟩) (fun _ R s => (H1 s.heap ∧ H2 s.heap) ∧
      R (.ok (.ret (.ref (gzO2 s.heap o1 o2).objs.size))) { s with heap := zsZ s.heap o1 o2 }) :=
  .of_wp fun prog w A R s h => by
    obtain ⟨hp, g, d, tk, os⟩ := s; obtain ⟨⟨h1, h2⟩, h⟩ := h
    have hsub := sub_zip
    have q1 : ∀ {A' : Around} {E : Value → Shared → Prop} {Q : Value → Shared → Prop}, Q (.ref hp.objs.size) ⟨(hp.push o1), g, d, tk, os⟩ → wpAny (model prog w) A' (pyIter v1) Q E ⟨hp, g, d, tk, os⟩ :=
      fun q => B1.iter prog w _ _ ⟨hp, g, d, tk, os⟩ _ (B1.keeps _ _ h1 fun b o' e => e) q
    have q2 : ∀ {A' : Around} {E : Value → Shared → Prop} {Q : Value → Shared → Prop}, Q (.ref (hp.push o1).objs.size) ⟨((hp.push o1).push o2), g, d, tk, os⟩ → wpAny (model prog w) A' (pyIter v2) Q E ⟨(hp.push o1), g, d, tk, os⟩ :=
      fun q => B2.iter prog w _ _ ⟨(hp.push o1), g, d, tk, os⟩ _ (B2.keeps _ _ h2 fun b o' e => (Heap.get?_push_of_some _ e)) q
    wp_walk using q1, q2
    exact ⟨_, rfl, h⟩
end LmZ
set_option Elab.async false
set_option linter.all false
set_option maxRecDepth 100000
set_option maxHeartbeats 2000000
namespace LmZ
open PySem PySem.Spec PyProof.Rows L2
section
variable {prog : Program} {w : World} {A : Around} {E : Value → Shared → Prop} {s : Shared}
theorem zipS_begins {v1 v2 : Value} {o1 o2 : Obj} {H1 H2 : Heap → Prop} {Q : Value → Shared → Prop} (B1 : Begins v1 o1 H1) (B2 : Begins v2 o2 H2) (h1 : H1 s.heap) (h2 : H2 s.heap)
    (h : ∀ h', ZipS h' (s.heap.objs.size + 4) (s.heap.objs.size + 2) (s.heap.objs.size + 3) .none → IsTupOf2 h' (s.heap.objs.size + 2) (.ref s.heap.objs.size) (.ref (s.heap.objs.size + 1)) →
      IsTupOf2 h' (s.heap.objs.size + 3) .none .none → h'.get? s.heap.objs.size = some o1 → h'.get? (s.heap.objs.size + 1) = some o2 → h'.objs.size = s.heap.objs.size + 5 →
      (∀ c o, s.heap.get? c = some o → h'.get? c = some o) → Q (.ref (s.heap.objs.size + 4)) { s with heap := h' }) :
    wpAny (model prog w) A (call (.type "zip") [v1, v2] [(Str.ofString "strict", .bool true)]) Q E s := by
  refine callTypeK F.called_zip (by decide) (typeCall_zipS _ _ _) (newCall_zipS _ _ _) (fun obj => args_initK obj _ _ _) F.entry_zip_new
    (meets_zipS_new B1 B2) ⟨⟨h1, h2⟩, ?_⟩
  have z1 : (s.heap.push o1).objs.size = s.heap.objs.size + 1 := by rw [Heap.size_push]
  have z2 : ((s.heap.push o1).push o2).objs.size = s.heap.objs.size + 2 := by rw [Heap.size_push, z1]
  have zT : (gzT2 s.heap o1 o2).objs.size = s.heap.objs.size + 3 := by rw [Heap.size_push, z2]
  have zO : (gzO2 s.heap o1 o2).objs.size = s.heap.objs.size + 4 := by rw [Heap.size_push, zT]
  have zZ : (zsZ s.heap o1 o2).objs.size = s.heap.objs.size + 5 := by rw [Heap.size_push, zO]
  have gZ : (zsZ s.heap o1 o2).get? (gzO2 s.heap o1 o2).objs.size = some { cls := .type "zip", data := .fields #[.none, .bool false, .bool true, .ref ((s.heap.push o1).push o2).objs.size, .ref (gzT2 s.heap o1 o2).objs.size] } := Heap.get?_push_size _ rfl
  have gO : (zsZ s.heap o1 o2).get? (gzT2 s.heap o1 o2).objs.size = some { cls := .type "tuple", data := .seq #[.none, .none] } := Heap.get?_push_of_some _ (Heap.get?_push_size _ rfl)
  have gT : (zsZ s.heap o1 o2).get? ((s.heap.push o1).push o2).objs.size = some { cls := .type "tuple", data := .seq #[.ref s.heap.objs.size, .ref (s.heap.push o1).objs.size] } := Heap.get?_push_of_some _ (Heap.get?_push_of_some _ (Heap.get?_push_size _ rfl))
  have g1 : (zsZ s.heap o1 o2).get? s.heap.objs.size = some o1 := Heap.get?_push_of_some _ (Heap.get?_push_of_some _ (Heap.get?_push_of_some _ (Heap.get?_push_of_some _ (Heap.get?_push_size _ B1.free))))
  have g2 : (zsZ s.heap o1 o2).get? (s.heap.push o1).objs.size = some o2 := Heap.get?_push_of_some _ (Heap.get?_push_of_some _ (Heap.get?_push_of_some _ (Heap.get?_push_size _ B2.free)))
  rw [zO, zT, z2] at gZ
  rw [zT] at gO
  rw [z2, z1] at gT
  rw [z1] at g2
  show _ ∧ _
  rw [zO]
  exact ⟨⟨_, gZ, rfl⟩, h _ gZ gT gO g1 g2 zZ fun c o x => Heap.get?_push_of_some _ (Heap.get?_push_of_some _ (Heap.get?_push_of_some _ (Heap.get?_push_of_some _ (Heap.get?_push_of_some _ x))))⟩
end

/-- what is walked: a text, a list, a tuple -/
inductive Zk where
  | txt (x : Str) | lst (l : Addr) | tup (l : Addr)
def Zk.v : Zk → V
  | .txt x => .str x
  | .lst l => .ref l
  | .tup l => .ref l
def Zk.cell : Zk → List Addr
  | .txt _ => []
  | .lst l => [l]
  | .tup l => [l]
def Zk.at (k : Zk) (it : Addr) (i : Nat) (h : Heap) : Prop := match k with
  | .txt x => ∃ t, h.IsStrIter it (strIterType x) x t i
  | .lst l => h.IsListIter it l i
  | .tup l => h.IsTupleIter it l i
/-- its items -/
def Zk.src (K : PySem.W.Frag) (H : Hp) : Zk → List V → Prop
  | .txt x, xs => xs = x.cps.toList.map fun c => V.str ⟨#[c]⟩
  | .lst l, xs => SqL K H l xs
  | .tup l, xs => SqT K H l xs
theorem Zk.at_keep {k : Zk} {it : Addr} {i : Nat} {h h' : Heap} (a : k.at it i h) (e : ∀ o, h.get? it = some o → h'.get? it = some o) : k.at it i h' := by
  cases k with
  | txt x => obtain ⟨t, o, e1, c1, d1⟩ := a; exact ⟨t, o, e _ e1, c1, d1⟩
  | lst l => exact Heap.IsListIter.at a e
  | tup l => exact Heap.IsTupleIter.at a e
theorem Zk.at_obj {k : Zk} {it : Addr} {i : Nat} {h : Heap} (a : k.at it i h) : ∃ o, h.get? it = some o ∧ ∀ v, o.data ≠ .cell v := by
  cases k with
  | txt x => obtain ⟨t, o, e, _, d⟩ := a; exact ⟨o, e, fun v q => by rw [d] at q; cases q⟩
  | lst l => obtain ⟨o, e, _, d⟩ := a; exact ⟨o, e, fun v q => by rw [d] at q; cases q⟩
  | tup l => obtain ⟨o, e, _, d⟩ := a; exact ⟨o, e, fun v q => by rw [d] at q; cases q⟩
theorem vals_back : ∀ {xs : List V} {us : List Value} {i : Nat} {u : Value}, Vals xs us → us[i]? = some u → ∃ x, xs[i]? = some x ∧ RelV x u
  | _, _, _, _, .nil, e => by simp at e
  | _, _, 0, _, .cons r _, e => by simp at e; subst e; exact ⟨_, rfl, r⟩
  | _, _, i + 1, u, .cons _ t, e => by
    obtain ⟨x, h1, h2⟩ := vals_back (i := i) (u := u) t (by simpa using e)
    exact ⟨x, by simpa using h1, h2⟩
theorem draws_map {prog : Program} {w : World} {A : Around} {it : Addr} {fp : List Addr} {n m : Nat} {P P' : Nat → Value → Prop} {St : Nat → Heap → Prop} (D : Draws prog w A it fp n P St) (hp : ∀ i v, P i v → P' i v) (e : n = m) : Draws prog w A it fp m P' St := by
  subst e
  exact ⟨D.live, D.frame, fun i s Q E hi st hQ => D.item i s Q E hi st fun x h' tk p st' sb => hQ x h' tk (hp i x p) st' sb, D.done⟩
/-- what it draws, as things stand -/
theorem Zk.draws {X : Cx} {pins : List (Addr × Obj)} {σ : L2.St} {H : Hp} {s : Shared} {A : Around} {k : Zk} {it : Addr} {i : Nat} {xs : List V} (hh : A.handled = none) (I : Inv X pins σ H s) (hs : k.src X.K H xs) (a : k.at it i s.heap) (hne : it ∉ k.cell) :
    ∃ St : Nat → Heap → Prop, Draws X.prog X.w A it (it :: k.cell) xs.length (fun j v => ∃ x, xs[j]? = some x ∧ RelV x v) St ∧ (∀ j h, St j h → k.at it j h) ∧ St i s.heap := by
  cases k with
  | txt x =>
    obtain ⟨t, a⟩ := a
    have e : xs = x.cps.toList.map fun c => V.str ⟨#[c]⟩ := hs
    refine ⟨_, draws_map (Draws.text hh it x t) (fun j v ⟨c, u, hc, hv⟩ => ⟨.str ⟨#[c]⟩, ?_, u, hv⟩) ?_, fun j h st => ⟨t, st⟩, a⟩
    · rw [e, List.getElem?_map]
      have : x.cps.toList[j]? = some c := by simpa using hc
      rw [this]; rfl
    · rw [e]; simp
  | lst l =>
    obtain ⟨its, r, p, _⟩ := I.list hs
    have hl : l ≠ it := fun q => hne (by simp [Zk.cell, q])
    refine ⟨_, draws_map (Draws.list hh it l hl its.toArray) (fun j v hv => vals_back r (by simpa using hv)) ?_, fun j h st => st.1, ⟨a, p.isList⟩⟩
    have := r.length
    simp; omega
  | tup l =>
    obtain ⟨its, r, p, _⟩ := I.tuple hs
    have hl : l ≠ it := fun q => hne (by simp [Zk.cell, q])
    refine ⟨_, draws_map (Draws.tuple hh it l hl its.toArray) (fun j v hv => vals_back r (by simpa using hv)) ?_, fun j h st => st.1, ⟨a, p⟩⟩
    have := r.length
    simp; omega
/-- the two as they stand at each turn, the items in new pairs; at the end both have ended -/
def ItzS (K : PySem.W.Frag) (k1 k2 : Zk) : It :=
  ⟨fun i H => ∃ (xs ys : List V) (x y : V), k1.src K H xs ∧ k2.src K H ys ∧ xs[i]? = some x ∧ ys[i]? = some y,
    fun i H v H' => ∃ T x y, v = .ref T ∧ H T = none ∧ H' = upd H T (.tup [x, y]) ∧ (∀ xs, k1.src K H xs → xs[i]? = some x) ∧ ∀ ys, k2.src K H ys → ys[i]? = some y,
    fun i H => ∃ xs ys : List V, k1.src K H xs ∧ k2.src K H ys ∧ xs.length = i ∧ ys.length = i⟩
theorem Zk.inj {X : Cx} {pins : List (Addr × Obj)} {σ : L2.St} {H : Hp} {s : Shared} {k : Zk} {xs ys : List V} (I : Inv X pins σ H s) (h1 : k.src X.K H xs) (h2 : k.src X.K H ys) : xs = ys := by
  cases k with
  | txt x => exact (show xs = _ from h1).trans (show ys = _ from h2).symm
  | lst l => exact I.list_inj h1 h2
  | tup l => exact I.tuple_inj h1 h2
theorem Zk.lt {X : Cx} {pins : List (Addr × Obj)} {σ : L2.St} {H : Hp} {s : Shared} {k : Zk} {xs : List V} (I : Inv X pins σ H s) (h : k.src X.K H xs) : ∀ c ∈ k.cell, c < s.heap.objs.size := by
  intro c hc
  cases k with
  | txt x => simp [Zk.cell] at hc
  | lst l =>
    obtain ⟨its, r, p, _⟩ := I.list h
    have : c = l := by simpa [Zk.cell] using hc
    subst this
    exact p.lt
  | tup l =>
    obtain ⟨its, r, p, _⟩ := I.tuple h
    have : c = l := by simpa [Zk.cell] using hc
    subst this
    exact p.lt
structure ZApart (z TI TO i1 i2 : Addr) (k1 k2 : Zk) : Prop where
  TIz : TI ≠ z
  TOz : TO ≠ z
  TITO : TI ≠ TO
  TIi1 : TI ≠ i1
  TIi2 : TI ≠ i2
  zi1 : z ≠ i1
  zi2 : z ≠ i2
  Ti1 : TO ≠ i1
  Ti2 : TO ≠ i2
  i12 : i1 ≠ i2
  c1 : ∀ c ∈ k1.cell, c ≠ z ∧ c ≠ TO ∧ c ≠ i1 ∧ c ≠ i2
  c2 : ∀ c ∈ k2.cell, c ≠ z ∧ c ≠ TO ∧ c ≠ i1 ∧ c ≠ i2
theorem ZApart.sep {z TI TO i1 i2 : Addr} {k1 k2 : Zk} (D : ZApart z TI TO i1 i2 k1 k2) : ZipSep2 z TI TO i1 i2 (i1 :: k1.cell) (i2 :: k2.cell) where
  TIz := D.TIz
  TOz := D.TOz
  TITO := D.TITO
  TIi1 := D.TIi1
  mem1 := List.mem_cons_self ..
  zf1 := fun h => (List.mem_cons.mp h).elim D.zi1 fun q => (D.c1 _ q).1 rfl
  Tf1 := fun h => (List.mem_cons.mp h).elim D.Ti1 fun q => (D.c1 _ q).2.1 rfl
  TIi2 := D.TIi2
  mem2 := List.mem_cons_self ..
  zf2 := fun h => (List.mem_cons.mp h).elim D.zi2 fun q => (D.c2 _ q).1 rfl
  Tf2 := fun h => (List.mem_cons.mp h).elim D.Ti2 fun q => (D.c2 _ q).2.1 rfl
  sep1_2 := fun h => (List.mem_cons.mp h).elim D.i12 fun q => (D.c2 _ q).2.2.1 rfl
  sep2_1 := fun h => (List.mem_cons.mp h).elim D.i12.symm fun q => (D.c1 _ q).2.2.2 rfl
theorem turn_zipS {P : Program} {w : World} {K : PySem.W.Frag} {elts : List Expr} {kk : Nat} {tpos : Pos} {k1 k2 : Zk} {z TI TO i1 i2 : Addr} (D : ZApart z TI TO i1 i2 k1 k2) :
    Turn P w K (.Tuple elts kk tpos) (ItzS K k1 k2) [z, TI, TO, i1, i2] z (fun i h => ZipS h z TI TO .none ∧ IsTupOf2 h TI (.ref i1) (.ref i2) ∧ (∃ x y, IsTupOf2 h TO x y) ∧ k1.at i1 i h ∧ k2.at i2 i h) where
  mem := by simp
  obj := fun i h st c hc => by
    obtain ⟨hz, hTI, ⟨x, y, hTO⟩, a1, a2⟩ := st
    have e' : c = z ∨ c = TI ∨ c = TO ∨ c = i1 ∨ c = i2 := by simpa using hc
    rcases e' with q | q | q | q | q
    · rw [q]; exact ⟨_, hz, fun v q => nomatch q⟩
    · rw [q]; exact ⟨_, hTI, fun v q => nomatch q⟩
    · rw [q]; exact ⟨_, hTO, fun v q => nomatch q⟩
    · rw [q]; exact (Zk.at_obj a1)
    · rw [q]; exact (Zk.at_obj a2)
  keep := fun i h h' st k => by
    obtain ⟨hz, hTI, ⟨x, y, hTO⟩, a1, a2⟩ := st
    exact ⟨k z (by simp) _ hz, k TI (by simp) _ hTI, ⟨x, y, k TO (by simp) _ hTO⟩, Zk.at_keep a1 fun o q => k i1 (by simp) o q, Zk.at_keep a2 fun o q => k i2 (by simp) o q⟩
  item := by
    intro X hP hw hK hc i pins s σ H E I hf st hg
    subst hP hw hK
    obtain ⟨hz, hTI, ⟨x0, y0, hTO⟩, a1, a2⟩ := st
    obtain ⟨xs, ys, x, y, hqx, hqy, hx, hy⟩ := hg
    have hd : X.A.in1.handled = none := I.ok.hd hc
    have n1 : i1 ∉ k1.cell := fun q => (D.c1 _ q).2.2.1 rfl
    have n2 : i2 ∉ k2.cell := fun q => (D.c2 _ q).2.2.2 rfl
    obtain ⟨S1, D1, t1, st1⟩ := Zk.draws hd I hqx a1 n1
    obtain ⟨S2, D2, t2, st2⟩ := Zk.draws hd I hqy a2 n2
    have hlx : i < xs.length := (List.getElem?_eq_some_iff.mp hx).1
    have hly : i < ys.length := (List.getElem?_eq_some_iff.mp hy).1
    have hzl : z < s.heap.objs.size := Heap.lt_size hz
    refine pyNext_zipS_item D.sep D1 D2 hz hTI hTO st1 st2 hlx hly fun u u2 h' tk p1 p2 z' TO' s1' s2' hT hsz hk => ?_
    obtain ⟨x', hx', ru⟩ := p1
    obtain ⟨y', hy', ru2⟩ := p2
    have ex : x' = x := Option.some.inj (hx'.symm.trans hx)
    have ey : y' = y := Option.some.inj (hy'.symm.trans hy)
    subst ex ey
    refine ⟨_, rfl, letGo_zipS (s := { s with heap := h', toks := tk }) z' fun h'' z'' sb => ?_⟩
    have hT2 : h''.get? s.heap.objs.size = some { cls := .type "tuple", data := .seq #[u, u2] } := (sb.2 _ (Nat.ne_of_gt hzl)).trans hT
    have new : ObjOk X.prog X.w (upd H s.heap.objs.size (.tup [x', y'])) h'' s.heap.objs.size (.tup [x', y']) :=
      ⟨by show 2 ≤ sizeLine; decide, [u, u2], .cons ru (.cons ru2 .nil), ⟨_, hT2, rfl, _, rfl⟩⟩
    have I1 : Inv X pins σ (upd H s.heap.objs.size (.tup [x', y'])) { s with heap := h'', toks := tk } :=
      I.turnedNew (t' := tk) (ch := [z, TI, TO, i1, i2]) (fun c o hb q => (sb.2 c (fun q' => hb (by simp [q']))).trans (hk c o (fun q' => hb (by simp [q'])) (fun q' => hb (by simp [q'])) (fun q' => hb (by simp [q'])) (fun q' => hb (by simp [q'])) q)) hf (Nat.le_refl _) new
    refine ⟨.ref s.heap.objs.size, _, I1, rfl, ⟨_, x', y', rfl, I.hok.fresh (Nat.le_refl _), rfl, fun l hl => by have e := Zk.inj (k := k1) I hl hqx; subst e; exact hx, fun l hl => by have e := Zk.inj (k := k2) I hl hqy; subst e; exact hy⟩, ⟨z'', ?_, ⟨u, u2, ?_⟩, ?_, ?_⟩, fun c hcm => ?_⟩
    · exact (sb.2 _ D.TIz).trans (hk _ _ D.TIz D.TITO D.TIi1 D.TIi2 hTI)
    · exact (sb.2 _ D.TOz).trans TO'
    · exact Zk.at_keep (t1 _ _ s1') fun o q => (sb.2 _ D.zi1.symm).trans q
    · exact Zk.at_keep (t2 _ _ s2') fun o q => (sb.2 _ D.zi2.symm).trans q
    · have hlt : c < s.heap.objs.size := by
        have e' : c = z ∨ c = TI ∨ c = TO ∨ c = i1 ∨ c = i2 := by simpa using hcm
        rcases e' with q | q | q | q | q
        · rw [q]; exact hzl
        · rw [q]; exact Heap.lt_size hTI
        · rw [q]; exact Heap.lt_size hTO
        · rw [q]; obtain ⟨_, e1, _⟩ := (Zk.at_obj a1); exact Heap.lt_size e1
        · rw [q]; obtain ⟨_, e1, _⟩ := (Zk.at_obj a2); exact Heap.lt_size e1
      rw [upd_ne (Nat.ne_of_lt hlt)]
      exact (hf c hcm).1
  done := by
    intro X hP hw hK hc i pins s σ H E I hf st hg
    subst hP hw hK
    obtain ⟨hz, hTI, ⟨x0, y0, hTO⟩, a1, a2⟩ := st
    obtain ⟨xs, ys, hqx, hqy, ex, ey⟩ := hg
    have hd : X.A.in1.handled = none := I.ok.hd hc
    have n1 : i1 ∉ k1.cell := fun q => (D.c1 _ q).2.2.1 rfl
    have n2 : i2 ∉ k2.cell := fun q => (D.c2 _ q).2.2.2 rfl
    obtain ⟨S1, D1, t1, st1⟩ := Zk.draws hd I hqx a1 n1
    obtain ⟨S2, D2, t2, st2⟩ := Zk.draws hd I hqy a2 n2
    rw [ex] at D1
    rw [ey] at D2
    exact pyNext_zipS_end (I.ok.hd hc) D.sep D1 D2 hz hTI hTO st1 st2 fun h' hk => ⟨rfl, I.turnedL (t' := s.toks) (ch := [z, TI, TO, i1, i2]) (fun c o hb q =>
      hk c o (fun q' => hb (by simp [q'])) (fun q' => hb (by simp [q'])) (fun q' => hb (by simp [q'])) (fun q' => hb (by simp [q'])) q) hf⟩
  self := fun A i s Q E st h => pyIter_zipS st.1 h
end LmZ
set_option Elab.async false
set_option linter.all false
set_option maxRecDepth 100000
set_option maxHeartbeats 2000000
namespace LmZ
open PySem PySem.Spec PyProof.Rows L2
section
variable {M : Model} {A : Around} {E : Value → Shared → Prop} {s : Shared} {env : Env}
theorem callWith_type_kwB {pos : Pos} {id : String} {first : List Value} {args : List (Bool × Sem Value)} {keywords : List (Option Str × Sem Value)} {Q : Value → Shared → Prop}
    (hplain : args.any (·.1) = false) (hkw : keywords.any (·.1.isNone) = false)
    (h : wpAny M A (evalArgs (.type id) true args keywords) (fun a s₁ => wpAny M A (call (.type id) (first ++ a.pos) a.kw) Q E s₁) E s) :
    wpAny M A (callWith pos (.type id) first args keywords) Q E s := by
  unfold callWith
  refine wpAny_bind (wpAny_holding (wpAny_mono h (fun a s₁ h₁ => wpAny_bind (wpAny_standAt ?_)) fun _ _ x => x))
  simp only [hplain, hkw, Bool.or_false]
  refine wpAny_bind (wpAny_pure ?_)
  exact wpAny_bind (wpAny_mono h₁ (fun r s₂ hr => wpAny_bind (wpAny_holding (wpAny_point (wpAny_pure hr)))) fun _ _ x => x)
theorem callWith_type_kw {pos : Pos} {id : String} {e : Expr} {rest : List Expr} {kws : List Keyword} {Q : Value → Shared → Prop}
    (h : wpAny M A (spliced (backTo pos (starEach (e :: rest) env))) (fun vs s₁ => wpAny M A (evalAll ((backToKw pos (keywordEach kws env)).map (·.2)))
      (fun kvs s₂ => wpAny M A (call (.type id) vs (((backToKw pos (keywordEach kws env)).filterMap (·.1)).zip kvs)) Q E s₂) E s₁) E s)
    (he : backTo pos (starEach (e :: rest) env) = (false, eval e env) :: backTo pos (starEach rest env) := by rfl)
    (hplain : (backTo pos (starEach (e :: rest) env)).any (·.1) = false := by rfl)
    (hall : (backToKw pos (keywordEach kws env)).all (·.1.isSome) = true := by rfl)
    (hkw : (backToKw pos (keywordEach kws env)).any (·.1.isNone) = false := by rfl) :
    wpAny M A (callWith pos (.type id) [] (backTo pos (starEach (e :: rest) env)) (backToKw pos (keywordEach kws env))) Q E s := by
  refine callWith_type_kwB hplain hkw ?_
  rw [he] at h ⊢
  exact evalArgs_kwB hall h
end
theorem Zk.opens {X : Cx} {pins : List (Addr × Obj)} {σ : L2.St} {H : Hp} {s : Shared} {k : Zk} {xs : List V} {u : Value} (I : Inv X pins σ H s) (hs : k.src X.K H xs) (r : RelV k.v u) :
    ∃ (o : Obj) (HH : Heap → Prop), Begins u o HH ∧ HH s.heap ∧ ∀ it (h' : Heap), h'.get? it = some o → k.at it 0 h' := by
  cases k with
  | txt x =>
    obtain ⟨t, rfl⟩ := r
    exact ⟨_, _, begins_text x t, trivial, fun it h' e => ⟨_, _, e, rfl, rfl⟩⟩
  | lst l =>
    cases r
    obtain ⟨its, rv, p, _⟩ := I.list hs
    exact ⟨_, _, begins_list l its.toArray, p.isList, fun it h' e => ⟨_, e, rfl, rfl⟩⟩
  | tup l =>
    cases r
    obtain ⟨its, rv, p, _⟩ := I.tuple hs
    exact ⟨_, _, begins_tuple l its.toArray, p, fun it h' e => ⟨_, e, rfl, rfl⟩⟩
def iZipS (K : PySem.W.Frag) (ta : TA) : TI := fun σ H R => ta σ H fun vs H1 => ∃ k1 k2 xs ys, vs = [Zk.v k1, Zk.v k2] ∧ k1.src K H1 xs ∧ k2.src K H1 ys ∧ R (ItzS K k1 k2) H1
theorem nlt4 {c n : Nat} (h : c < n) : c ≠ n + 4 ∧ c ≠ n + 3 ∧ c ≠ n ∧ c ≠ n + 1 := by omega
theorem zapart (n : Nat) {k1 k2 : Zk} (l1 : ∀ c ∈ k1.cell, c < n) (l2 : ∀ c ∈ k2.cell, c < n) : ZApart (n + 4) (n + 2) (n + 3) n (n + 1) k1 k2 where
  TIz := by show (n + 2 : Nat) ≠ n + 4; omega
  TOz := by show (n + 3 : Nat) ≠ n + 4; omega
  TITO := by show (n + 2 : Nat) ≠ n + 3; omega
  TIi1 := by show (n + 2 : Nat) ≠ n; omega
  TIi2 := by show (n + 2 : Nat) ≠ n + 1; omega
  zi1 := by show (n + 4 : Nat) ≠ n; omega
  zi2 := by show (n + 4 : Nat) ≠ n + 1; omega
  Ti1 := by show (n + 3 : Nat) ≠ n; omega
  Ti2 := by show (n + 3 : Nat) ≠ n + 1; omega
  i12 := by show (n : Nat) ≠ n + 1; omega
  c1 := fun c hc => nlt4 (l1 c hc)
  c2 := fun c hc => nlt4 (l2 c hc)
theorem pi_zipS {X : Cx} {e e2 : Expr} {ta : TA} {p pos tpos p1 p2 : Pos} {elts : List Expr} {kk ck : Nat} (hg : Gl X "zip") (hm : X.mg "zip" = none) (ha : PA X [e, e2] ta)
    (hs : starEach [e, e2] X.env = (false, eval e X.env) :: starEach [e2] X.env := by rfl) (hpl : (backTo pos (starEach [e2] X.env)).any (·.1) = false := by rfl)
    (he : backTo pos (starEach [e, e2] X.env) = (false, eval e X.env) :: backTo pos (starEach [e2] X.env) := by rfl) (hpl2 : (backTo pos (starEach [e, e2] X.env)).any (·.1) = false := by rfl) :
    PI X (.Tuple elts kk tpos) (.Call (.Name "zip" p) [e, e2] [⟨some "strict", .Constant (.bool true) ck p1, p2⟩] pos) (iZipS X.K ta) := by
  refine ⟨fun pins s σ H R I h => ?_⟩
  refine wpAny_Call_Name_kw (ld_blt I hg hm PyProof.Rows.boot_zip ?_)
  refine callWith_type_kw (thn (ha.run pos pins s σ H _ I h) fun us s1 ⟨vs, H1, I1, r1, q1⟩ => kws_cons (Constant_bool (kws_nil ?_))) he hpl2
  obtain ⟨k1, k2, xs, ys, ex, hqx, hqy, q⟩ := q1
  subst ex
  cases r1 with
  | cons r rr =>
    cases rr with
    | cons r' rr =>
      cases rr
      obtain ⟨o1, HH1, B1, b1, at1⟩ := Zk.opens I1 hqx r
      obtain ⟨o2, HH2, B2, b2, at2⟩ := Zk.opens I1 hqy r'
      have l1 := Zk.lt I1 hqx
      have l2 := Zk.lt I1 hqy
      refine zipS_begins B1 B2 b1 b2 fun h' hz hTI hTO h1 h2 hsz hk => pyIter_zipS hz ?_
      have I2 : Inv X pins σ H1 { s1 with heap := h' } := I1.kept (t' := s1.toks) hk
      have D := zapart s1.heap.objs.size l1 l2
      refine ⟨s1.heap.objs.size + 4, [s1.heap.objs.size + 4, s1.heap.objs.size + 2, s1.heap.objs.size + 3, s1.heap.objs.size, s1.heap.objs.size + 1], _, _, H1, rfl, I2, turn_zipS D, ⟨hz, hTI, ⟨_, _, hTO⟩, at1 _ _ h1, at2 _ _ h2⟩, fun c hcm => ?_, q⟩
      have e' : c = s1.heap.objs.size + 4 ∨ c = s1.heap.objs.size + 2 ∨ c = s1.heap.objs.size + 3 ∨ c = s1.heap.objs.size ∨ c = s1.heap.objs.size + 1 := by simpa using hcm
      have hle : s1.heap.objs.size ≤ c := by
        rcases e' with z | z | z | z | z
        · rw [z]; exact Nat.le_add_right _ _
        · rw [z]; exact Nat.le_add_right _ _
        · rw [z]; exact Nat.le_add_right _ _
        · rw [z]; exact Nat.le_refl _
        · rw [z]; exact Nat.le_add_right _ _
      exact I1.fpOk hle (I1.hok.fresh hle)
end LmZ
set_option Elab.async false
set_option linter.all false
set_option maxRecDepth 100000
set_option maxHeartbeats 2000000
namespace LmS
open PySem PySem.Spec PyProof.Rows L2 LamX
/-- one parameter, one captured name -/
structure Lam1 (sc scope : Scope) (par cap : Str) : Prop where
  kind : scope.kind = .function
  co : scope.isCoroutine = false
  gen : scope.isGenerator = false
  nocell : ∀ y ∈ scope.names, y.2 ≠ .cell
  par_ : scope.names.lookup par = some .local
  cap_ : scope.names.lookup cap = some .free
  outer : sc.names.lookup cap = some .cell
  free : ∀ y ∈ scope.names, y.2 = .free → sc.names.lookup y.1 = some .cell ∨ sc.names.lookup y.1 = some .free
def lam1B (sc scope : Scope) (par cap : Str) : Bool :=
  decide (scope.kind = .function) && !scope.isCoroutine && !scope.isGenerator && scope.names.all (fun y => !decide (y.2 = .cell) && (!decide (y.2 = .free) || decide (sc.names.lookup y.1 = some .cell) || decide (sc.names.lookup y.1 = some .free)))
    && decide (scope.names.lookup par = some .local) && decide (scope.names.lookup cap = some .free) && decide (sc.names.lookup cap = some .cell)
theorem lam1_by {sc scope : Scope} {par cap : Str} (h : lam1B sc scope par cap = true) : Lam1 sc scope par cap := by
  unfold lam1B at h
  simp only [Bool.and_eq_true, Bool.or_eq_true, Bool.not_eq_true', decide_eq_true_eq, decide_eq_false_iff_not, List.all_eq_true] at h
  obtain ⟨⟨⟨⟨⟨⟨h1, h2⟩, h3⟩, h4⟩, h5⟩, h6⟩, h7⟩ := h
  refine ⟨h1, h2, h3, fun y hy => (h4 y hy).1, h5, h6, h7, fun y hy e => ?_⟩
  rcases (h4 y hy).2 with (z | z) | z
  · exact absurd e z
  · exact .inl z
  · exact .inr z
section
variable {X : Cx} {pins : List (Addr × Obj)} {σ : L2.St} {H : Hp} {s : Shared}
/-- as things stand in a heap that keeps all but the frame -/
theorem inv_turn {h : Heap} {tk : Nat} {m : Str → Option Value} {own : List (Addr × Obj)} (I : Inv X pins σ H s) (hm : s.heap.Ns X.env.locals m) (F : Fr X.base X.env.locals h m) (N : News X.base X.env.locals h (allNews X.base s.heap X.env.locals ++ own)) :
    Inv X pins σ H { s with heap := h, toks := tk } := by
  have kp : ∀ b o, b ≠ X.env.locals → s.heap.get? b = some o → h.get? b = some o := fun b o hb e => by
    cases q : X.base.get? b with
    | some u =>
      have := I.bk b u q
      rw [e] at this; cases this
      exact F.keep b _ q
    | none => exact (N (b, o) (List.mem_append_left _ (mem_allNews hb q e))).1
  have nl : ∀ b u, H b = some u → b ≠ X.env.locals := fun b u e z => by rw [z, I.free] at e; cases e
  have hL : ∃ o', h.get? X.env.locals = some o' := by
    obtain ⟨o, _, _, e, _⟩ := F.ns
    exact ⟨o, e⟩
  refine I.step (g' := s.gens) (d' := s.drawn) (ch := []) (fun b hb => absurd hb (by simp)) (fun b o hb _ _ e n => kp b o hb e) (fun b o hb _ _ e n => ⟨o.slots, kp b o hb e⟩)
    (fun b o _ _ n => n) (fun b o _ e => ?_) (fun b xs e => e) (fun b o u e => e) (fun b ps e => ⟨#[], by rw [e]; simp⟩) (fun m' hn' => ?_) (fun b u e => ?_) I.bare
  · by_cases hb : b = X.env.locals
    · rw [hb]; exact hL
    · exact ⟨o, kp b o hb e⟩
  · have e : m' = m := funext (Heap.Ns.agree hn' hm)
    rw [e]
    exact F.ns
  · refine (I.hok b u e).stay (fun d v hd q => kp d v ?_ q) (fun d q => q) fun d xs q => q
    rcases hd with z | z
    · rw [z]; exact nl b u e
    · exact nl d _ z

theorem turn_keep {h : Heap} {m : Str → Option Value} {own : List (Addr × Obj)} (I : Inv X pins σ H s) (F : Fr X.base X.env.locals h m) (N : News X.base X.env.locals h own) (hs : ∀ p ∈ allNews X.base s.heap X.env.locals, p ∈ own) :
    ∀ b o, b ≠ X.env.locals → s.heap.get? b = some o → h.get? b = some o := fun b o hb e => by
  cases q : X.base.get? b with
  | some u =>
    have := I.bk b u q
    rw [e] at this; cases this
    exact F.keep b _ q
  | none => exact (N (b, o) (hs _ (mem_allNews hb q e))).1
theorem objOk_there {P : Program} {w : World} {h : Heap} {a : Addr} : ∀ {o : HO}, ObjOk P w H h a o → ∃ u, h.get? a = some u
  | .lst xs, x => let ⟨_, _, _, _, e⟩ := x; ⟨_, e⟩
  | .tup xs, x => let ⟨_, _, _, ⟨_, e, _⟩⟩ := x; ⟨_, e⟩
  | .dK kvs, x => let ⟨_, _, _, _, _, _, _, e, _⟩ := x; ⟨_, e⟩
  | .dT kvs, x => let ⟨_, _, _, _, o, _, _, e, _⟩ := x; ⟨_, e⟩
  | .set S n, x => let ⟨_, _, _, _, e, _⟩ := x; ⟨_, e⟩
  | .ins C dx fs, x => let ⟨_, _, _, e, _⟩ := x; ⟨_, e⟩
  | .own y, x => x
  | .xd fs, x => let ⟨_, ⟨_, _, _, e, _⟩, _⟩ := x; ⟨_, e⟩
  | .rng lo hi, x => let ⟨_, _, _, e⟩ := x; ⟨_, e⟩
  | .frz ob u, x => let ⟨e, _⟩ := x; ⟨_, e⟩
  | .tbl ps, x => ⟨_, x⟩
  | .met f y, x => ⟨_, x⟩
  | .ext φ, x => x.2.1
/-- and one new list at D -/
theorem inv_turnD {h : Heap} {tk : Nat} {m : Str → Option Value} {D : Addr} {xs : List V} {out : Array Value} {n : Nat} (I : Inv X pins σ H s) (hm : s.heap.Ns X.env.locals m) (F : Fr X.base X.env.locals h m)
    (N : News X.base X.env.locals h ((D, seqObj "list" out n) :: allNews X.base s.heap X.env.locals)) (hD : s.heap.get? D = none) (r : Vals xs out.toList) (hz : xs.length ≤ sizeLine) :
    H D = none ∧ Inv X pins σ (upd H D (.lst xs)) { s with heap := h, toks := tk } := by
  have kp := turn_keep I F N fun p hp => List.mem_cons_of_mem _ hp
  have hDn : H D = none := by
    cases q : H D with
    | none => rfl
    | some o =>
      have hlt := (I.hok D o q).lt
      have e := Heap.get?_none_of_le (h := s.heap) (a := D)
      exact absurd hD (fun z => by
        obtain ⟨o', e'⟩ := objOk_there (I.hok D o q)
        rw [z] at e'; cases e')
  have ne : ∀ b u, H b = some u → b ≠ D := fun b u e z => by rw [z, hDn] at e; cases e
  have nl : ∀ b u, H b = some u → b ≠ X.env.locals := fun b u e z => by rw [z, I.free] at e; cases e
  have hL : ∃ o', h.get? X.env.locals = some o' := by
    obtain ⟨o, _, _, e, _⟩ := F.ns
    exact ⟨o, e⟩
  refine ⟨hDn, I.step (g' := s.gens) (d' := s.drawn) (ch := []) (fun b hb => absurd hb (by simp)) (fun b o hb _ _ e n => kp b o hb e) (fun b o hb _ _ e n => ⟨o.slots, kp b o hb e⟩)
    (fun b o _ e n => ?_) (fun b o _ e => ?_) (fun b xs e => ?_) (fun b o u e => ?_) (fun b ps e => ⟨#[], ?_⟩) (fun m' hn' => ?_) (fun b u e => ?_) I.bare⟩
  · have : b ≠ D := fun z => by rw [z, hD] at e; cases e
    rw [upd_ne this]; exact n
  · by_cases hb : b = X.env.locals
    · rw [hb]; exact hL
    · exact ⟨o, kp b o hb e⟩
  · rw [upd_ne (ne _ _ e)]; exact e
  · rw [upd_ne (ne _ _ e)]; exact e
  · rw [upd_ne (ne _ _ e), e]; simp
  · have e : m' = m := funext (Heap.Ns.agree hn' hm)
    rw [e]
    exact F.ns
  · by_cases hb : b = D
    · rw [hb, upd_same] at e
      cases e
      rw [hb]
      refine ⟨hz, out.toList, n, r, ?_⟩
      have := (N (D, seqObj "list" out n) (.head _)).1
      rw [Array.toArray_toList]
      exact this
    · rw [upd_ne hb] at e
      refine (I.hok b u e).stay (fun d v hd q => kp d v ?_ q) (fun d q => by rw [upd_ne (ne _ _ q)]; exact q) fun d xs q => by rw [upd_ne (ne _ _ q)]; exact q
      rcases hd with z | z
      · rw [z]; exact nl b u e
      · exact nl d _ z
/-- one turn of the key: self.F[number][0] -/
theorem key_turn {P : Program} {w : World} {A : Around} {h : Heap} {tk : Nat} {m : Str → Option Value} {news : List (Addr × Obj)} {scope : Scope} {params : Arguments} {par cap F : Str} {f c' : Addr} {pm ctv v : Value} {C dx a l t : Addr} {fs : List (Str × V)} {items : List V} {n k : Int} {rest : List V} {j : Nat} {p1 p2 p3 p4 p5 p6 : Pos}
    (I : Inv X pins σ H { s with heap := h, toks := tk }) (L : Lam1 X.env.scope scope par cap) (Fr0 : Fr X.base X.env.locals h m) (N0 : News X.base X.env.locals h news)
    (hro : A.depth < recursionLimit) (hP : X.prog = P) (hw : X.w = w)
    (hf : h.get? f = some (PySem.W.kla_obj "<lambda>" (X.env.qual ++ "<lambda>") params (.Subscript (.Subscript (.Attribute (.Name cap p1) F p2) (.Name par p3) p4) (.Constant (.int 0) j p5) p6) scope (cloFrom X.env.cells scope.names []) pm c' ctv))
    (hco : H c' = some (CodeO c' (X.env.qual ++ "<lambda>")))
    (hbind : bindArgs (PySem.W.kla_fn "<lambda>" (X.env.qual ++ "<lambda>") params (.Subscript (.Subscript (.Attribute (.Name cap p1) F p2) (.Name par p3) p4) (.Constant (.int 0) j p5) p6) scope (cloFrom X.env.cells scope.names []) pm (.ref c') ctv) ⟨[v], []⟩ = pure [(par, v)])
    (hv : RelV (.int n) v) (hself : ∃ i : Nat, X.N[i]? = some cap ∧ σ[i]? = some (some (V.ref a)))
    (ha : H a = some (.ins C dx fs)) (hc : Cls X.K C) (hn : NoAttr X.K C F) (hl : fs.lookup F = some (.ref l)) (hi : SqL X.K H l items) (hn0 : 0 ≤ n) (hit : items[n.toNat]? = some (.ref t)) (ht : SqT X.K H t (.int k :: rest))
    (hd1 : (cap == ("__debug__" : Str)) = false) (hd2 : (cap == ("__classdict__" : Str)) = false) (hd3 : (par == ("__debug__" : Str)) = false)
    : wpAny (model P w) A (call (.ref f) [v]) (KskEnd X.base X.env.locals m news k { s with heap := h, toks := tk }) (fun _ _ => False) { s with heap := h, toks := tk } := by
  subst hP hw
  obtain ⟨⟨oc, vs, tq, hoc, hdc, hvc⟩, _, _⟩ := I.hok c' _ hco
  have hfree : ∀ y ∈ scope.names, y.2 = .free → ∃ c, X.env.cells.lookup y.1 = some c := fun y hy e => by
    rcases L.free y hy e with k | k
    · exact I.ok.has _ (.inl k)
    · exact I.ok.has _ (.inr k)
  have cm : ∀ {y c}, (cloFrom X.env.cells scope.names []).lookup y = some c → X.env.cells.lookup y = some c := fun {y c} e => by
    rcases cloFrom_mem (PySem.mem_of_lookup e) with hm | ⟨h1, h2⟩
    · cases hm
    · obtain ⟨c1, hc⟩ := hfree _ h1 rfl
      have hc : X.env.cells.lookup y = some c1 := hc
      have e2 : c = c1 := by
        rw [h2, hc] <;> rfl
      rw [e2]
      exact hc
  have hcell : ∃ c, (cloFrom X.env.cells scope.names []).lookup cap = some c ∧ h.IsCell c (some (.ref a)) := by
    have hy : (cap, NameKind.free) ∈ scope.names := PySem.mem_of_lookup L.cap_
    obtain ⟨c, h1⟩ := mem_lookup (cloFrom_has (cells := X.env.cells) (acc := []) hy)
    refine ⟨c, h1, ?_⟩
    obtain ⟨i, e1, e2⟩ := hself
    obtain ⟨m', hn', hl'⟩ := I.loc
    obtain ⟨u, r, q⟩ := hl' i cap (.ref a) e1 e2 (.inr (.inl L.outer))
    have eu : u = .ref a := r
    subst eu
    rcases q with ⟨k', _⟩ | ⟨_, c3, e', z⟩
    · have k' : X.env.scope.names.lookup cap = some .local := k'
      rw [L.outer] at k'; cases k'
    · rw [cm h1] at e'
      cases e'
      exact z
  obtain ⟨cc, hcc, hcv⟩ := hcell
  refine wpAny_call (codeAny_mono (R := fun r s' => match r with | .ok (.ret u) => KskEnd X.base X.env.locals m news k { s with heap := h, toks := tk } u s' | _ => False) (PySem.W.kla_callFunE hro hf rfl L.co L.gen rfl ⟨c', oc, vs, tq, rfl, hoc, hdc, hvc⟩ ?_) fun r s' hq => ?_)
  · rw [hbind]
    refine wpAny_pure (wpAny_newFunctionEnv L.nocell (fun y hy => ?_) (fun h₁ hns hsb => ⟨I.nolimit.fresh _ hsb, ?_⟩) L.kind)
    · have e : y = (par, v) := by simpa using hy
      rw [e]; exact L.par_
    show codeAny _ _ (.expr _ (lamEnv X scope h.objs.size f c')) _ _
    have kp : ∀ b o, h.get? b = some o → h₁.get? b = some o := fun b o e => hsb.extBut b o (Nat.ne_of_lt (Heap.lt_size e)) (Heap.get?_push_of_some _ e)
    have J : Inv X pins σ H { s with heap := h₁, toks := tk } := I.kept (t' := tk) kp
    refine PySem.W.kla_codeExpr ?_
    obtain ⟨mA, O, r, _, _, _⟩ := ins_get J.hok ha
    obtain ⟨u, hu, ru⟩ := RelO.some_of (v := .ref l) (o := mA F) (by rw [← hl]; exact r F)
    have eu : u = .ref l := ru
    subst eu
    obtain ⟨its, rv, pl, hz⟩ := J.list hi
    obtain ⟨wv, ew, rw'⟩ := rv.get hit
    have ewv : wv = .ref t := rw'
    subst ewv
    obtain ⟨its2, rv2, pt, hz2⟩ := J.tuple ht
    obtain ⟨tn, env_⟩ := hv
    subst env_
    have hlen := rv.length
    have hlen2 := rv2.length
    have hn63 := line63
    have hilt : n.toNat < items.length := (List.getElem?_eq_some_iff.mp hit).1
    obtain ⟨kv, ekv, rkv⟩ := rv2.get (i := 0) (x := .int k) rfl
    obtain ⟨tk2, rfl⟩ := rkv
    refine Subscript_ (Subscript_ (attr_of rfl (wpAny_Name (wpAny_loadName_free (v := .ref a) L.kind L.cap_ hcc (let ⟨o, ho, hd⟩ := hcv; ⟨o, kp _ _ ho, hd⟩) ?_ hd2) hd1)))
    refine get_map J.kIn O (hc.get F) hc.hd hn hu (handed_of ru) ?_
    refine wpAny_Name (wpAny_loadName_local (v := .int n tn) L.kind L.par_ (m := fun x => [(par, Value.int n tn)].reverse.lookup x) hns (by simp) ?_) hd3
    refine item_listR pl.isList hn0 (by omega) (by simpa using ew) ?_ (by with_unfolding_all rfl)
    refine wpAny_Constant_int ?_
    refine subscriptTail_builtinR (x := .int k tk2) pt.typeIs slot_tuple_getitem.lookup
      (getItem_tuple (j := 0) (Q := fun r s' => r = .int k tk2 ∧ KskEnd X.base X.env.locals m news k { s with heap := h, toks := tk } r s') pt (by omega) (by omega) (by rw [List.size_toArray]; rw [seqIndex_of (by omega) (by rw [← hlen2]; simp)]; rfl) (by simpa using ekv) ⟨rfl, ?_⟩) (by with_unfolding_all rfl)
    exact ⟨h₁, _, _, rfl, rfl, Fr0.kept kp, N0.grown kp⟩
  · cases r with
    | error e => exact hq
    | ok fl =>
      cases fl with
      | ret u => exact hq
      | next => exact hq
      | brk => exact hq
      | cont => exact hq

/-- the pairs (key, item) in their new order -/
def StbBy (ks ns : List Int) (ps : List (Int × Int)) : Prop := ps.Perm (ks.zip ns) ∧ ps.Pairwise (fun p q => p.1 ≤ q.1) ∧ ∀ c, ps.filter (fun p => p.1 == c) = (ks.zip ns).filter (fun p => p.1 == c)
theorem vals_ints {ns : List Int} {its : List Value} (r : Vals (ns.map V.int) its) : its.map numOf = ns ∧ ∀ v ∈ its, ∃ t, v = .int (numOf v) t := by
  induction ns generalizing its with
  | nil => cases r; exact ⟨rfl, fun v hv => absurd hv (by simp)⟩
  | cons n ns ih =>
    cases r with
    | cons r rr =>
      obtain ⟨t, rfl⟩ := r
      obtain ⟨h1, h2⟩ := ih rr
      refine ⟨by rw [List.map_cons, h1]; rfl, fun v hv => ?_⟩
      rcases List.mem_cons.mp hv with rfl | hv
      · exact ⟨t, rfl⟩
      · exact h2 v hv
theorem zip_numOf : ∀ (ks : List Int) (its : List Value), (ks.zip its).map (fun p => (p.1, numOf p.2)) = ks.zip (its.map numOf)
  | [], _ => by simp
  | _ :: _, [] => by simp
  | k :: ks, i :: its => by simp [zip_numOf ks its]
theorem filt_num (c : Int) (l : List (Int × Value)) : (l.map (fun p => (p.1, numOf p.2))).filter (fun p => p.1 == c) = (l.filter (fun p => p.1 == c)).map (fun p => (p.1, numOf p.2)) := by
  rw [List.filter_map]; rfl
theorem stb_of {ks ns : List Int} {its out : List Value} (r : Vals (ns.map V.int) its) (k : KskOutSt false ks its out) : ∃ ps, StbBy ks ns ps ∧ Vals (ps.map fun p => V.int p.2) out := by
  obtain ⟨ps, h1, h2, h3, h4⟩ := k
  obtain ⟨e1, e2⟩ := vals_ints r
  refine ⟨ps.map fun p => (p.1, numOf p.2), ⟨?_, ?_, fun c => ?_⟩, ?_⟩
  · have := h1.map (fun p => (p.1, numOf p.2))
    rw [zip_numOf, e1] at this
    exact this
  · rw [List.pairwise_map]
    exact h3
  · rw [filt_num, h4 c, ← filt_num, zip_numOf, e1]
  · rw [h2, List.map_map]
    have hm : ∀ p ∈ ps, ∃ t, p.2 = .int (numOf p.2) t := fun p hp => e2 _ (List.of_mem_zip (h1.mem_iff.mp hp)).2
    clear h1 h2 h3 h4
    induction ps with
    | nil => exact .nil
    | cons p ps ih => exact .cons (hm p (by simp)) (ih fun q hq => hm q (by simp [hq]))
/-- e's ints by what their key is: what it asks, and what it gives -/
def tSortKey (K : PySem.W.Frag) (T : List (Addr × Str)) (i : Nat) (F : Str) (te : TE) : TE := fun σ H Q => te σ H fun x H1 => ∃ l0 ns ks a C dx fs l items, x = .ref l0 ∧ SqL K H1 l0 (ns.map V.int) ∧ σ[i]? = some (some (V.ref a)) ∧ H1 a = some (.ins C dx fs) ∧ Cls K C ∧ NoAttr K C F ∧ fs.lookup F = some (.ref l) ∧ SqL K H1 l items ∧
  ks.length = ns.length ∧ (∀ (j : Nat) (n k : Int), ns[j]? = some n → ks[j]? = some k → 0 ≤ n ∧ ∃ t rest, items[n.toNat]? = some (.ref t) ∧ SqT K H1 t (.int k :: rest)) ∧ Tabs T H1 ∧
  ∀ H2 D ps, ExtN H1 H2 → Tabs T H2 → H2 D = none → StbBy ks ns ps → Q (.ref D) (upd H2 D (.lst (ps.map fun p => V.int p.2)))
theorem sqL_ext {K : PySem.W.Frag} {H H' : Hp} {a : Addr} {xs : List V} (e : ExtN H H') (h : SqL K H a xs) : SqL K H' a xs := by
  rcases h with h | h
  · refine .inl ?_
    rcases h with h | ⟨o, h⟩
    · exact .inl (e _ _ h (fun ps q => by cases q))
    · exact .inr ⟨o, e _ _ h (fun ps q => by cases q)⟩
  · exact .inr h
theorem sqT_ext {K : PySem.W.Frag} {H H' : Hp} {a : Addr} {xs : List V} (e : ExtN H H') (h : SqT K H a xs) : SqT K H' a xs := by
  rcases h with h | h
  · refine .inl ?_
    rcases h with h | ⟨o, h⟩
    · exact .inl (e _ _ h (fun ps q => by cases q))
    · exact .inr ⟨o, e _ _ h (fun ps q => by cases q)⟩
  · exact .inr h
theorem news_fresh {h : Heap} {L D : Addr} {base : Heap} (hD : D ≠ L) (hb : base.get? D = none) (hn : ∀ q ∈ allNews base h L, q.1 < D) : h.get? D = none := by
  cases q : h.get? D with
  | none => rfl
  | some o => exact absurd (hn (D, o) (mem_allNews hD hb q)) (Nat.lt_irrefl _)
theorem pe_sortKey {X : Cx} {T : List (Addr × Str)} {c P : Addr} {i : Nat} {te : TE} {e : Expr} {scope : Scope} {params : Arguments} {par cap F : Str} {j k : Nat} {p pos lpos kpos p1 p2 p3 p4 p5 p6 : Pos}
    (hg : Gl X "sorted") (hm : X.mg "sorted" = none) (he : PE X e te)
    (TB : TabB X.base X.mg c P) (hcode : X.env.code = .ref c) (hmT : (P, X.env.qual ++ "<lambda>") ∈ T) (hu : ∀ p ∈ T, p.1 = P → p.2 = X.env.qual ++ "<lambda>") (hr : Room (k + 2) X.A) (L : Lam1 X.env.scope scope par cap) (hdef : defaultsOf params X.env = ([], []))
    (hbind : ∀ (q : Str) (cl : List (Str × Addr)) (pm cv ctv v : Value), bindArgs (PySem.W.kla_fn "<lambda>" q params (.Subscript (.Subscript (.Attribute (.Name cap p1) F p2) (.Name par p3) p4) (.Constant (.int 0) j p5) p6) scope cl pm cv ctv) ⟨[v], []⟩ = pure [(par, v)])
    (hN : X.N[i]? = some cap)
    (hd1 : (cap == ("__debug__" : Str)) = false := by decide) (hd2 : (cap == ("__classdict__" : Str)) = false := by decide) (hd3 : (par == ("__debug__" : Str)) = false := by decide)
    (hee : backTo pos (starEach [e] X.env) = (false, eval e X.env) :: backTo pos (starEach [] X.env) := by rfl) (hpl : (backTo pos (starEach [e] X.env)).any (·.1) = false := by rfl) :
    PE X (.Call (.Name "sorted" p) [e] [⟨some "key", .Lambda params (.Subscript (.Subscript (.Attribute (.Name cap p1) F p2) (.Name par p3) p4) (.Constant (.int 0) j p5) p6) scope lpos, kpos⟩] pos) (tSortKey X.K T i F te) := by
  refine ⟨fun pins s σ H Q I h => ?_⟩
  refine wpAny_Call_Name_kw (ld_blt I hg hm PyProof.Rows.boot_sorted ?_)
  refine PyProof.Rows.callWith_kw ?_ hee hpl
  rw [hee]
  refine Calls.spliced_cons (thn (he.run pins s σ H _ I h) fun u s1 ⟨x, H1, I1, r1, q1⟩ => Calls.spliced_nil ?_)
  obtain ⟨l0, ns, ks, a, C, dx, fs, l, items, ex, hs0, hσ, ha, hc, hn, hl, hi, hlen, hkey, hT, hQ⟩ := q1
  subst ex
  cases r1
  refine kws_cons (lam_make2 I1 TB hcode hmT hu hT hdef (fun y hy e => ?_) fun f c' pm ctv H2 s2 I2 eN T2 hf hfn hfr hco => kws_nil ?_)
  · rcases L.free y hy e with k | k
    · exact I1.ok.has _ (.inl k)
    · exact I1.ok.has _ (.inr k)
  obtain ⟨its, rv, pl, hz⟩ := I2.list (sqL_ext eN hs0)
  obtain ⟨m, hnm, _⟩ := id I2.loc
  have Fr0 : Fr X.base X.env.locals s2.heap m := ⟨hnm, I2.bk, Nat.le_trans I2.ok.bsz I2.ok.above⟩
  have hlv := rv.length
  rw [List.length_map] at hlv
  obtain ⟨enum, evs⟩ := vals_ints rv
  refine ksk_sortedSt (b := false) (kz := ks) Fr0 (news_all (g := X.base)) pl.isList (by omega) (by rw [List.length_map] at hz; omega) (ksk_s1 _ _) (fun _ => ksk_l1 _ _) (fun x => ksk_t1 f x) (fun jx v kv hv hkv h' tk own F' N' => ?_) fun D h' tk out c F' N' hD ko => ?_
  · have I3 := inv_turn (tk := tk) I2 hnm F' N'
    have hmem : v ∈ its := List.mem_of_getElem? hv
    obtain ⟨tv, ev⟩ := evs v hmem
    have hnj : ns[jx]? = some (numOf v) := by rw [← enum, List.getElem?_map, hv]; rfl
    obtain ⟨h0, t, rest, hit, htt⟩ := hkey jx _ kv hnj hkv
    have hf' : h'.get? f = some (PySem.W.kla_obj "<lambda>" (X.env.qual ++ "<lambda>") params (.Subscript (.Subscript (.Attribute (.Name cap p1) F p2) (.Name par p3) p4) (.Constant (.int 0) j p5) p6) scope (cloFrom X.env.cells scope.names []) pm c' ctv) := by
      have hfL : f ≠ X.env.locals := fun z => by
        obtain ⟨o, _, _, e, d, _⟩ := hnm
        rw [← z, hf] at e
        cases e
        cases d
      exact turn_keep I2 F' N' (fun p hp => List.mem_append_left _ hp) _ _ hfL hf
    exact key_turn (n := numOf v) (rest := rest) I3 L F' N' (by have := hr.dp; show X.A.depth < _; omega) rfl rfl hf' hco (hbind _ _ _ _ _ _) ⟨tv, ev⟩ ⟨i, hN, hσ⟩ (eN _ _ ha (fun ps q => by cases q)) hc hn hl (sqL_ext eN hi) h0 hit (sqT_ext eN htt) hd1 hd2 hd3
  · obtain ⟨ps, hst, rvo⟩ := stb_of rv ko
    have hh := N' (D, seqObj "list" out c) (.head _)
    have hf := news_fresh (h := s2.heap) hh.2.1 hh.2.2 hD
    have hzz : (ps.map fun p => V.int p.2).length ≤ sizeLine := by
      rw [List.length_map]
      have := hst.1.length_eq
      rw [List.length_zip] at this
      rw [List.length_map] at hz
      omega
    obtain ⟨hDn, I4⟩ := inv_turnD (tk := tk) I2 hnm F' N' hf rvo hzz
    exact ⟨V.ref D, _, I4, rfl, hQ H2 D ps eN T2 hDn hst⟩
end
end LmS
set_option Elab.async false
set_option linter.all false
set_option maxRecDepth 100000
set_option maxHeartbeats 4000000
namespace LmT
open PySem PySem.Spec PyProof.Rows L2
section
variable {P : Program} {w : World} {A : Around} {E : Value → Shared → Prop} {s : Shared}
theorem call_set_lstI {l : Addr} {items : Array Value} (ns : List Int) {Q : Value → Shared → Prop} (hh : A.handled = none) (hl : s.heap.IsList l items) (hit : IntsAre items.toList ns) (hb : ns.length + 1 < scanBound)
    (h : ∀ (h' : Heap) (tk c : Nat), SetR w h' s.heap.objs.size (fun j => decide (j ∈ ns)) c → c ≤ ns.length → (∀ b o, s.heap.get? b = some o → h'.get? b = some o) → Q (.ref s.heap.objs.size) { s with heap := h', toks := tk }) :
    wpAny (model P w) A (call (.type "set") [.ref l]) Q E s := by
  have hisz : items.size = ns.length := by
    have q := IntsAre.length hit
    rw [Array.length_toList] at q
    exact q
  obtain ⟨c, tl, hmro⟩ := F.called_set.mro
  have hmade := F.called_set.made
  have hsub := F.called_set.sub
  refine wpAny_call (codeAny_of_tree ?_)
  show wpAny _ _ (callAny (.type "set") _) _ _ _
  refine wpAny_pure ⟨Code.quiet_builtin _ (by decide +kernel), codeAny_builtin F.entry_type_call ?_⟩
  rw [Around.under_plain (weight_type_call_type "set" [.ref l] []) rfl]
  have h1 := F.called_set.notType
  have h2 := F.called_set.canCreate
  have hct := F.typeCall_set_1 (.ref l)
  repeat (any_goals (first | assumption | wp_step))

  refine codeAny_mono (code_set_led1 (.ref l) (E := E) (Q₁ := fun obj s₁ => obj = .ref s.heap.objs.size ∧ s₁ = { s with heap := s.heap.push { cls := .type "set", dict := none, data := .set #[] 0 (.fresh 0 0 (!w.params.followText "set-order")) } }) ⟨rfl, rfl⟩) fun r s₁ hr => ?_
  cases r with
  | error e => exact hr
  | ok fl =>
    cases fl with
    | ret obj =>
      obtain ⟨rfl, rfl⟩ := hr
      have hS : (s.heap.push { cls := .type "set", dict := none, data := .set #[] 0 (.fresh 0 0 (!w.params.followText "set-order")) }).get? s.heap.objs.size = some { cls := .type "set", dict := none, data := .set #[] 0 (.fresh 0 0 (!w.params.followText "set-order")) } := Heap.get?_push_size _ rfl
      have hT : Shared.TypeIs { s with heap := s.heap.push { cls := .type "set", dict := none, data := .set #[] 0 (.fresh 0 0 (!w.params.followText "set-order")) } } (.ref s.heap.objs.size) "set" := ⟨_, hS, rfl⟩
      have hli := F.called_set.init.lookup
      have hbi := F.called_set.init.bind (.ref s.heap.objs.size)
      repeat (any_goals (first | assumption | wp_step))

      refine codeAny_mono (codeAny_call_builtin (R := wants (fun r s₂ => r = .none ∧ ∃ h' tk c, s₂ = { s with heap := h', toks := tk } ∧ SetR w h' s.heap.objs.size (fun j => decide (j ∈ ns)) c ∧ c ≤ ns.length ∧
          (∀ b o, s.heap.get? b = some o → h'.get? b = some o)) E) F.called_set.init.plain F.entry_set_init (check_set_init_1 hT ?_)) fun r₂ s₂ hr₂ => ?_
      · obtain ⟨ol, hol, hcl, nl, hdl⟩ := hl
        obtain ⟨ocls, odict, odata, oslots⟩ := ol
        simp only at hcl hdl
        subst hcl; subst hdl
        have hol' : (s.heap.push { cls := .type "set", dict := none, data := .set #[] 0 (.fresh 0 0 (!w.params.followText "set-order")) }).get? l = some { cls := .type "list", dict := odict, data := .seq items nl, slots := oslots } := Heap.get?_push_of_some _ hol
        have hsls := F.sub_list_set
        have hslf := F.sub_list_frozenset
        have hne : (Value.type "list" == Value.type "dict") = false := by decide
        have hl1 : (s.heap.push { cls := .type "set", dict := none, data := .set #[] 0 (.fresh 0 0 (!w.params.followText "set-order")) }).IsList l items := ⟨_, hol', rfl, nl, rfl⟩
        unfold Builtin.«set.__init__» noKeywords Builtin.Frozenset.updateFrom
        generalize hPI : pyIter = PI
        wp_walk
        subst hPI

        refine wpAny_pyIter_list hl1 ?_
        refine wpAny_bind (wpAny_runValue ?_)
        have hlS : l < s.heap.objs.size := Heap.lt_size hol
        have hh3 : A.in1.in1.in1.handled = none := by simp [hh]
        have hz1 : (s.heap.push { cls := .type "set", dict := none, data := .set #[] 0 (.fresh 0 0 (!w.params.followText "set-order")) }).objs.size = s.heap.objs.size + 1 := Heap.size_push ..
        have hneI : l ≠ (s.heap.push { cls := .type "set", dict := none, data := .set #[] 0 (.fresh 0 0 (!w.params.followText "set-order")) }).objs.size := by
          rw [Heap.size_push]; exact Nat.ne_of_lt (Nat.lt_succ_of_lt hlS)
        have hSf : s.heap.objs.size ∉ [(s.heap.push { cls := .type "set", dict := none, data := .set #[] 0 (.fresh 0 0 (!w.params.followText "set-order")) }).objs.size, l] := by
          rw [Heap.size_push]; simp only [List.mem_cons, List.mem_singleton, List.not_mem_nil, or_false, not_or]
          exact ⟨Nat.ne_of_lt (Nat.lt_succ_self _), Nat.ne_of_gt hlS⟩
        have hval : ∀ (i : Nat) (v : Value), items[i]? = some v → ∃ k t, ns[i]? = some k ∧ v = .int k t := fun i v hv => by
          have hi : i < ns.length := by rw [← hisz]; exact (Array.getElem?_eq_some_iff.mp hv).1
          obtain ⟨t, e⟩ := PyProof.Rows.IntsAre.int_at hit i v (by rw [Array.getElem?_toList]; exact hv)
          refine ⟨ns[i], t, List.getElem?_eq_getElem hi, ?_⟩
          rw [e, List.getD_eq_getElem?_getD, List.getElem?_eq_getElem hi] <;> rfl
        refine set_update_ints ((Walks.list hh3 _ l hneI items).toS) s.heap.objs.size
          hSf ns hisz hb hval (items.size - 0) 0 _ (by omega) (Nat.zero_le _)
          ⟨⟨_, Heap.get?_push_size _ rfl, rfl, rfl⟩, (hl1.push _)⟩ ?hS0 ?hR
        case hS0 =>
          have hget : ((s.heap.push { cls := .type "set", dict := none, data := .set #[] 0 (.fresh 0 0 (!w.params.followText "set-order")) }).push { cls := .type "list_iterator", data := .fields #[.ref l, .int 0 0] }).get? s.heap.objs.size
              = some { cls := .type "set", dict := none, data := .set #[] 0 (.fresh 0 0 (!w.params.followText "set-order")) } := Heap.get?_push_of_some _ hS
          exact ⟨0, Nat.le_refl 0, setR_new_at hget⟩
        case hR =>
          intro s' c' hm hc' hS'
          obtain ⟨h', g2, d', tk', os'⟩ := s'
          have eg : g2 = s.gens := hm.gens
          have ed : d' = s.drawn := hm.drawn
          have eo : os' = s.os := hm.os
          subst eg; subst ed; subst eo
          show wpAny _ _ _ _ _ _
          refine wpAny_pure ?_
          show wpAny _ _ (ret Value.none) _ _ _
          rw [hisz] at hc'
          refine wpAny_pure ⟨rfl, h', tk', c', rfl, hS', hc', fun b o e => ?_⟩
          have hb0 : b < s.heap.objs.size := Heap.lt_size e
          have hb1 : b ≠ s.heap.objs.size := Nat.ne_of_lt hb0
          have hb2 : b ≠ (s.heap.push { cls := .type "set", dict := none, data := .set #[] 0 (.fresh 0 0 (!w.params.followText "set-order")) }).objs.size := by
            rw [Heap.size_push]; exact Nat.ne_of_lt (Nat.lt_succ_of_lt hb0)
          exact hm.heap b o (by simp only [List.mem_cons, List.mem_singleton, List.not_mem_nil, or_false, not_or]; exact ⟨hb1, hb2⟩) (Heap.get?_push_of_some _ (Heap.get?_push_of_some _ e))

      · cases r₂ with
        | error e => exact hr₂
        | ok fl₂ =>
          cases fl₂ with
          | ret r =>
            obtain ⟨rfl, h', tk, c', rfl, hS', hc', hk'⟩ := hr₂
            repeat (any_goals (first | assumption | wp_step))
            exact h _ _ _ hS' hc' hk'
          | _ => exact hr₂.elim
    | _ => exact hr.elim

end
section
variable {X : Cx}
/-- set(xs), xs a list of ints -/
def rSetL (K : PySem.W.Frag) (w : World) : List V → Hp → VK → Prop := fun xs H Q => ∃ (l : Addr) (ns : List Int), xs = [V.ref l] ∧ SqL K H l (ns.map V.int) ∧ ns.length + 1 < scanBound ∧
  ∀ (p : Addr) (c : Nat), H p = none → c ≤ ns.length → Q (.ref p) (upd H p (SetO w p (fun j => decide (j ∈ ns)) c))
theorem cr_setL (hc : X.calm = true) : CallR X (.type "set") (rSetL X.K X.w) := by
  intro pins s σ H xs us Q I r h
  obtain ⟨l, ns, rfl, hl, hb, q⟩ := h
  rw [Vals.ref1 r]
  obtain ⟨its, rv, pl, hz⟩ := I.list hl
  refine call_set_lstI ns (I.ok.hd hc) pl.isList (by simpa using ints_of_vals rv) hb fun h' tk c R hcn k => ?_
  have hn : H s.heap.objs.size = none := I.hok.fresh (Nat.le_refl _)
  exact ⟨.ref s.heap.objs.size, _, I.laid (t' := tk) k (Nat.le_refl _) (setO_new R), rfl, q _ c hn hcn⟩
end
end LmT
set_option Elab.async false
set_option linter.all false
set_option maxRecDepth 100000
set_option maxHeartbeats 2000000
namespace LmO
open PySem PySem.Spec PyProof.Rows L2
section
variable {X : Cx}
/-- a tuple == () -/
def rEqNil (K : PySem.W.Frag) : R2 := fun x y H Q => ∃ a b xs, x = .ref a ∧ y = .ref b ∧ SqT K H a xs ∧ SqT K H b [] ∧ Q (.bl xs.isEmpty) H
theorem op_eqNil (hu : X.A.units < cLine) : OpR X (compareOp .Eq) (rEqNil X.K) := by
  intro pins s σ H x y v u Q I rx ry h
  obtain ⟨a, b, xs, rfl, rfl, ha, hb, q⟩ := h
  cases rx
  cases ry
  obtain ⟨its, rv, pt, hz⟩ := I.tuple ha
  obtain ⟨its2, rv2, pt2, hz2⟩ := I.tuple hb
  cases rv2
  refine SeqAt.eq_tupleAt (e := fun _ => true) pt pt2 hu (fun j h1 h2 => absurd h2 (by simp)) ⟨.bl xs.isEmpty, H, I, ?_, q⟩
  show Value.bool _ = Value.bool _
  cases rv with
  | nil => rfl
  | cons r t => simp
end
section
variable {X : Cx} {CX : CXT} {C g : Addr} {n : Nat} {sp : Sp} {E : XK}
theorem runAt {pins : List (Addr × Obj)} {σ : L2.St} {H : Hp} {s : Shared} {A : Around} {Q : VK} {us : List Value} {ws : List V} (F : FnR X.prog X.w X.K X.mg X.base CX n g sp) (hr : Room n A) (e0 : Env0 X.prog X.w X.K X.mg X.base A X.stack s H) (hx : Passes CX X E) (I : Inv X pins σ H s) (r : Vals ws us) (h : sp ws H Q E) :
    wpAny (model X.prog X.w) A (call (.ref g) us) (EP X pins σ Q) X.xe s := by
  refine wpAny_call (codeAny_mono (F A X.stack s H us ws Q E hr e0 r h) fun r s' hq => ?_)
  cases r with
  | error e => exact hx pins σ H s e s' I hq
  | ok fl =>
    cases fl with
    | ret u => exact I.after hq
    | next => exact False.elim hq
    | brk => exact False.elim hq
    | cont => exact False.elim hq
/-- str(x), x an instance whose class has its own __str__ -/
def rStrOwn (C : Addr) (sp : Sp) (E : XK) : List V → Hp → VK → Prop := fun xs H Q => ∃ a dx fs, xs = [V.ref a] ∧ H a = some (.ins C dx fs) ∧ sp [.ref a] H (fun z H' => ∃ y, z = .str y ∧ Q z H') E
theorem cr_strOwn (hs : PySem.W.findIn X.K (.ref C) "__str__" = some (some (.ref g))) (hf : PySem.W.isFn X.K (.ref g) = true) (F : FnR X.prog X.w X.K X.mg X.base CX n g sp) (hr : Room (n + 2) X.A) (hx : Passes CX X E) : CallR X (.type "str") (rStrOwn C sp E) := by
  intro pins s σ H xs us Q I r h
  obtain ⟨a, dx, fs, rfl, ea, q⟩ := h
  rw [Vals.ref1 r]
  obtain ⟨mA, O, _, _, _, _⟩ := ins_get I.hok ea
  obtain ⟨od, J, _⟩ := O.look
  have hr2 : Room n X.A.in1.in1 := (show Room (n + 1) X.A.in1 from Room.in1 hr).in1
  refine PySem.W.kso_call (by have := hr2.un; omega) I.kIn J hs hf (wpAny_mono (runAt (us := [.ref a]) (ws := [.ref a]) F hr2 I.env0.in1.in1 hx I (.cons rfl .nil) q) (fun w s' z => ?_) fun _ _ x => x)
  obtain ⟨z', H', I', rz, y, ey, qz⟩ := z
  subst ey
  obtain ⟨t, e⟩ := (show ∃ t, w = Value.str y t from rz)
  cases e
  exact ⟨.str y, H', I', ⟨t, rfl⟩, qz⟩
/-- len(x), x an instance whose class has its own __len__ -/
def rLenOwn (C : Addr) (sp : Sp) (E : XK) : List V → Hp → VK → Prop := fun xs H Q => ∃ a dx fs, xs = [V.ref a] ∧ H a = some (.ins C dx fs) ∧ sp [.ref a] H (fun z H' => ∃ i, z = .int i ∧ 0 ≤ i ∧ i < 2 ^ 63 ∧ Q z H') E
theorem cr_lenOwn (hs : PySem.W.findIn X.K (.ref C) "__len__" = some (some (.ref g))) (hf : PySem.W.isFn X.K (.ref g) = true) (F : FnR X.prog X.w X.K X.mg X.base CX n g sp) (hr : Room (n + 1) X.A) (hx : Passes CX X E) : CallR X (.builtin "len") (rLenOwn C sp E) := by
  intro pins s σ H xs us Q I r h
  obtain ⟨a, dx, fs, rfl, ea, q⟩ := h
  rw [Vals.ref1 r]
  obtain ⟨mA, O, _, _, _, _⟩ := ins_get I.hok ea
  obtain ⟨od, J, _⟩ := O.look
  have hr2 : Room n X.A.in1 := Room.in1 hr
  refine Calls.call_function_entry kind_len plain_len entry_len (args_len1 _) ?_
  unfold Builtin.«len»
  refine wpAny_bind (m := oneArg "len" _) (wpAny_pure ?_)
  refine wpAny_bind (m := callSpecial? (.ref a) (PySem.Str.ofString "__len__")) (PySem.W.special_fn I.kIn J hs (beq_iff_eq.mp hf) (wpAny_mono (runAt (us := [.ref a]) (ws := [.ref a]) F hr2 I.env0.in1 hx I (.cons rfl .nil) q) (fun w s' z => ?_) fun _ _ x => x))
  obtain ⟨z', H', I', rz, i, ei, h0, h1, qz⟩ := z
  subst ei
  obtain ⟨t, e⟩ := (show ∃ t, w = Value.int i t from rz)
  cases e
  refine wpAny_bind (wpAny_holding (wpAny_pure ?_))
  refine wpAny_bind (wpAny_letGo ?_)
  show wpAny _ _ (if i < 0 then _ else _) _ _ _
  rw [if_neg (by omega)]
  show wpAny _ _ (if i ≥ 2 ^ 63 then _ else _) _ _ _
  rw [if_neg (by omega)]
  exact wpAny_bind (wpAny_mkInt (wpAny_pure ⟨_, rfl, .int i, H', I'.tok _, ⟨_, rfl⟩, qz⟩))
end
section
variable {X : Cx} {o e : Expr} {apos cpos : Pos} {td ty : TE}
/-- d.get(k), d a dict of the top, k a text -/
def KGet (K : PySem.W.Frag) (w : World) (a : Addr) (x : Str) (ov : Option V) : Prop :=
  ∃ es n uo, K.lookup a = some ⟨.type "dict", none, .dict es n, #[]⟩ ∧ PySem.W.KeysLit w.params es.toList ∧ PySem.W.nsIn K a x = some uo ∧ (a == sysModules) = false ∧ RelO ov uo
def tKGet1 (K : PySem.W.Frag) (w : World) (td ty : TE) : TE := fun σ H Q => td σ H fun x H1 => ty σ H1 fun y H2 => ∃ a z ov, x = .ref a ∧ y = .str z ∧ KGet K w a z ov ∧ Q (ov.getD .non) H2
theorem pe_kget1 (a : Addr) (ho : PE X o (tC (.ref a))) (hl : ∃ es n, X.K.lookup a = some ⟨.type "dict", none, .dict es n, #[]⟩) (he : PE X e ty) (m : M1 X o "get" apos e cpos) : PE X (.Call (.Attribute o "get" apos) [e] [] cpos) (tKGet1 X.K X.w (tC (.ref a)) ty) := by
  refine ⟨fun pins s σ H Q I h => ?_⟩
  refine wpAny_Call_method m.base m.few m.line PySem.F.plainAttrs_dict PySem.F.slot_dict_get PySem.F.type_dict_get (thn (ho.run pins s σ H (fun v H' => v = .ref a ∧ H' = H) I ⟨rfl, rfl⟩) fun u s1 ⟨x, H1, I1, rx, q1⟩ => ?_)
  obtain ⟨ex, eH⟩ := q1
  subst ex eH
  obtain rfl : u = Value.ref a := rx
  obtain ⟨es, n, hk⟩ := hl
  have hget := I1.kIn _ _ hk
  refine ⟨⟨_, hget, rfl⟩, fun b e => by cases e; exact ⟨_, hget, rfl⟩, ?_⟩
  rw [m.trees]
  refine Calls.callWith_builtin rfl (Calls.evalArgs_plain (Calls.spliced_cons (thn (he.run pins s1 σ H1 _ I1 h) fun iv s2 ⟨y, H2, I2, ry, a', z, ov, ex, ey, g, q2⟩ => Calls.spliced_nil ?_)))
  cases ex
  subst ey
  obtain ⟨t, rfl⟩ := ry
  obtain ⟨es', n', uo, hk', hkl, hns, hsm, ro⟩ := g
  have hm := PySem.W.mapOf_K (prog := X.prog) (w := X.w) I2.kIn hk' hkl
  refine call_meetsIn PySem.F.slot_dict_get hm.typeIs PySem.F.entry_dict_get (PySem.F.args_dict_get_2 _ _) (meets_dict_get (strKind X.prog X.w) a (strKind_is X.prog X.w z t) hsm) ⟨_, hm, ?_⟩
  refine ⟨ov.getD .non, H2, I2.tok _, ?_, q2⟩
  rw [PySem.W.find_K hk' hns]
  exact ro.getD rfl
end
section
variable {X : Cx}
/-- {True: x, False: y}[name] -/
def tYesNo (x y : Str) (i : Nat) : TE := fun σ H Q => ∃ b, σ[i]? = some (some (.bl b)) ∧ Q (.str (if b then x else y)) H
theorem pe_yesno {i : Nat} {z x y : Str} {j1 j2 j3 j4 : Nat} {p1 p2 p3 p4 p5 dp pos : Pos} (hN : X.N[i]? = some z) (hv : Vis X.env.scope z) (hd : (z == ("__debug__" : Str)) = false := by decide) (hcd : (z == ("__classdict__" : Str)) = false := by decide) :
    PE X (.Subscript (.Dict [some (.Constant (.bool true) j1 p1), some (.Constant (.bool false) j2 p2)] [.Constant (.str x) j3 p3, .Constant (.str y) j4 p4] dp) (.Name z p5) pos) (tYesNo x y i) := by
  refine ⟨fun pins s σ H Q I h => ?_⟩
  obtain ⟨b, e, q⟩ := h
  refine Subscript_ (wpAny_Dict_walk (knd := PpSet.boolK X.prog X.w) rfl rfl (by simp) (by simp) ?_)
  refine pairTrees_cons_walk (Constant_bool (Calls.Constant_str (pairTrees_cons_walk (Constant_bool (Calls.Constant_str (pairTrees_nil_walk ?_))))))
  refine ⟨[(true, .str x _), (false, .str y _)], ⟨PpSet.boolK_is _ _ _, rfl, PpSet.boolK_is _ _ _, rfl, trivial⟩, Heap.DictOf.new _, fun h' dd sb => ?_⟩
  have kp : ∀ b o, s.heap.get? b = some o → h'.get? b = some o := fun b o e => sb.extBut b o (Nat.ne_of_lt (Heap.lt_size e)) (Heap.get?_push_of_some _ e)
  have J : Inv X pins σ H { s with heap := h', toks := s.toks + 1 + 1 + 2 } := I.kept (t' := s.toks + 1 + 1 + 2) kp
  obtain ⟨m, hn, hl⟩ := J.loc
  obtain ⟨u, r, l⟩ := hl i z (.bl b) hN e hv
  have eu : u = .bool b := r
  subst eu
  have fin : wpAny (model X.prog X.w) X.A (subscriptTail (.Dict [some (.Constant (.bool true) j1 p1), some (.Constant (.bool false) j2 p2)] [.Constant (.str x) j3 p3, .Constant (.str y) j4 p4] dp) (.Name z p5) (.ref s.heap.objs.size) (.bool b)) (EP X pins σ Q) X.xe { s with heap := h', toks := s.toks + 1 + 1 + 2 } := by
    refine tail_any dd.typeIs slot_dict_getitem.lookup (wpAny_getItem_of (v := .str (if b then x else y) (if b then s.toks else s.toks + 1)) (PpSet.boolK_is X.prog X.w b) dd.mapOf ?_ ⟨.str _, H, J.tok _, ⟨_, rfl⟩, q⟩) rfl
    cases b <;> rfl
  rcases l with ⟨hk, hm⟩ | ⟨hk, c, hc, hcell⟩
  · exact wpAny_Name (wpAny_loadName_local J.ok.kind hk hn hm fin) hd
  · rcases hk with hk | hk
    · exact wpAny_Name (wpAny_loadName_cell J.ok.kind hk hc hcell fin) hd
    · exact wpAny_Name (wpAny_loadName_free J.ok.kind hk hc hcell fin hcd) hd
end
end LmO
set_option Elab.async false
set_option linter.all false
set_option maxRecDepth 100000
set_option maxHeartbeats 2000000
/-! the layer's rules with the written part named, for use within comprehensions -/
namespace Kx
open PySem PySem.Spec PyProof.Rows L2
def rLenK (K : PySem.W.Frag) : List V → Hp → VK → Prop := fun xs H Q => ∃ x n, xs = [x] ∧ LenV K x H n ∧ Q (.int n) H
def rTupOf (K : PySem.W.Frag) : List V → Hp → VK → Prop := fun xs H Q => ∃ p ys, xs = [.ref p] ∧ ((SqL K H p ys ∧ ∀ l, H l = none → Q (.ref l) (upd H l (.tup ys))) ∨ (SqT K H p ys ∧ Q (.ref p) H))
def rListOf (K : PySem.W.Frag) : List V → Hp → VK → Prop := fun xs H Q => ∃ p ys, xs = [.ref p] ∧ (SqL K H p ys ∨ SqT K H p ys) ∧ ∀ l, H l = none → Q (.ref l) (upd H l (.lst ys))
def rJoin (K : PySem.W.Frag) : V → List V → Hp → VK → Prop := fun x xs H Q => ∃ a p, ∃ ys : List Str, x = .str a ∧ xs = [.ref p] ∧ (SqL K H p (ys.map V.str) ∨ SqT K H p (ys.map V.str)) ∧ (ys.map (·.length)).sum + ys.length * a.length ≤ 16777216 ∧ Q (.str (Txt.join a ys)) H
section
variable {X : Cx} {K : PySem.W.Frag} {w : World}
theorem ix_list (hK : X.K = K := by rfl) : IxR X (rIxL K) := by subst hK; exact L2.ix_list
theorem ix_tup (hK : X.K = K := by rfl) : IxR X (rIxT K) := by subst hK; exact L2.ix_tup
theorem len (hK : X.K = K := by rfl) : CallR X (.builtin "len") (rLenK K) := by subst hK; exact call_len
theorem tuple_of (hK : X.K = K := by rfl) : CallR X (.type "tuple") (rTupOf K) := by subst hK; exact call_tuple_of
theorem list_of (hK : X.K = K := by rfl) : CallR X (.type "list") (rListOf K) := by subst hK; exact call_list_of
theorem isi (hK : X.K = K := by rfl) : CallR X (.builtin "isinstance") (rIsi K) := by subst hK; exact call_isi
theorem all (hc : X.calm = true := by rfl) (hK : X.K = K := by rfl) : CallR X (.builtin "all") (rAll K) := by subst hK; exact cr_all hc
theorem any (hc : X.calm = true := by rfl) (hK : X.K = K := by rfl) : CallR X (.builtin "any") (rAny K) := by subst hK; exact cr_any hc
theorem sortedI (hK : X.K = K := by rfl) : CallR X (.builtin "sorted") (rSortedI K) := by subst hK; exact cr_sortedI
theorem setL (hc : X.calm = true := by rfl) (hK : X.K = K := by rfl) (hw : X.w = w := by rfl) : CallR X (.type "set") (LmT.rSetL K w) := by subst hK hw; exact LmT.cr_setL hc
theorem sortedSet (hc : X.calm = true := by rfl) (hw : X.w = w := by rfl) : CallR X (.builtin "sorted") (rSortedSet w) := by subst hw; exact cr_sortedSet hc
theorem sl_list (hK : X.K = K := by rfl) : SlR X (rSlL K) := by subst hK; exact L2.sl_list
theorem sl_tup (hK : X.K = K := by rfl) : SlR X (rSlT K) := by subst hK; exact L2.sl_tup
theorem neD (hu : X.A.units + 64 < cLine) (hK : X.K = K := by rfl) : OpR X (compareOp .NotEq) (rNeD K) := by subst hK; exact op_neD hu
theorem eqD (hu : X.A.units + 64 < cLine) (hK : X.K = K := by rfl) : OpR X (compareOp .Eq) (rEqD K) := by subst hK; exact op_eqD hu
theorem eqNil (hu : X.A.units < cLine) (hK : X.K = K := by rfl) : OpR X (compareOp .Eq) (LmO.rEqNil K) := by subst hK; exact LmO.op_eqNil hu
theorem set_list (hK : X.K = K := by rfl) : PSet X rSetL := L2.set_list
variable {e o value l : Expr} {es : List Expr} {te ta to tv tl : TE} {t : TA} {f : Str} {pos pos' p apos cpos tpos p1 p2 : Pos}
theorem fld (he : PE X e ta) (hb : attributeBase e f X.env (eval e X.env) = eval e X.env) (hK : X.K = K := by rfl) : PE X (.Attribute e f pos) (tFld K ta f) := by subst hK; exact pe_fld he hb
theorem revL {k : Nat} (he : PE X e te) (hK : X.K = K := by rfl) : PE X (.Subscript e (.Slice none none (some (.UnaryOp .USub (.Constant (.int 1) k p1) p2)) apos) pos) (tRevL K te) := by subst hK; exact pe_revL he
theorem pi_list {tg : Expr} (hl : PE X l tl) (hK : X.K = K := by rfl) : PI X tg l (iList K tl) := by subst hK; exact L2.pi_list hl
theorem pi_tup {tg : Expr} (hl : PE X l tl) (hK : X.K = K := by rfl) : PI X tg l (iTup K tl) := by subst hK; exact L2.pi_tup hl
theorem pi_zipS {e2 : Expr} {elts : List Expr} {kk ck : Nat} {ta : TA} (hg : Gl X "zip") (hm : X.mg "zip" = none) (ha : PA X [e, e2] ta)
    (hs : starEach [e, e2] X.env = (false, eval e X.env) :: starEach [e2] X.env := by rfl) (hpl : (backTo pos (starEach [e2] X.env)).any (·.1) = false := by rfl)
    (he : backTo pos (starEach [e, e2] X.env) = (false, eval e X.env) :: backTo pos (starEach [e2] X.env) := by rfl) (hpl2 : (backTo pos (starEach [e, e2] X.env)).any (·.1) = false := by rfl) (hK : X.K = K := by rfl) :
    PI X (.Tuple elts kk tpos) (.Call (.Name "zip" p) [e, e2] [⟨some "strict", .Constant (.bool true) ck p1, p2⟩] pos) (LmZ.iZipS K ta) := by subst hK; exact LmZ.pi_zipS hg hm ha hs hpl he hpl2
theorem pg_tup {k : Nat} {t : TGs} {n : Nat} (hc : X.calm = true) (h : PGs X es t)
    (hn : (assignEach es X.env).length = n := by rfl) (hst : (assignEach es X.env).findIdx? (·.1) = none := by rfl) (hK : X.K = K := by rfl) : PG X (.Tuple es k pos) (gTup K n t) := by subst hK; exact L2.pg_tup hc h hn hst
theorem pg_unl {k : Nat} {t : TGs} {n : Nat} (hc : X.calm = true) (h : PGs X es t)
    (hn : (assignEach es X.env).length = n := by rfl) (hst : (assignEach es X.env).findIdx? (·.1) = none := by rfl) (hK : X.K = K := by rfl) : PG X (.Tuple es k pos) (gUnl K n t) := by subst hK; exact L2.pg_unl hc h hn hst
theorem join (ho : PE X o to) (he : PE X e te) (hs : starEach [e] X.env = [(false, eval e X.env)] := by rfl) (hbase : attributeBase o "join" X.env (eval o X.env) = eval o X.env := by rfl) (hline : (apos.endLine == pos.line) = true := by rfl) (hK : X.K = K := by rfl) :
    PE X (.Call (.Attribute o "join" apos) [e] [] pos) (tM1 (rJoin K) to te) := by subst hK; exact pe_join ho he hs hbase hline
section
variable {T id : String} {name : Str} {r : V → List V → Hp → VK → Prop}
theorem bm0 (pa : PlainAttrs T) (slot : Slot T name id) (hty : typeOf (.builtin id) = pure (.type "method_descriptor")) (hm : MtR X id r) (ho : PE X o to)
    (hbase : attributeBase o name X.env (eval o X.env) = eval o X.env := by rfl) (hline : (apos.endLine == cpos.line) = true := by rfl) (hK : X.K = K := by rfl) : PE X (.Call (.Attribute o name apos) [] [] cpos) (tBM0 K T r to) := by subst hK; exact pe_bm0 pa slot hty hm ho hbase hline
theorem bm (pa : PlainAttrs T) (slot : Slot T name id) (hty : typeOf (.builtin id) = pure (.type "method_descriptor")) (hm : MtR X id r) (ho : PE X o to) (ha : PA X (e :: es) t)
    (hbase : attributeBase o name X.env (eval o X.env) = eval o X.env := by rfl)
    (hfew : ((backTo cpos (starEach (e :: es) X.env)).all (fun x => !x.1) && (backToKw cpos (keywordEach [] X.env)).all (fun x => x.1.isSome)
      && decide ((e :: es).length + ([] : List Keyword).length + (if ([] : List Keyword).isEmpty then 0 else 1) < 30)) = true := by rfl)
    (hline : (apos.endLine == cpos.line) = true := by rfl) (hs : starEach (e :: es) X.env = (false, eval e X.env) :: starEach es X.env := by rfl) (hplain : (backTo cpos (starEach es X.env)).any (·.1) = false := by rfl) (hK : X.K = K := by rfl) :
    PE X (.Call (.Attribute o name apos) (e :: es) [] cpos) (tBM K T r to t) := by subst hK; exact pe_bm pa slot hty hm ho ha hbase hfew hline hs hplain
end
theorem psfld (ha : PE X o ta) (hv : PE X value tv) (hs : swapsWith value (some (.Attribute o f pos')) pos.line X.env = pure false) (hK : X.K = K := by rfl) : PS X (.Assign [.Attribute o f pos'] value pos) (sFld K ta tv f) := by subst hK; exact ps_fld ha hv hs
end
end Kx
set_option Elab.async false
set_option linter.all false
set_option maxRecDepth 100000
set_option maxHeartbeats 2000000
namespace LmH
open PySem PySem.Spec PyProof.Rows L2
/-- the part of the heap: the module's names, what these functions and classes reach -/
def reach (g : Addr → Option Obj) (l : List Addr) : List Addr := l.flatMap fun a => match g a with
  | some o => He.refsD o
  | none => []
def reachF (g : Addr → Option Obj) (l : List Addr) : List Addr := l.flatMap fun a => match g a with
  | some ⟨_, _, .func fd, _⟩ => He.refV fd.code ++ He.refV fd.defaults
  | _ => []
def named (g : Addr → Option Obj) (xs : List Str) : List Addr := xs.map fun x => He.ga (He.frG g [mainGlobals]) x
def parts (fs cs : List Str) (g : Addr → Option Obj) : List Addr :=
  mainGlobals :: (named g cs ++ (named g fs ++ (reach g (named g cs) ++ (reachF g (named g fs) ++ (reach g (reach g (named g cs)) ++ reachF g (reach g (reach g (named g cs))))))))
variable (fs cs : List Str) (fa : List He.Fa) (fn : List He.DefD) (ts : List He.Tab) (tf : List He.Defn) (ex : PySem.W.Frag → Bool)
def look (g : Addr → Option Obj) (K : PySem.W.Frag) : He.AlX := (He.obsT fa fn ts K, ex K && He.tabsB g tf K)
def lookN (g : Addr → Option Obj) : He.AlX := look fa fn ts tf ex g (He.frT g (parts fs cs g))
theorem look_says {w : World} {h : Heap} {l : List Addr} (e : look fa fn ts tf ex h.get? (He.frT h.get? l) = He.valX fn ts w) : He.SaysX fa fn ts tf ex w h (He.frT h.get? l) := by
  obtain ⟨m, tb⟩ := He.ba (show (ex (He.frT h.get? l) && He.tabsB h.get? tf (He.frT h.get? l)) = true from congrArg Prod.snd e)
  have each := fun p hp => He.ba (List.all_eq_true.mp tb p hp)
  have ob : ∀ p ∈ tf, ∃ o, h.get? (He.cT (He.frT h.get? l) p).2 = some o ∧ He.emptyTab o = true := fun p hp => by
    have z := (each p hp).2
    split at z
    · rename_i o q
      exact ⟨o, q, z⟩
    · cases z
  refine { t := congrArg Prod.fst e, more := m, hd := fun p hp => (each p hp).1, out := fun p hp => ?_, empty := fun p hp => ?_ }
  · obtain ⟨o, h1, h2⟩ := ob p hp
    exact He.frT_none h1 h2
  · obtain ⟨o, h1, h2⟩ := ob p hp
    rw [h1, He.emptyTab_eq h2]
def hookN : PySem.W.Hook where
  α := He.AlX
  obs s := lookN fs cs fa fn ts tf ex s.heap.get?
  val w := He.valX fn ts w
  says w h := ∃ K : PySem.W.Frag, K.In h ∧ He.SaysX fa fn ts tf ex w h K
  of _ _ e := ⟨_, He.frT_in, look_says fa fn ts tf ex e⟩
  keeps _ _ _ := fun ⟨K, i, c⟩ k => ⟨K, PySem.W.Frag.In.keeps i k, { t := c.t, more := c.more, hd := c.hd, out := c.out, empty := fun p hp => k _ _ (c.empty p hp) }⟩
theorem lookN_eq {g : Addr → Option Obj} {s : Shared} (h : ∀ a, g a = s.heap.get? a) : lookN fs cs fa fn ts tf ex g = (hookN fs cs fa fn ts tf ex).obs s := by
  have e : g = s.heap.get? := funext h
  subst e
  rfl
end LmH
set_option Elab.async false
set_option linter.all false
set_option maxRecDepth 100000
set_option maxHeartbeats 2000000
namespace K62
open PySem PySem.Spec PyProof.Rows L2 LamX
def top (i : Nat) : Stmt := PySem.Challenge.pw_littlemasters_k62_journals_written.main.body.getD i (.Pass ⟨0, 0, 0, 0⟩)
abbrev FnP (K : PySem.W.Frag) (x qual : Str) (st : Stmt) (dv : List V) (f : Addr) (fd : FuncData) : Prop := FunD K x qual (defArgs st) (defBody st) (defScope st) dv [] f fd

/-! ### what may have changed: the lists in S, and the tables -/
structure Fx (T : List (Addr × Str)) (S : List Addr) (H H' : Hp) : Prop where
  stay : ∀ b o, H b = some o → (b ∉ S ∨ ∀ xs, o ≠ .lst xs) → (∀ ps, o ≠ .tbl ps) → H' b = some o
  tabs : Tabs T H → Tabs T H'
section
variable {T : List (Addr × Str)} {S S' : List Addr} {H H1 H2 H3 : Hp}
theorem Fx.refl (H : Hp) : Fx T S H H := ⟨fun _ _ h _ _ => h, fun h => h⟩
theorem Fx.trans (a : Fx T S H H1) (b : Fx T S H1 H2) : Fx T S H H2 := ⟨fun c o h n t => b.stay c o (a.stay c o h n t) n t, fun h => b.tabs (a.tabs h)⟩
theorem Fx.sub (a : Fx T S H H1) (h : ∀ b ∈ S, b ∈ S') : Fx T S' H H1 := ⟨fun c o e n t => a.stay c o e (n.imp (fun q z => q (h c z)) id) t, a.tabs⟩
theorem Fx.new {p : Addr} {o : HO} (h : H p = none) : Fx T S H (upd H p o) := ⟨fun b u e _ _ => by rw [upd_ne (ne_of_none e h)]; exact e, fun t q hq => (t q hq).ext fun b u e => by rw [upd_ne (ne_of_none e h)]; exact e⟩
/-- an address that H doesn't know may change -/
theorem Fx.drop {p : Addr} (h : H p = none) (a : Fx T (p :: S) H H1) : Fx T S H H1 := ⟨fun b o e n t => a.stay b o e (n.imp (fun q z => by
  rcases List.mem_cons.mp z with z | z
  · rw [z, h] at e; cases e
  · exact q z) id) t, a.tabs⟩
theorem Fx.put {l : Addr} {xs : List V} {o : HO} (h : H l = some (.lst xs)) (hl : l ∈ S) : Fx T S H (upd H l o) := by
  refine ⟨fun b u e n t => ?_, fun t q hq => ?_⟩
  · have : b ≠ l := fun z => by
      rw [z, h] at e
      rw [z] at n
      rcases n with n | n
      · exact n hl
      · exact n xs (Option.some.inj e).symm
    rw [upd_ne this]; exact e
  · obtain ⟨ps, h1, h2, h3⟩ := t q hq
    refine ⟨ps, by rw [upd_ne (fun z => by rw [z, h] at h1; cases h1)]; exact h1, h2, fun pos cv hc => ?_⟩
    obtain ⟨c, e1, e2⟩ := h3 pos cv hc
    refine ⟨c, e1, ?_⟩
    rw [upd_ne (fun z => by rw [z, h] at e2; unfold CodeO at e2; cases e2)]
    exact e2
theorem Fx.putN {l : Addr} {xs : List V} {o : HO} (a : Fx T S H H1) (h1 : H1 l = some (.lst xs)) (h : H l = none) : Fx T S H (upd H1 l o) :=
  Fx.drop h ((a.sub fun b hb => List.mem_cons_of_mem _ hb).trans (Fx.put h1 (.head _)))
theorem Fx.newA {p : Addr} {o : HO} (a : Fx T S H H1) (h : H1 p = none) : Fx T S H (upd H1 p o) := a.trans (Fx.new h)
theorem Fx.of_ext (e : ExtN H H1) (t : Tabs T H → Tabs T H1) : Fx T S H H1 := ⟨fun b o h _ n => e b o h n, t⟩
/-- an address that H doesn't know (or knows as a table) -/
def NewL (H : Hp) (l : Addr) : Prop := ∀ o, H l = some o → ∃ ps, o = .tbl ps
theorem NewL.of {l : Addr} (h : H l = none) : NewL H l := fun o e => by rw [h] at e; cases e
theorem NewL.back {l : Addr} (n : NewL H1 l) (a : Fx T S H H1) (hS : l ∉ S) : NewL H l := fun o e => by
  by_cases q : ∃ ps, o = .tbl ps
  · exact q
  · exact n o (a.stay l o e (.inl hS) fun ps z => q ⟨ps, z⟩)
theorem NewL.nel {l a : Addr} {xs : List V} (n : NewL H l) (h : H a = some (.lst xs)) : l ≠ a := fun z => by
  rw [← z] at h
  obtain ⟨ps, e⟩ := n _ h
  cases e
theorem Fx.dropN {p : Addr} (h : NewL H p) (a : Fx T (p :: S) H H1) : Fx T S H H1 := ⟨fun b o e n t => a.stay b o e (n.imp (fun q z => by
  rcases List.mem_cons.mp z with z | z
  · rw [z] at e
    obtain ⟨ps, w⟩ := h o e
    exact t ps w
  · exact q z) id) t, a.tabs⟩
theorem Fx.putNL {l : Addr} {xs : List V} {o : HO} (a : Fx T S H H1) (h1 : H1 l = some (.lst xs)) (h : NewL H l) : Fx T S H (upd H1 l o) :=
  Fx.dropN h ((a.sub fun b hb => List.mem_cons_of_mem _ hb).trans (Fx.put h1 (.head _)))
theorem Fx.none_back (a : Fx T S H H1) {p : Addr} (h : H1 p = none) (hT : ∀ ps, H p ≠ some (.tbl ps)) (hS : p ∉ S) : H p = none := by
  cases q : H p with
  | none => rfl
  | some o =>
    rw [a.stay p o q (.inl hS) (fun ps z => hT ps (by rw [q, z]))] at h
    cases h
theorem Fx.rdT {a : Addr} {xs : List V} (e : Fx T S H H1) (h : Rd H a (.tup xs)) : Rd H1 a (.tup xs) := by
  rcases h with h | ⟨o, h⟩
  · exact .inl (e.stay a _ h (.inr fun xs q => by cases q) fun ps q => by cases q)
  · exact .inr ⟨o, e.stay a _ h (.inr fun xs q => by cases q) fun ps q => by cases q⟩
theorem Fx.tup {K : PySem.W.Frag} {a : Addr} {xs : List V} (e : Fx T S H H1) (h : SqT K H a xs) : SqT K H1 a xs := by
  rcases h with h | h
  · exact .inl (e.rdT h)
  · exact .inr h
theorem Fx.ins {a C dx : Addr} {fs : List (Str × V)} (e : Fx T S H H1) (h : H a = some (.ins C dx fs)) : H1 a = some (.ins C dx fs) := e.stay a _ h (.inr fun xs q => by cases q) fun ps q => by cases q
theorem Fx.lst {a : Addr} {xs : List V} (e : Fx T S H H1) (h : H a = some (.lst xs)) (n : a ∉ S) : H1 a = some (.lst xs) := e.stay a _ h (.inl n) fun ps q => by cases q
end
theorem get_snoc {α : Type} (xs : List α) (y : α) : (xs ++ [y])[xs.length]? = some y := by simp
/-! ### the deck -/
def Deck (H : Hp) (d c : Addr) : Prop := d ≠ c ∧ ∃ (seed cnt : Int) (cells : List Int), cells.length ≤ 63 ∧ H d = some (.lst [.ref c, .int seed, .int cnt]) ∧ H c = some (.lst (cells.map V.int))
section
variable {T : List (Addr × Str)} {S : List Addr} {H H1 : Hp} {d c : Addr}
theorem Deck.fx (D : Deck H d c) (e : Fx T S H H1) (hd : d ∉ S) (hc : c ∉ S) : Deck H1 d c := by
  obtain ⟨n, seed, cnt, cells, hz, h1, h2⟩ := D
  exact ⟨n, seed, cnt, cells, hz, e.lst h1 hd, e.lst h2 hc⟩
theorem Deck.new (D : Deck H d c) {p : Addr} {o : HO} (h : H p = none) : Deck (upd H p o) d c := by
  obtain ⟨n, seed, cnt, cells, hz, h1, h2⟩ := D
  exact ⟨n, seed, cnt, cells, hz, by rw [upd_ne (ne_of_none h1 h)]; exact h1, by rw [upd_ne (ne_of_none h2 h)]; exact h2⟩
end
theorem Deck.ne {H : Hp} {d c p : Addr} (D : Deck H d c) (h : H p = none) : p ≠ d ∧ p ≠ c := by
  obtain ⟨n, seed, cnt, cells, hz, h1, h2⟩ := D
  exact ⟨fun z => (by rw [z, h1] at h; cases h), fun z => (by rw [z, h2] at h; cases h)⟩
theorem Deck.nin {H : Hp} {d c p : Addr} (D : Deck H d c) (h : H p = none) : p ∉ [d, c] := by
  obtain ⟨h1, h2⟩ := D.ne h
  simp [h1, h2]
theorem Deck.put {H : Hp} {d c p : Addr} {o : HO} (D : Deck H d c) (h : p ∉ [d, c]) : Deck (upd H p o) d c := by
  obtain ⟨n, seed, cnt, cells, hz, h1, h2⟩ := D
  have hh : p ≠ d ∧ p ≠ c := by simpa using h
  exact ⟨n, seed, cnt, cells, hz, by rw [upd_ne hh.1.symm]; exact h1, by rw [upd_ne hh.2.symm]; exact h2⟩
/-! ### the text's facts -/
structure Nm (mg : Str → Option Value) : Prop where
  n_len : mg "len" = none
  n_range : mg "range" = none
  n_tuple : mg "tuple" = none
  n_list : mg "list" = none
  n_int : mg "int" = none
  n_str : mg "str" = none
  n_bool : mg "bool" = none
  n_zip : mg "zip" = none
  n_all : mg "all" = none
  n_sorted : mg "sorted" = none
  n_set : mg "set" = none
  n_divmod : mg "divmod" = none
  n_abs : mg "abs" = none
  n_isinstance : mg "isinstance" = none
end K62
set_option Elab.async false
set_option linter.all false
set_option maxRecDepth 100000
set_option maxHeartbeats 2000000
namespace K62
open PySem PySem.Spec PyProof.Rows L2 LamX
abbrev st_law_deck : Stmt := top 80
abbrev N_law_deck : List PySem.Str := ["_law_script", "_law_cells", "_law_seed", "_law_cell"]
theorem sc_law_deck : FnScope N_law_deck ["_law_script"] (defScope st_law_deck) := ⟨rfl, rfl, rfl, by decide +kernel, rfl, by decide +kernel, by decide +kernel⟩
abbrev st_law_draw : Stmt := top 81
abbrev N_law_draw : List PySem.Str := ["_law_deck_here", "_law_most", "_law_cell", "_law_number"]
theorem sc_law_draw : FnScope N_law_draw ["_law_deck_here", "_law_most"] (defScope st_law_draw) := ⟨rfl, rfl, rfl, by decide +kernel, rfl, by decide +kernel, by decide +kernel⟩
section
variable {P : Program} {w : World} {K : PySem.W.Frag} {mg : Str → Option Value} {base : Heap} {TB : List (Addr × Str)}
def spDeck (TB : List (Addr × Str)) (K : PySem.W.Frag) : Sp := fun vs H Q _ => ∃ (a : Addr) (ns : List Int), vs = [.ref a] ∧ SqL K H a (ns.map V.int) ∧ ∀ d c H', Fx TB [] H H' → Deck H' d c → Q (.ref d) H'
theorem cut_map (ns : List Int) (lo hi : Option Int) : ∃ ms : List Int, cutV (ns.map V.int) lo hi = ms.map V.int ∧ (∀ k : Int, hi = some k → lo = none → (0 ≤ k → ms.length ≤ k.toNat)) := by
  unfold cutV
  rw [List.length_map]
  refine ⟨(ns.drop _).take _, by rw [List.map_take, List.map_drop], fun k h1 h2 h3 => ?_⟩
  subst h1 h2
  rw [List.length_take]
  refine Nat.le_trans (Nat.min_le_left _ _) ?_
  show HT.sIx ns.length ns.length (some k) - HT.sIx ns.length 0 none ≤ _
  refine Nat.le_trans (Nat.sub_le _ _) ?_
  show (if k < 0 then _ else min k.toNat ns.length) ≤ _
  rw [if_neg (by omega)]
  exact Nat.min_le_left _ _
theorem ok_deck {f : Addr} {fd : FuncData} (F : FnP K "_law_deck" "_law_deck" st_law_deck [] f fd) (T : Nm mg) : FnOk P w K mg base CX0 1 f fd ["_law_script"] (spDeck TB K) := by
  refine F.ok sc_law_deck (fun vs H Q E h => ?_) (fun cdv A outer s H vs Q E hr h => ?_)
  · obtain ⟨a, ns, rfl, _⟩ := h
    rfl
  · obtain ⟨a, ns, rfl, hs, k⟩ := h
    refine ⟨_, (PSs.nox (pss_cons (ps_set (i := 1) sc_law_deck.nd rfl (Or.inl rfl) (pe_callTy (Kx.list_of (K := K)) (by rfl) T.n_list (by decide +kernel) (pa_cons (pe_slice (Kx.sl_list (K := K)) (pv 0) po_none (po_some pe_int)) pa_nil)))
  (pss_cons (ps_set (i := 2) sc_law_deck.nd rfl (Or.inl rfl) pe_int)
  (pss_cons (ps_for PassesOwn.never rfl (Kx.pi_list (K := K) (pv 1)) (pg_name (i := 3) sc_law_deck.nd rfl (Or.inl rfl))
  (pss_one (ps_set (i := 2) sc_law_deck.nd rfl (Or.inl rfl) (pe_op op_mod (pe_op op_add (pe_op op_add (pe_op op_mul (pv 2) pe_int) (pe_op op_mod (pv 3) pe_int)) pe_int) pe_int))))
  (pss_one (ps_ret (pe_lst (pa_cons (Kx.revL (K := K) (pv 1)) (pa_cons (pv 2) (pa_cons pe_int pa_nil)))))))))), ?_⟩
    obtain ⟨ms, em, hml⟩ := cut_map ns none (some 63)
    refine ⟨_, rfl, _, rfl, a, _, rfl, hs, fun p hp => ⟨p, _, rfl, .inl (SqL.of upd_same), fun l hl => ?_⟩⟩
    rw [em]
    have npl : p ≠ l := fun z => by rw [← z, upd_same] at hl; cases hl
    have e0 : Fx TB [] H (upd (upd H p (.lst (ms.map V.int))) l (.lst (ms.map V.int))) := (Fx.new hp).newA (by rw [← em]; exact hl)
    refine ⟨_, rfl, l, rfl, ⟨_, SqL.of upd_same⟩, for_list (K := K) (a := l) (xs := ms.map V.int) (fun i σ H' => ∃ (z : Int) (v : Option V), σ = [some (.ref a), some (.ref l), some (.int z), v] ∧ H' = upd (upd H p (.lst (ms.map V.int))) l (.lst (ms.map V.int))) ⟨11, none, rfl, rfl⟩
      (fun i σ H' _ ⟨_, _, _, e⟩ => by rw [e]; exact SqL.of upd_same) ?_ ?_⟩
    · rintro i x σ H' hi ⟨z, v, rfl, rfl⟩
      obtain ⟨n, rfl⟩ : ∃ n, x = V.int n := by
        rw [List.getElem?_map] at hi
        cases q : ms[i]? with
        | none => rw [q] at hi; cases hi
        | some n => rw [q] at hi; exact ⟨n, (Option.some.inj hi).symm⟩
      refine ⟨_, rfl, _, _, rfl, rfl, .inr ⟨by decide, by decide⟩, _, rfl, _, _, rfl, rfl, by show (0 : Int) < 2147483587; decide, _, _, rfl, rfl, _, _, rfl, rfl, _, _, rfl, rfl, by show (0 : Int) < 2147483629; decide, _, _, rfl, rfl⟩
    · rintro σ H' ⟨z, v, rfl, rfl⟩
      refine ⟨_, rfl, l, _, rfl, SqL.of upd_same, fun q hq => ⟨_, rfl, ?_⟩⟩
      refine ⟨by show 3 ≤ sizeLine; decide, fun d hd => ?_⟩
      have nqd : d ≠ q := fun z => by rw [z, upd_same] at hd; cases hd
      refine k d q _ ((e0.newA hq).newA hd) ⟨nqd, z, 0, ms.reverse, by rw [List.length_reverse]; exact hml 63 rfl rfl (by decide), upd_same, ?_⟩
      rw [upd_ne nqd.symm, upd_same, List.map_reverse]
def spDraw (TB : List (Addr × Str)) : Sp := fun vs H Q _ => ∃ (d c : Addr) (m : Int), vs = [.ref d, .int m] ∧ Deck H d c ∧ 0 < m ∧ m < 1073741824 ∧ ∀ (r : Int) H', 0 ≤ r → r < m → Fx TB [d, c] H H' → Deck H' d c → Q (.int r) H'
theorem emod_b (x : Int) : -(2 ^ 64) < x % 2147483647 ∧ x % 2147483647 < 2 ^ 64 := by omega
theorem emod_c (x : Int) : -(2 ^ 64) < x % 2147483587 ∧ x % 2147483587 < 2 ^ 64 := by omega
theorem emod_r {x m : Int} (h : 0 < m) : 0 ≤ x % m ∧ x % m < m := ⟨Int.emod_nonneg _ (by omega), Int.emod_lt_of_pos _ h⟩
theorem eqv_nil (l : List PyData) : PyData.eqv (.list l) (.list []) = l.isEmpty := by
  cases l with
  | nil => rfl
  | cons a l => simp only [PyData.eqv, PyData.eqvAll]; rfl
theorem dp_ints {K : PySem.W.Frag} {H : Hp} : ∀ ns : List Int, DpAll K H (ns.map V.int) (ns.map PyData.int)
  | [] => .nil
  | n :: ns => .cons (.int n) (dp_ints ns)
theorem shaped_ints (ns : List Int) : SeqAt.shaped (.list (ns.map PyData.int)) = true := by
  have h : ∀ ms : List Int, PyData.canLayAll0 (ms.map PyData.int) = true ∧ PyData.depthAll (ms.map PyData.int) = 0 := fun ms => by
    induction ms with
    | nil => exact ⟨rfl, rfl⟩
    | cons m ms ih => exact ⟨by show (true && PyData.canLayAll0 _) = true; rw [ih.1]; rfl, by show max 0 (PyData.depthAll _) = 0; rw [ih.2]; rfl⟩
  unfold SeqAt.shaped
  have h1 := h ns
  show (PyData.canLayAll0 _ && decide (PyData.depthAll _ + 1 ≤ 64)) = true
  rw [h1.1, h1.2]; rfl
/-- the deck, its three numbers and its cells told -/
structure D3 (H : Hp) (d c : Addr) (seed cnt : Int) (cs : List Int) : Prop where
  ne : d ≠ c
  hz : cs.length ≤ 63
  hd : H d = some (.lst [.ref c, .int seed, .int cnt])
  hc : H c = some (.lst (cs.map V.int))
theorem D3.new {H : Hp} {d c p : Addr} {seed cnt : Int} {cs : List Int} (D : D3 H d c seed cnt cs) (h : H p = none) (o : HO) : D3 (upd H p o) d c seed cnt cs :=
  ⟨D.ne, D.hz, by rw [upd_ne (ne_of_none D.hd h)]; exact D.hd, by rw [upd_ne (ne_of_none D.hc h)]; exact D.hc⟩
theorem D3.cells {H : Hp} {d c : Addr} {seed cnt : Int} {cs : List Int} (D : D3 H d c seed cnt cs) (cs' : List Int) (h : cs'.length ≤ 63) : D3 (upd H c (.lst (cs'.map V.int))) d c seed cnt cs' :=
  ⟨D.ne, h, by rw [upd_ne D.ne]; exact D.hd, upd_same⟩
theorem ok_draw {f : Addr} {fd : FuncData} (F : FnP K "_law_draw" "_law_draw" st_law_draw [] f fd) (T : Nm mg) : FnOk P w K mg base CX0 1 f fd ["_law_deck_here", "_law_most"] (spDraw TB) := by
  refine F.ok sc_law_draw (fun vs H Q E h => ?_) (fun cdv A outer s H vs Q E hr h => ?_)
  · obtain ⟨d, c, m, rfl, _⟩ := h
    rfl
  · obtain ⟨d, c, m, rfl, ⟨ndc, seed, cnt, cells, hz0, hd, hc⟩, hm, hm2, k⟩ := h
    refine ⟨_, (PSs.nox (pss_cons (ps_asg (pe_op op_add (pe_ix (Kx.ix_list (K := K)) (pv 0) pe_int (fun _ _ => rfl)) pe_int) (pg_sub (pv 0) pe_int set_list))
  (pss_cons (ps_set (i := 2) sc_law_draw.nd rfl (Or.inl rfl) (pe_ix (Kx.ix_list (K := K)) (pv 0) pe_int (fun _ _ => rfl)))
  (pss_cons (ps_if (pt_cmpR (Kx.neD (K := K) hr.units) (pe_ix (Kx.ix_list (K := K)) (pv 0) pe_int (fun _ _ => rfl)) (pe_lst pa_nil) (nomark _))
  (pss_cons (ps_set (i := 2) sc_law_draw.nd rfl (Or.inl rfl) (Kx.bm0 (K := K) PySem.F.plainAttrs_list PySem.F.slot_list_pop PySem.F.type_list_pop mt_pop (pe_ix (Kx.ix_list (K := K)) (pv 0) pe_int (fun _ _ => rfl))))
  (pss_one (ps_if (pt_cmpR op_ge (pv 2) (pe_op op_pow pe_int pe_int) (nomark _))
  (pss_cons (ps_expr (Kx.bm (K := K) PySem.F.plainAttrs_list PySem.F.slot_list_append PySem.F.type_list_append mt_append (pe_ix (Kx.ix_list (K := K)) (pv 0) pe_int (fun _ _ => rfl)) (pa_cons (pe_op op_fdiv (pv 2) (pv 1)) pa_nil)))
  (pss_one (ps_ret (pe_op op_mod (pv 2) (pv 1)))))
  pss_nil)))
  pss_nil)
  (pss_cons (ps_set (i := 3) sc_law_draw.nd rfl (Or.inl rfl) (pe_op op_mod (pe_op op_mul (pe_op op_add (pe_op op_add (pe_op op_mod (pv 2) pe_int) (pe_op op_mul pe_int (pe_ix (Kx.ix_list (K := K)) (pv 0) pe_int (fun _ _ => rfl)))) pe_int) pe_int) pe_int))
  (pss_cons (ps_set (i := 3) sc_law_draw.nd rfl (Or.inl rfl) (pe_op op_mod (pe_op op_add (pe_op op_add (pe_op op_mul (pv 3) (pv 3)) (pe_op op_mul pe_int (pe_ix (Kx.ix_list (K := K)) (pv 0) pe_int (fun _ _ => rfl)))) pe_int) pe_int))
  (pss_one (ps_ret (pe_op op_mod (pe_op op_fdiv (pe_op op_mod (pe_op op_mul (pv 3) (pe_op op_add (pe_op op_fdiv (pv 3) pe_int) pe_int)) pe_int) pe_int) (pv 1)))))))))), ?_⟩
    refine ⟨_, rfl, d, _, 2, _, rfl, rfl, SqL.of hd, atI_nat (j := 2) rfl, _, _, rfl, rfl, _, rfl, d, _, _, 2, rfl, rfl, hd, rfl, ?_⟩
    have e1 : Fx TB [d, c] H (upd H d (.lst [.ref c, .int seed, .int (cnt + 1)])) := Fx.put hd (by simp)
    have D1 : D3 (upd H d (.lst [.ref c, .int seed, .int (cnt + 1)])) d c seed (cnt + 1) cells := ⟨ndc, hz0, upd_same, by rw [upd_ne ndc.symm]; exact hc⟩
    refine ⟨_, rfl, d, _, 1, _, rfl, rfl, SqL.of D1.hd, atI_nat (j := 1) rfl, ?_⟩
    refine ⟨_, rfl, d, _, 0, _, rfl, rfl, SqL.of D1.hd, atI_nat (j := 0) rfl, by show 0 ≤ sizeLine; decide, fun p hp => ?_⟩
    have D2 := D1.new hp (.lst [])
    have e2 : Fx TB [d, c] H _ := e1.newA (o := .lst []) hp
    refine ⟨.list (cells.map PyData.int), .list [], .lst (SqL.of D2.hc) (dp_ints cells), .lst (SqL.of upd_same) .nil, shaped_ints cells, rfl, _, rfl, ?_⟩
    rw [eqv_nil]
    have rest : ∀ (xs : List Int) (H3 : Hp), Fx TB [d, c] H H3 → D3 H3 d c seed (cnt + 1) xs → ∀ r, 0 ≤ r → r < m → Q (.int r) H3 := fun xs H3 e D r h3 h4 => k r H3 h3 h4 e ⟨ndc, seed, cnt + 1, xs, D.hz, D.hd, D.hc⟩
    rcases List.eq_nil_or_concat cells with ec | ⟨cs, z, ec⟩
    · subst ec
      refine ⟨_, rfl, _, _, rfl, rfl, by show (0 : Int) < 2147483629; decide, _, rfl, d, _, 2, _, rfl, rfl, SqL.of D2.hd, atI_nat (j := 2) rfl, _, _, rfl, rfl, .inl ⟨by decide, by decide⟩, _, _, rfl, rfl, _, _, rfl, rfl, _, _, rfl, rfl, .inr ⟨by decide, by decide⟩, _, _, rfl, rfl, by show (0 : Int) < 2147483647; decide, ?_⟩
      refine ⟨_, rfl, _, rfl, _, _, rfl, rfl, .inl (emod_b _), _, rfl, d, _, 2, _, rfl, rfl, SqL.of D2.hd, atI_nat (j := 2) rfl, _, _, rfl, rfl, .inl ⟨by decide, by decide⟩, _, _, rfl, rfl, _, _, rfl, rfl, _, _, rfl, rfl, by show (0 : Int) < 2147483587; decide, ?_⟩
      refine ⟨_, rfl, _, rfl, _, _, rfl, rfl, ⟨by decide, by decide⟩, _, _, rfl, rfl, _, _, rfl, rfl, .inl (emod_c _), _, _, rfl, rfl, by show (0 : Int) < 2147483563; decide, _, _, rfl, rfl, ⟨by decide, by decide⟩, _, rfl, _, _, rfl, rfl, hm, ?_⟩
      exact rest [] _ e2 D2 _ (emod_r hm).1 (emod_r hm).2
    · have ecc : cells = cs ++ [z] := by rw [ec]; simp
      subst ecc
      have hne : ((cs ++ [z]).map PyData.int).isEmpty = false := by simp
      rw [hne]
      have hl : (cs ++ [z]).map V.int = cs.map V.int ++ [V.int z] := by simp
      have hc2 := D2.hc
      rw [hl] at hc2
      refine ⟨_, rfl, d, _, 0, _, rfl, rfl, SqL.of D2.hd, atI_nat (j := 0) rfl, ?_⟩
      refine ⟨.inl ⟨rfl, _, SqL.of hc2⟩, c, _, .int z, rfl, rfl, hc2, by simp, ?_⟩
      rw [List.dropLast_concat]
      have e3 := e2.trans (Fx.put (o := .lst (cs.map V.int)) hc2 (by simp))
      have hz1 : cs.length + 1 ≤ 63 := by simpa using hz0
      have D4 := D2.cells cs (by omega)
      refine ⟨_, rfl, _, _, rfl, rfl, ⟨by decide, by decide, by decide⟩, _, _, rfl, rfl, _, rfl, ?_⟩
      by_cases hz : ((10 : Int) ^ (18 : Int).toNat ≤ z)
      · rw [decide_eq_true hz]
        refine ⟨_, rfl, d, _, 0, _, rfl, rfl, SqL.of D4.hd, atI_nat (j := 0) rfl, .inl ⟨rfl, _, SqL.of D4.hc⟩, _, rfl, _, rfl, _, _, rfl, rfl, ⟨hm, hm2⟩, c, _, _, rfl, rfl, D4.hc, ?_, ?_⟩
        · rw [List.length_map]; exact Nat.lt_of_lt_of_le (show cs.length < 100 by omega) (by decide)
        refine ⟨_, rfl, _, rfl, _, _, rfl, rfl, hm, ?_⟩
        have e5 := e3.trans (Fx.put (o := .lst (cs.map V.int ++ [V.int (z / m)])) D4.hc (by simp))
        have D5 := D4.cells (cs ++ [z / m]) (by simpa using hz1)
        have el : (cs ++ [z / m]).map V.int = cs.map V.int ++ [V.int (z / m)] := by simp
        rw [el] at D5
        exact rest (cs ++ [z / m]) _ e5 D5 _ (emod_r hm).1 (emod_r hm).2
      · rw [decide_eq_false hz]
        refine ⟨_, rfl, _, _, rfl, rfl, by show (0 : Int) < 2147483629; decide, _, rfl, d, _, 2, _, rfl, rfl, SqL.of D4.hd, atI_nat (j := 2) rfl, _, _, rfl, rfl, .inl ⟨by decide, by decide⟩, _, _, rfl, rfl, _, _, rfl, rfl, _, _, rfl, rfl, .inr ⟨by decide, by decide⟩, _, _, rfl, rfl, by show (0 : Int) < 2147483647; decide, ?_⟩
        refine ⟨_, rfl, _, rfl, _, _, rfl, rfl, .inl (emod_b _), _, rfl, d, _, 2, _, rfl, rfl, SqL.of D4.hd, atI_nat (j := 2) rfl, _, _, rfl, rfl, .inl ⟨by decide, by decide⟩, _, _, rfl, rfl, _, _, rfl, rfl, _, _, rfl, rfl, by show (0 : Int) < 2147483587; decide, ?_⟩
        refine ⟨_, rfl, _, rfl, _, _, rfl, rfl, ⟨by decide, by decide⟩, _, _, rfl, rfl, _, _, rfl, rfl, .inl (emod_c _), _, _, rfl, rfl, by show (0 : Int) < 2147483563; decide, _, _, rfl, rfl, ⟨by decide, by decide⟩, _, rfl, _, _, rfl, rfl, hm, ?_⟩
        exact rest cs _ e3 D4 _ (emod_r hm).1 (emod_r hm).2
end
end K62
set_option Elab.async false
set_option linter.all false
set_option maxRecDepth 100000
set_option maxHeartbeats 2000000
namespace K62
open PySem PySem.Spec PyProof.Rows L2 LamX
/-! ### items -/
theorem ix_of {α : Type} {xs : List α} {r : Int} (h0 : 0 ≤ r) (h1 : r < xs.length) : ∃ v, atI xs r = some v ∧ v ∈ xs := by
  obtain ⟨n, rfl⟩ : ∃ n : Nat, r = n := ⟨r.toNat, by omega⟩
  have hn : n < xs.length := by omega
  exact ⟨xs[n], atI_nat (List.getElem?_eq_getElem hn), List.getElem_mem hn⟩
theorem paired_get {α β : Type} {F : α → β → Prop} : ∀ {xs : List α} {ys : List β} {i : Nat} {x : α}, Paired F xs ys → xs[i]? = some x → ∃ y, ys[i]? = some y ∧ F x y
  | _, _, _, _, .nil, h => by simp at h
  | _, _, 0, _, .cons f _, h => by simp at h; subst h; exact ⟨_, rfl, f⟩
  | _, _, i + 1, _, .cons _ t, h => by
    obtain ⟨y, h1, h2⟩ := paired_get (i := i) t (by simpa using h)
    exact ⟨y, by simpa using h1, h2⟩
theorem paired_get' {α β : Type} {F : α → β → Prop} : ∀ {xs : List α} {ys : List β} {i : Nat} {y : β}, Paired F xs ys → ys[i]? = some y → ∃ x, xs[i]? = some x ∧ F x y
  | _, _, _, _, .nil, h => by simp at h
  | _, _, 0, _, .cons f _, h => by simp at h; subst h; exact ⟨_, rfl, f⟩
  | _, _, i + 1, _, .cons _ t, h => by
    obtain ⟨y, h1, h2⟩ := paired_get' (i := i) t (by simpa using h)
    exact ⟨y, by simpa using h1, h2⟩
theorem paired_mem {α β : Type} {F : α → β → Prop} : ∀ {xs : List α} {ys : List β} {x : α}, Paired F xs ys → x ∈ xs → ∃ y, y ∈ ys ∧ F x y
  | _, _, _, .nil, h => by simp at h
  | _, _, _, .cons f t, h => by
    rcases List.mem_cons.mp h with h | h
    · subst h; exact ⟨_, List.mem_cons_self .., f⟩
    · obtain ⟨y, h1, h2⟩ := paired_mem t h
      exact ⟨y, List.mem_cons_of_mem _ h1, h2⟩
theorem paired_len {α β : Type} {F : α → β → Prop} : ∀ {xs : List α} {ys : List β}, Paired F xs ys → xs.length = ys.length
  | _, _, .nil => rfl
  | _, _, .cons _ t => by rw [List.length_cons, List.length_cons, paired_len t]
theorem get_int {ns : List Int} {i : Nat} {x : V} (h : (ns.map V.int)[i]? = some x) : ∃ n, ns[i]? = some n ∧ x = .int n := by
  rw [List.getElem?_map] at h
  cases q : ns[i]? with
  | none => rw [q] at h; cases h
  | some n => rw [q] at h; exact ⟨n, rfl, (Option.some.inj h).symm⟩
theorem ty_line {n : Nat} (h : n ≤ 10000000) : n ≤ sizeLine := Nat.le_trans h (by decide)
theorem lt_line {n : Nat} (h : n ≤ 1000000) : n < sizeLine := Nat.lt_of_le_of_lt h (by decide)
/-! ### the house -/
def IsHand (K : PySem.W.Frag) (H : Hp) (v : V) (h : Str × List Int) : Prop := ∃ p c, v = .ref p ∧ SqT K H p [.str h.1, .ref c] ∧ SqT K H c (h.2.map V.int)
def HandOk (h : Str × List Int) : Prop := h.1.length ≤ 1 ∧ h.2.length ≤ 4 ∧ ∀ x ∈ h.2, 0 ≤ x ∧ x ≤ 3
def IsHouse (K : PySem.W.Frag) (H : Hp) (l : Addr) (hs : List (Str × List Int)) : Prop := ∃ vs, SqT K H l vs ∧ Paired (IsHand K H) vs hs
def HouseOk (hs : List (Str × List Int)) : Prop := 0 < hs.length ∧ hs.length ≤ 6 ∧ ∀ h ∈ hs, HandOk h
section
variable {T : List (Addr × Str)} {S : List Addr} {K : PySem.W.Frag} {H H1 : Hp}
theorem IsHand.fx {v : V} {h : Str × List Int} (e : Fx T S H H1) (x : IsHand K H v h) : IsHand K H1 v h := by
  obtain ⟨p, c, e1, e2, e3⟩ := x
  exact ⟨p, c, e1, e.tup e2, e.tup e3⟩
theorem hands_fx {vs : List V} {hs : List (Str × List Int)} (e : Fx T S H H1) (x : Paired (IsHand K H) vs hs) : Paired (IsHand K H1) vs hs := Paired.mapP x fun _ _ y => y.fx e
theorem IsHouse.fx {l : Addr} {hs : List (Str × List Int)} (e : Fx T S H H1) (x : IsHouse K H l hs) : IsHouse K H1 l hs := by
  obtain ⟨vs, h1, h2⟩ := x
  exact ⟨vs, e.tup h1, hands_fx e h2⟩
end
/-! ### deeds -/
inductive Part where
  | txt (s : Str) | tal (blades dozen : Int) | num (n : Int) | non | yes (b : Bool)
structure Deed where
  name : Str
  parts : List Part
def IsPart (CT : Addr) (H : Hp) (v : V) : Part → Prop
  | .txt s => v = .str s
  | .tal b z => ∃ a dx, v = .ref a ∧ H a = some (.ins CT dx [("blades", .int b), ("dozen", .int z)])
  | .num n => v = .int n
  | .non => v = .non
  | .yes b => v = .bl b
def IsDeed (CT : Addr) (K : PySem.W.Frag) (H : Hp) (q : Addr) (d : Deed) : Prop := ∃ vs, SqT K H q (.str d.name :: vs) ∧ Paired (IsPart CT H) vs d.parts
def PartOk : Part → Prop
  | .txt s => s.length ≤ 16
  | .tal b z => 0 ≤ b ∧ b ≤ 1000000 ∧ (z = 12 ∨ z = 14)
  | .num n => n.natAbs.log2 < 1900
  | .non => True
  | .yes _ => True
/-- its parts are of the form's kinds -/
def Kind : Nat → Part → Prop
  | 116, .txt _ => True
  | 99, .tal _ _ => True
  | 98, .yes _ => True
  | 109, .num _ => True
  | 110, .num _ => True
  | 110, .non => True
  | _, _ => False
def forms : List (Str × List Nat) := [("bring", [116, 116, 99]), ("give", [116, 116]), ("work", [116, 110]), ("waste", [116, 116, 116, 109]), ("send", [116, 98])]
def DeedOk (d : Deed) : Prop := (∃ f, (d.name, f) ∈ forms ∧ Paired Kind f d.parts) ∧ ∀ p ∈ d.parts, PartOk p
section
variable {T : List (Addr × Str)} {S : List Addr} {CT : Addr} {K : PySem.W.Frag} {H H1 : Hp}
theorem IsPart.fx (e : Fx T S H H1) : ∀ {v : V} {p : Part}, IsPart CT H v p → IsPart CT H1 v p
  | _, .txt _, x => x
  | _, .tal _ _, ⟨a, dx, h1, h2⟩ => ⟨a, dx, h1, e.ins h2⟩
  | _, .num _, x => x
  | _, .non, x => x
  | _, .yes _, x => x
theorem IsDeed.fx {q : Addr} {d : Deed} (e : Fx T S H H1) (x : IsDeed CT K H q d) : IsDeed CT K H1 q d := by
  obtain ⟨vs, h1, h2⟩ := x
  exact ⟨vs, e.tup h1, Paired.mapP h2 fun _ _ y => y.fx e⟩
end
/-- an entry: a day and a deed -/
abbrev Ent := Int × Deed
def IsEnt (CT : Addr) (K : PySem.W.Frag) (H : Hp) (v : V) (e : Ent) : Prop := ∃ p q, v = .ref p ∧ SqT K H p [.int e.1, .ref q] ∧ IsDeed CT K H q e.2
def EntOk (e : Ent) : Prop := 0 ≤ e.1 ∧ e.1 ≤ 1000000 ∧ DeedOk e.2
section
variable {T : List (Addr × Str)} {S : List Addr} {CT : Addr} {K : PySem.W.Frag} {H H1 : Hp}
theorem IsEnt.fx {v : V} {d : Ent} (e : Fx T S H H1) (x : IsEnt CT K H v d) : IsEnt CT K H1 v d := by
  obtain ⟨p, q, h1, h2, h3⟩ := x
  exact ⟨p, q, h1, e.tup h2, h3.fx e⟩
theorem ents_fx {vs : List V} {es : List Ent} (e : Fx T S H H1) (x : Paired (IsEnt CT K H) vs es) : Paired (IsEnt CT K H1) vs es := Paired.mapP x fun _ _ y => y.fx e
end
end K62
set_option Elab.async false
set_option linter.all false
set_option maxRecDepth 100000
set_option maxHeartbeats 2000000
namespace K62
open PySem PySem.Spec PyProof.Rows L2 LamX
abbrev st_law_house : Stmt := top 82
abbrev N_law_house : List PySem.Str := ["_law_deck_here", "_law_way", "_law_many_here", "_law_first", "_law_step", "_law_found", "_law_k", "_law_letter", "_law_sure", "_law_crafts", "_law_deed_here"]
theorem sc_law_house : FnScope N_law_house ["_law_deck_here"] (defScope st_law_house) := ⟨rfl, rfl, rfl, by decide +kernel, rfl, by decide +kernel, by decide +kernel⟩
/-- a def of the text that is called -/
structure Cal (P : Program) (w : World) (K : PySem.W.Frag) (mg : Str → Option Value) (base : Heap) (k : Nat) (x : Str) (f : Addr) (fd : FuncData) (ps : List Str) (sp : Sp) : Prop where
  G : FnOk P w K mg base CX0 k f fd ps sp
  g : mg x = some (.ref f)
  kp : PySem.W.keepIn K (.ref f) = true
  b : Binds K fd ps []
section
variable {P : Program} {w : World} {K : PySem.W.Frag} {mg : Str → Option Value} {base : Heap} {TB : List (Addr × Str)}
def spHouse (TB : List (Addr × Str)) (K : PySem.W.Frag) : Sp := fun vs H Q _ => ∃ (d c : Addr), vs = [.ref d] ∧ Deck H d c ∧ ∀ l hs H', Fx TB [d, c] H H' → Deck H' d c → IsHouse K H' l hs → HouseOk hs → Q (.ref l) H'
theorem letters_len : (Str.ofString "abcdefghijklmnopqrstuvwxyz").cps.toList.length = 26 := by decide
theorem ok_house {f fD : Addr} {fd fdD : FuncData} (F : FnP K "_law_house" "_law_house" st_law_house [] f fd) (T : Nm mg) (C_law_draw : Cal P w K mg base 1 "_law_draw" fD fdD ["_law_deck_here", "_law_most"] (spDraw TB)) :
    FnOk P w K mg base CX0 3 f fd ["_law_deck_here"] (spHouse TB K) := by
  refine F.ok sc_law_house (fun vs H Q E h => ?_) (fun cdv A outer s H vs Q E hr h => ?_)
  · obtain ⟨d, c, rfl, _⟩ := h
    rfl
  · obtain ⟨d, c, rfl, D, k⟩ := h
    refine ⟨_, (PSs.nox (pss_cons (ps_set (i := 1) sc_law_house.nd rfl (Or.inl rfl) (pe_call C_law_draw.G (hr.mono (by decide)) rfl C_law_draw.g C_law_draw.kp C_law_draw.b .nil pass0 (pa_cons (pv 0) (pa_cons pe_int pa_nil))))
  (pss_cons (ps_set (i := 2) sc_law_house.nd rfl (Or.inl rfl) (pe_op op_add pe_int (pe_call C_law_draw.G (hr.mono (by decide)) rfl C_law_draw.g C_law_draw.kp C_law_draw.b .nil pass0 (pa_cons (pv 0) (pa_cons pe_int pa_nil)))))
  (pss_cons (ps_set (i := 3) sc_law_house.nd rfl (Or.inl rfl) (pe_call C_law_draw.G (hr.mono (by decide)) rfl C_law_draw.g C_law_draw.kp C_law_draw.b .nil pass0 (pa_cons (pv 0) (pa_cons pe_int pa_nil))))
  (pss_cons (ps_set (i := 4) sc_law_house.nd rfl (Or.inl rfl) (pe_ix (Kx.ix_list (K := K)) (pe_lst (pa_cons pe_int (pa_cons pe_int (pa_cons pe_int (pa_cons pe_int (pa_cons pe_int (pa_cons pe_int pa_nil))))))) (pe_call C_law_draw.G (hr.mono (by decide)) rfl C_law_draw.g C_law_draw.kp C_law_draw.b .nil pass0 (pa_cons (pv 0) (pa_cons pe_int pa_nil))) (fun _ _ => rfl)))
  (pss_cons (ps_set (i := 5) sc_law_house.nd rfl (Or.inl rfl) (pe_lst pa_nil))
  (pss_cons (ps_for PassesOwn.never rfl (pi_range1 (by rfl) T.n_range (pa_cons (pv 2) pa_nil)) (pg_name (i := 6) sc_law_house.nd rfl (Or.inl rfl))
  (pss_cons (ps_set (i := 7) sc_law_house.nd rfl (Or.inl rfl) (pe_ix ix_str pe_str (pe_op op_mod (pe_op op_add (pv 3) (pe_op op_mul (pv 4) (pv 6))) pe_int) (fun _ _ => rfl)))
  (pss_cons (ps_set (i := 8) sc_law_house.nd rfl (Or.inr rfl) (pe_call C_law_draw.G (hr.mono (by decide)) rfl C_law_draw.g C_law_draw.kp C_law_draw.b .nil pass0 (pa_cons (pv 0) (pa_cons pe_int pa_nil))))
  (pss_cons (ps_set (i := 9) sc_law_house.nd rfl (Or.inl rfl) (pe_callTy (Kx.tuple_of (K := K)) (by rfl) T.n_tuple (by decide +kernel) (pa_cons (pe_lc (own := [("_law_deed_here", 10)]) rfl sc_law_house.nd (pi_range1 (by rfl) T.n_range (pa_cons pe_int pa_nil)) (blkOk_by (N := N_law_house) (sc := defScope st_law_house) (own := [("_law_deed_here", 10)]) (by decide +kernel)) (fun _ _ _ _ _ => (pg_name (i := 10) sc_law_house.nd rfl (Or.inl rfl))) (fun _ _ _ _ _ => (pts_one (PW.pt (pw_or (pt_cmpR op_eq (pv 10) (pv 8) (nomark _)) (pw_or1 (pt_cmpR op_eq (pe_call C_law_draw.G (hr.mono (by decide)) rfl C_law_draw.g C_law_draw.kp C_law_draw.b .nil pass0 (pa_cons (pv 0) (pa_cons pe_int pa_nil))) pe_int (nomark _))))))) (fun _ _ _ _ _ => (pv 10))) pa_nil)))
  (pss_one (ps_expr (Kx.bm (K := K) PySem.F.plainAttrs_list PySem.F.slot_list_append PySem.F.type_list_append mt_append (pv 5) (pa_cons (pe_tup (pa_cons (pv 7) (pa_cons (pe_ix (Kx.ix_list (K := K)) (pe_lst (pa_cons (pe_tup (pa_cons pe_int (pa_cons pe_int (pa_cons pe_int (pa_cons pe_int pa_nil))))) (pa_cons (pe_tup (pa_cons (pe_op op_mod (pv 6) pe_int) pa_nil)) (pa_cons (pv 9) (pa_cons (pv 9) pa_nil))))) (pv 1) (fun _ _ => rfl)) pa_nil))) pa_nil))))))))
  (pss_one (ps_ret (pe_callTy (Kx.tuple_of (K := K)) (by rfl) T.n_tuple (by decide +kernel) (pa_cons (pv 5) pa_nil))))))))))), ?_⟩
    refine ⟨_, rfl, d, c, 4, rfl, D, by decide, by decide, fun way H1 way' way'' e1 D1 => ?_⟩
    refine ⟨_, rfl, d, c, 6, rfl, D1, by decide, by decide, fun many H2 many' many'' e2 D2 => ?_⟩
    refine ⟨_, _, rfl, rfl, ?_⟩
    refine ⟨_, rfl, d, c, 26, rfl, D2, by decide, by decide, fun first H3 first' first'' e3 D3' => ?_⟩
    refine ⟨by show 6 ≤ sizeLine; decide, fun L hL => ?_⟩
    have D4 := D3'.new (o := .lst [.int 1, .int 3, .int 5, .int 7, .int 9, .int 11]) hL
    refine ⟨_, rfl, d, c, 6, rfl, D4, by decide, by decide, fun si H5 si' si'' e5 D5 => ?_⟩
    have hL5 := e5.lst (a := L) upd_same (D3'.nin hL)
    obtain ⟨sv, hsv, hsm⟩ := ix_of (xs := [V.int 1, .int 3, .int 5, .int 7, .int 9, .int 11]) si' si''
    obtain ⟨step, rfl, st0, st1⟩ : ∃ n : Int, sv = .int n ∧ 0 < n ∧ n < 12 := by
      simp only [List.mem_cons, List.not_mem_nil, or_false] at hsm
      rcases hsm with z | z | z | z | z | z <;> exact ⟨_, z, by decide, by decide⟩
    refine ⟨L, _, si, _, rfl, rfl, SqL.of hL5, hsv, ?_⟩
    have e0 : Fx TB [d, c] H H5 := ((((e1.trans e2).trans e3).newA hL).trans e5)
    refine ⟨Nat.zero_le _, fun l hl => ?_⟩
    have hl0 : H5 l = none := hl
    have e6 := e0.newA (o := .lst []) hl
    have D6 := D5.new (o := .lst []) hl
    have nl := D5.nin hl
    refine ⟨_, rfl, _, rfl, by omega, by omega, for_range (lo := 0) (n := (1 + many).toNat) (fun i σ H' => ∃ v1 v2 v3 v4 v5 acc hs, σ = [some (.ref d), some (.int way), some (.int (1 + many)), some (.int first), some (.int step), some (.ref l), v1, v2, v3, v4, v5] ∧
      Fx TB [d, c] H5 H' ∧ Deck H' d c ∧ H' l = some (.lst acc) ∧ Paired (IsHand K H') acc hs ∧ hs.length = i ∧ ∀ h ∈ hs, HandOk h) ⟨none, none, none, none, none, [], [], rfl, Fx.new hl0, D6, upd_same, .nil, rfl, by simp⟩ ?_ ?_⟩
    · rintro i σ H' hi ⟨v1, v2, v3, v4, v5, acc, hs, rfl, e7, D7, hacc, hp, hlen, hok⟩
      have ksz : (0 : Int) + (i : Int) < 7 := by omega
      obtain ⟨lc, hlc, _⟩ := ix_of (xs := (Str.ofString "abcdefghijklmnopqrstuvwxyz").cps.toList) (r := (first + step * (0 + (i : Int))) % 26) (by omega) (by rw [letters_len]; omega)
      refine ⟨_, rfl, _, rfl, _, rfl, _, _, rfl, rfl, .inl ⟨by omega, by omega⟩, _, _, rfl, rfl, _, _, rfl, rfl, by show (0 : Int) < 26; decide, _, _, lc, rfl, rfl, by decide, hlc, ?_⟩
      refine ⟨_, rfl, d, c, 4, rfl, D7, by decide, by decide, fun sure Ha sure' sure'' e8 D8 => ?_⟩
      refine ⟨4, rfl, by decide, by decide, fun M hM => lc_range (lo := 0) (n := 4) (fun j G => ∃ cs : List Int, Fx TB [d, c] Ha G ∧ Deck G d c ∧ G M = some (.lst (cs.map V.int)) ∧ cs.length ≤ j ∧ ∀ x ∈ cs, 0 ≤ x ∧ x ≤ 3)
        ⟨[], Fx.new hM, D8.new hM, upd_same, Nat.le_refl _, by simp⟩ ?_ ?_⟩
      · rintro j G hj ⟨cs, e9, D9, hcs, hcl, hcb⟩
        have keep : ∀ G', Fx TB [d, c] G G' → Deck G' d c → ∃ acc, G' M = some (.lst acc) ∧ acc.length < sizeLine ∧ ∃ cs : List Int, Fx TB [d, c] Ha (upd G' M (.lst (acc ++ [V.int (0 + (j : Int))]))) ∧ Deck (upd G' M (.lst (acc ++ [V.int (0 + (j : Int))]))) d c ∧ upd G' M (.lst (acc ++ [V.int (0 + (j : Int))])) M = some (.lst (cs.map V.int)) ∧ cs.length ≤ j + 1 ∧ ∀ x ∈ cs, 0 ≤ x ∧ x ≤ 3 := by
          intro G' e10 D10
          have h1 := e10.lst hcs (D8.nin hM)
          refine ⟨_, h1, by rw [List.length_map]; exact lt_line (by omega), cs ++ [0 + (j : Int)], (e9.trans e10).putN h1 hM, D10.put (D8.nin hM), by rw [upd_same]; simp, by simp; omega, fun x hx => ?_⟩
          rcases List.mem_append.mp hx with hx | hx
          · exact hcb x hx
          · have : x = 0 + (j : Int) := by simpa using hx
            omega
        have skip : ∀ G', Fx TB [d, c] G G' → Deck G' d c → ∃ cs : List Int, Fx TB [d, c] Ha G' ∧ Deck G' d c ∧ G' M = some (.lst (cs.map V.int)) ∧ cs.length ≤ j + 1 ∧ ∀ x ∈ cs, 0 ≤ x ∧ x ≤ 3 := fun G' e10 D10 =>
          ⟨cs, e9.trans e10, D10, e10.lst hcs (D8.nin hM), by omega, hcb⟩
        refine ⟨rfl, _, rfl, _, rfl, rfl, _, rfl, ?_⟩
        by_cases hq : (V.int (0 + (j : Int)) = V.int sure)
        · rw [decide_eq_true hq]
          exact ⟨_, rfl, keep G (Fx.refl G) D9⟩
        · rw [decide_eq_false hq]
          refine ⟨_, rfl, d, c, 2, rfl, D9, by decide, by decide, fun coin Gb coin' coin'' e10 D10 => ?_⟩
          refine ⟨rfl, _, rfl, ?_⟩
          by_cases hq2 : (V.int coin = V.int 1)
          · rw [decide_eq_true hq2]
            exact ⟨_, rfl, keep Gb e10 D10⟩
          · rw [decide_eq_false hq2]
            exact skip Gb e10 D10
      · rintro G ⟨cs, e9, D9, hcs, hcl, hcb⟩
        refine ⟨M, _, rfl, .inl ⟨SqL.of hcs, fun t ht => ?_⟩⟩
        have e10 := Fx.new (T := TB) (S := [d, c]) (o := .tup (cs.map V.int)) ht
        have D10 := D9.new (o := .tup (cs.map V.int)) ht
        have ht10 : SqT K (upd G t (.tup (cs.map V.int))) t (cs.map V.int) := SqT.of upd_same
        have e11 := (e8.trans e9).trans e10
        have hl11 := e11.lst hacc nl
        have hp11 := hands_fx e11 hp
        have e12 := e7.trans e11
        generalize upd G t (.tup (cs.map V.int)) = G1 at D10 ht10 e11 hl11 hp11 e12 ⊢
        refine ⟨_, rfl, .inl ⟨rfl, _, SqL.of hl11⟩, _, rfl, by show 4 ≤ sizeLine; decide, fun t1 ht1 => ⟨_, rfl, _, _, rfl, rfl, by show (0 : Int) < 4; decide, by show 1 ≤ sizeLine; decide, fun t2 ht2 => ⟨_, rfl, _, rfl, by show 4 ≤ sizeLine; decide, fun q hq => ?_⟩⟩⟩
        have x1 := Fx.new (T := TB) (S := [d, c]) (o := .tup [V.int 0, .int 1, .int 2, .int 3]) ht1
        have x2 := Fx.new (T := TB) (S := [d, c]) (o := .tup [V.int ((0 + (i : Int)) % 4)]) ht2
        have x3 := Fx.new (T := TB) (S := [d, c]) (o := .lst [V.ref t1, .ref t2, .ref t, .ref t]) hq
        obtain ⟨v, hv, hvm⟩ := ix_of (xs := [V.ref t1, .ref t2, .ref t, .ref t]) (r := way) way' way''
        obtain ⟨cr, ms, rfl, hcr, hml, hmb⟩ : ∃ (cr : Addr) (ms : List Int), v = .ref cr ∧ SqT K (upd (upd (upd G1 t1 (.tup [V.int 0, .int 1, .int 2, .int 3])) t2 (.tup [V.int ((0 + (i : Int)) % 4)])) q (.lst [V.ref t1, .ref t2, .ref t, .ref t])) cr (ms.map V.int) ∧ ms.length ≤ 4 ∧ ∀ x ∈ ms, 0 ≤ x ∧ x ≤ 3 := by
          simp only [List.mem_cons, List.not_mem_nil, or_false] at hvm
          rcases hvm with z | z | z | z
          · exact ⟨t1, [0, 1, 2, 3], z, x3.tup (x2.tup (SqT.of upd_same)), by decide, by decide⟩
          · exact ⟨t2, [(0 + (i : Int)) % 4], z, x3.tup (SqT.of upd_same), by show 1 ≤ 4; decide, fun x hx => by
              have : x = (0 + (i : Int)) % 4 := by simpa using hx
              omega⟩
          · exact ⟨t, cs, z, x3.tup (x2.tup (x1.tup ht10)), hcl, hcb⟩
          · exact ⟨t, cs, z, x3.tup (x2.tup (x1.tup ht10)), hcl, hcb⟩
        refine ⟨_, rfl, q, _, way, _, rfl, rfl, SqL.of upd_same, hv, by show 2 ≤ sizeLine; decide, fun p hpn => ?_⟩
        have x4 := Fx.new (T := TB) (S := [d, c]) (o := .tup [V.str ⟨#[lc]⟩, .ref cr]) hpn
        have xa := (((x1.trans x2).trans x3).trans x4)
        have hla := xa.lst hl11 nl
        have hplen := paired_len hp
        refine ⟨l, acc, _, rfl, rfl, hla, lt_line (by omega), _, _, _, _, _, acc ++ [.ref p], hs ++ [(⟨#[lc]⟩, ms)], rfl, (e12.trans xa).putN hla hl0, ((((D10.new ht1).new ht2).new hq).new hpn).put nl, upd_same, ?_, by simp [hlen], fun h hh => ?_⟩
        · have x5 := Fx.put (T := TB) (S := [l]) (o := .lst (acc ++ [V.ref p])) hla (by simp)
          exact (hands_fx x5 (hands_fx xa hp11)).snoc ⟨p, cr, rfl, x5.tup (SqT.of upd_same), x5.tup (x4.tup hcr)⟩
        · rcases List.mem_append.mp hh with hh | hh
          · exact hok h hh
          · have : h = (⟨#[lc]⟩, ms) := by simpa using hh
            subst this
            exact ⟨Nat.le_refl 1, hml, hmb⟩
    · rintro σ H' ⟨v1, v2, v3, v4, v5, acc, hs, rfl, e7, D7, hacc, hp, hlen, hok⟩
      refine ⟨_, rfl, l, _, rfl, .inl ⟨SqL.of hacc, fun t ht => ?_⟩⟩
      have e8 := Fx.new (T := TB) (S := [d, c]) (o := .tup acc) ht
      exact k t hs _ ((e0.trans e7).trans e8) (D7.new ht) ⟨acc, SqT.of upd_same, hands_fx e8 hp⟩ ⟨by omega, by omega, hok⟩
end
end K62
set_option Elab.async false
set_option linter.all false
set_option maxRecDepth 100000
set_option maxHeartbeats 2000000
namespace K62
open PySem PySem.Spec PyProof.Rows L2 LamX
abbrev st_law_pence : Stmt := top 83
abbrev N_law_pence : List PySem.Str := ["_law_deck_here", "_law_few", "_law_some", "_law_great"]
theorem sc_law_pence : FnScope N_law_pence ["_law_deck_here"] (defScope st_law_pence) := ⟨rfl, rfl, rfl, by decide +kernel, rfl, by decide +kernel, by decide +kernel⟩
abbrev st_law_many : Stmt := top 85
abbrev N_law_many : List PySem.Str := ["_law_deck_here", "_law_way", "_law_few", "_law_great"]
theorem sc_law_many : FnScope N_law_many ["_law_deck_here"] (defScope st_law_many) := ⟨rfl, rfl, rfl, by decide +kernel, rfl, by decide +kernel, by decide +kernel⟩
section
variable {P : Program} {w : World} {K : PySem.W.Frag} {mg : Str → Option Value} {base : Heap} {TB : List (Addr × Str)}
theorem p6 : (10 : Int) ^ (6 : Int).toNat = 1000000 := by decide
theorem p9 : (10 : Int) ^ (9 : Int).toNat = 1000000000 := by decide
theorem p39 : (10 : Int) ^ (39 : Int).toNat = 1000000000000000000000000000000000000000 := by decide
def spPence (TB : List (Addr × Str)) : Sp := fun vs H Q _ => ∃ (d c : Addr), vs = [.ref d] ∧ Deck H d c ∧ ∀ (n : Int) H', 0 ≤ n → n < 10000000000000000 → Fx TB [d, c] H H' → Deck H' d c → Q (.int n) H'
theorem ok_pence {f fD : Addr} {fd fdD : FuncData} (F : FnP K "_law_pence" "_law_pence" st_law_pence [] f fd) (T : Nm mg) (C_law_draw : Cal P w K mg base 1 "_law_draw" fD fdD ["_law_deck_here", "_law_most"] (spDraw TB)) :
    FnOk P w K mg base CX0 3 f fd ["_law_deck_here"] (spPence TB) := by
  refine F.ok sc_law_pence (fun vs H Q E h => ?_) (fun cdv A outer s H vs Q E hr h => ?_)
  · obtain ⟨d, c, rfl, _⟩ := h
    rfl
  · obtain ⟨d, c, rfl, D, k⟩ := h
    refine ⟨_, (PSs.nox (pss_cons (ps_par (i := 1) (j := 2) (by rfl) sc_law_pence.nd rfl rfl (by decide) rfl rfl (pa_cons (pe_call C_law_draw.G (hr.mono (by decide)) rfl C_law_draw.g C_law_draw.kp C_law_draw.b .nil pass0 (pa_cons (pv 0) (pa_cons pe_int pa_nil))) (pa_cons (pe_call C_law_draw.G (hr.mono (by decide)) rfl C_law_draw.g C_law_draw.kp C_law_draw.b .nil pass0 (pa_cons (pv 0) (pa_cons pe_int pa_nil))) pa_nil)) (by rfl))
  (pss_cons (ps_set (i := 3) sc_law_pence.nd rfl (Or.inl rfl) (pe_op op_add (pe_op op_mul (pe_call C_law_draw.G (hr.mono (by decide)) rfl C_law_draw.g C_law_draw.kp C_law_draw.b .nil pass0 (pa_cons (pv 0) (pa_cons (pe_op op_pow pe_int pe_int) pa_nil))) (pe_op op_pow pe_int pe_int)) (pe_op op_mul (pe_call C_law_draw.G (hr.mono (by decide)) rfl C_law_draw.g C_law_draw.kp C_law_draw.b .nil pass0 (pa_cons (pv 0) (pa_cons (pe_op op_pow pe_int pe_int) pa_nil))) pe_int)))
  (pss_one (ps_ret (pe_ix (Kx.ix_list (K := K)) (pe_lst (pa_cons pe_int (pa_cons (pv 1) (pa_cons (pv 2) (pa_cons (pv 3) pa_nil))))) (pe_call C_law_draw.G (hr.mono (by decide)) rfl C_law_draw.g C_law_draw.kp C_law_draw.b .nil pass0 (pa_cons (pv 0) (pa_cons pe_int pa_nil))) (fun _ _ => rfl))))))), ?_⟩
    refine ⟨_, rfl, d, c, 12, rfl, D, by decide, by decide, fun few H1 few' few'' e1 D1 => ?_⟩
    refine ⟨_, rfl, d, c, 9000, rfl, D1, by decide, by decide, fun some_ H2 some_' some_'' e2 D2 => ?_⟩
    refine ⟨_, _, rfl, _, rfl, _, _, rfl, rfl, ⟨by decide, by decide, by decide⟩, d, c, _, rfl, D2, by decide, by decide, fun ga H3 ga' ga'' e3 D3' => ?_⟩
    rw [p6] at ga''
    refine ⟨_, _, rfl, rfl, ⟨by decide, by decide, by decide⟩, _, _, rfl, rfl, .inl ⟨by omega, by omega⟩, _, rfl, _, _, rfl, rfl, ⟨by decide, by decide, by decide⟩, d, c, _, rfl, D3', by decide, by decide, fun gb H4 gb' gb'' e4 D4 => ?_⟩
    rw [p6] at gb''
    refine ⟨_, _, rfl, rfl, .inl ⟨by omega, by omega⟩, _, _, rfl, rfl, _, rfl, _, rfl, _, rfl, by show 4 ≤ sizeLine; decide, fun L hL => ?_⟩
    have D5 := D4.new (o := .lst [.int 0, .int few, .int some_, .int (ga * 10 ^ (9 : Int).toNat + gb * 1000)]) hL
    refine ⟨_, rfl, d, c, 4, rfl, D5, by decide, by decide, fun at_ H6 at_' at_'' e6 D6 => ?_⟩
    have hL6 := e6.lst (a := L) upd_same (D4.nin hL)
    obtain ⟨v, hv, hvm⟩ := ix_of (xs := [V.int 0, .int few, .int some_, .int (ga * 10 ^ (9 : Int).toNat + gb * 1000)]) at_' at_''
    obtain ⟨n, rfl, n0, n1⟩ : ∃ n : Int, v = .int n ∧ 0 ≤ n ∧ n < 10000000000000000 := by
      simp only [List.mem_cons, List.not_mem_nil, or_false] at hvm
      rw [p9] at hvm
      rcases hvm with z | z | z | z <;> exact ⟨_, z, by omega, by omega⟩
    exact ⟨L, _, at_, _, rfl, rfl, SqL.of hL6, hv, k n H6 n0 n1 (((((e1.trans e2).trans e3).trans e4).newA hL).trans e6) D6⟩
def spMany (TB : List (Addr × Str)) : Sp := fun vs H Q _ => ∃ (d c : Addr), vs = [.ref d] ∧ Deck H d c ∧ ∀ (n : Int) H', n.natAbs.log2 < 1900 → Fx TB [d, c] H H' → Deck H' d c → Q (.int n) H'
theorem log_of {n : Int} (h : n.natAbs < 2 ^ 200) : n.natAbs.log2 < 1900 := by
  by_cases h0 : n.natAbs = 0
  · rw [h0]; decide
  · exact Nat.lt_trans ((Nat.log2_lt h0).mpr h) (by decide)
theorem ok_many {f fD : Addr} {fd fdD : FuncData} (F : FnP K "_law_many" "_law_many" st_law_many [] f fd) (T : Nm mg) (C_law_draw : Cal P w K mg base 1 "_law_draw" fD fdD ["_law_deck_here", "_law_most"] (spDraw TB)) :
    FnOk P w K mg base CX0 3 f fd ["_law_deck_here"] (spMany TB) := by
  refine F.ok sc_law_many (fun vs H Q E h => ?_) (fun cdv A outer s H vs Q E hr h => ?_)
  · obtain ⟨d, c, rfl, _⟩ := h
    rfl
  · obtain ⟨d, c, rfl, D, k⟩ := h
    refine ⟨_, (PSs.nox (pss_cons (ps_set (i := 1) sc_law_many.nd rfl (Or.inl rfl) (pe_call C_law_draw.G (hr.mono (by decide)) rfl C_law_draw.g C_law_draw.kp C_law_draw.b .nil pass0 (pa_cons (pv 0) (pa_cons pe_int pa_nil))))
  (pss_cons (ps_set (i := 2) sc_law_many.nd rfl (Or.inl rfl) (pe_op op_add pe_int (pe_call C_law_draw.G (hr.mono (by decide)) rfl C_law_draw.g C_law_draw.kp C_law_draw.b .nil pass0 (pa_cons (pv 0) (pa_cons pe_int pa_nil)))))
  (pss_cons (ps_set (i := 3) sc_law_many.nd rfl (Or.inl rfl) (pe_op op_add (pe_op op_pow pe_int pe_int) (pe_call C_law_draw.G (hr.mono (by decide)) rfl C_law_draw.g C_law_draw.kp C_law_draw.b .nil pass0 (pa_cons (pv 0) (pa_cons (pe_op op_pow pe_int pe_int) pa_nil)))))
  (pss_one (ps_ret (pe_ix (Kx.ix_list (K := K)) (pe_lst (pa_cons (pv 2) (pa_cons (pv 2) (pa_cons (pv 2) (pa_cons pe_int (pa_cons (pe_op op_sub pe_int (pv 2)) (pa_cons (pe_ix (Kx.ix_list (K := K)) (pe_lst (pa_cons (pv 3) (pa_cons (pe_op op_sub pe_int (pv 3)) pa_nil))) (pe_call C_law_draw.G (hr.mono (by decide)) rfl C_law_draw.g C_law_draw.kp C_law_draw.b .nil pass0 (pa_cons (pv 0) (pa_cons pe_int pa_nil))) (fun _ _ => rfl)) pa_nil))))))) (pv 1) (fun _ _ => rfl)))))))), ?_⟩
    refine ⟨_, rfl, d, c, 6, rfl, D, by decide, by decide, fun way H1 way' way'' e1 D1 => ?_⟩
    refine ⟨_, rfl, d, c, 12, rfl, D1, by decide, by decide, fun few H2 few' few'' e2 D2 => ?_⟩
    refine ⟨_, _, rfl, rfl, _, _, rfl, rfl, ⟨by decide, by decide, by decide⟩, _, rfl, _, _, rfl, rfl, ⟨by decide, by decide, by decide⟩, d, c, _, rfl, D2, by decide, by decide, fun ga H3 ga' ga'' e3 D3' => ?_⟩
    rw [p6] at ga''
    refine ⟨_, _, rfl, rfl, _, rfl, _, rfl, _, rfl, _, rfl, _, _, rfl, rfl, _, rfl, _, rfl, _, _, rfl, rfl, by show 2 ≤ sizeLine; decide, fun M hM => ?_⟩
    have D4 := D3'.new (o := .lst [.int (10 ^ (39 : Int).toNat + ga), .int (0 - (10 ^ (39 : Int).toNat + ga))]) hM
    refine ⟨_, rfl, d, c, 2, rfl, D4, by decide, by decide, fun co H5 co' co'' e5 D5 => ?_⟩
    have hM5 := e5.lst (a := M) upd_same (D3'.nin hM)
    obtain ⟨v, hv, hvm⟩ := ix_of (xs := [V.int (10 ^ (39 : Int).toNat + ga), .int (0 - (10 ^ (39 : Int).toNat + ga))]) co' co''
    obtain ⟨g, rfl, g0⟩ : ∃ n : Int, v = .int n ∧ n.natAbs < 2 ^ 200 := by
      simp only [List.mem_cons, List.not_mem_nil, or_false] at hvm
      rw [p39] at hvm
      rcases hvm with z | z <;> exact ⟨_, z, by omega⟩
    refine ⟨M, _, co, _, rfl, rfl, SqL.of hM5, hv, by show 6 ≤ sizeLine; decide, fun L hL => ⟨_, rfl, ?_⟩⟩
    obtain ⟨v, hv, hvm⟩ := ix_of (xs := [V.int (1 + few), .int (1 + few), .int (1 + few), .int 0, .int (0 - (1 + few)), .int g]) way' way''
    obtain ⟨n, rfl, n0⟩ : ∃ n : Int, v = .int n ∧ n.natAbs < 2 ^ 200 := by
      simp only [List.mem_cons, List.not_mem_nil, or_false] at hvm
      rcases hvm with z | z | z | z | z | z
      · exact ⟨_, z, by omega⟩
      · exact ⟨_, z, by omega⟩
      · exact ⟨_, z, by omega⟩
      · exact ⟨_, z, by omega⟩
      · exact ⟨_, z, by omega⟩
      · exact ⟨_, z, g0⟩
    exact ⟨L, _, way, _, rfl, rfl, SqL.of upd_same, hv, k n _ (log_of n0) (((((e1.trans e2).trans e3).newA hM).trans e5).newA hL) (D5.new hL)⟩
end
end K62
set_option Elab.async false
set_option linter.all false
set_option maxRecDepth 100000
set_option maxHeartbeats 2000000
namespace K62
open PySem PySem.Spec PyProof.Rows L2 LamX
abbrev st_law_word : Stmt := top 84
abbrev N_law_word : List PySem.Str := ["_law_deck_here", "_law_house_here", "_law_way", "_law_stem", "_law_drawn", "_law_k", "_law_names", "_law_letter", "_law_odd", "_law_signs", "_law_any_signs", "_law_some"]
theorem sc_law_word : FnScope N_law_word ["_law_deck_here", "_law_house_here"] (defScope st_law_word) := ⟨rfl, rfl, rfl, by decide +kernel, rfl, by decide +kernel, by decide +kernel⟩
/-! ### texts and their lengths -/
theorem join_le {sep : Str} {m : Nat} : ∀ {ss : List Str}, (∀ s ∈ ss, s.length ≤ m) → (Txt.join sep ss).length ≤ ss.length * (m + sep.length) := by
  intro ss h
  rw [show Txt.join sep ss = Str.join sep ss from StrLaws.glued_eq_join sep ss]
  refine Nat.le_trans (StrLaws.join_length_le sep ss) ?_
  have : (ss.map (·.length)).sum ≤ ss.length * m := by
    induction ss with
    | nil => simp
    | cons s ss ih =>
      have h1 := h s (by simp)
      have h2 := ih fun t ht => h t (by simp [ht])
      simp only [List.map_cons, List.sum_cons, List.length_cons, Nat.succ_mul]
      omega
  rw [Nat.mul_add]
  omega
theorem sum_le {m : Nat} : ∀ {ss : List Str}, (∀ s ∈ ss, s.length ≤ m) → (ss.map (·.length)).sum ≤ ss.length * m := by
  intro ss h
  induction ss with
  | nil => simp
  | cons s ss ih =>
    have h1 := h s (by simp)
    have h2 := ih fun t ht => h t (by simp [ht])
    simp only [List.map_cons, List.sum_cons, List.length_cons, Nat.succ_mul]
    omega
theorem cutS_le (z : Str) (lo hi : Option Int) : (cutS z lo hi).length ≤ z.length := by
  unfold cutS Str.length
  simp only [List.size_toArray, List.length_take, List.length_drop, Array.length_toList]
  omega
theorem app_le (a b : Str) : (a ++ b).length = a.length + b.length := Str.length_append a b
def signs_ : Str := ("!#$&()*+,-./0123456789:;<=>?@ABCDEFGHIJKLMNOPQRSTUVWXYZ[]^_`abcdefghijklmnopqrstuvwxyz{|}~" : Str) ++ ("\"'\\" : Str)
theorem get_str {ss : List Str} {i : Nat} {x : V} (h : (ss.map V.str)[i]? = some x) : ∃ s, ss[i]? = some s ∧ x = .str s := by
  rw [List.getElem?_map] at h
  cases q : ss[i]? with
  | none => rw [q] at h; cases h
  | some n => rw [q] at h; exact ⟨n, rfl, (Option.some.inj h).symm⟩
theorem ix_str_of {ss : List Str} {r : Int} (h0 : 0 ≤ r) (h1 : r < ss.length) : ∃ s, atI (ss.map V.str) r = some (.str s) ∧ s ∈ ss := by
  obtain ⟨v, h2, h3⟩ := ix_of (xs := ss.map V.str) h0 (by rw [List.length_map]; exact h1)
  obtain ⟨s, h4, h5⟩ := List.mem_map.mp h3
  subst h5
  exact ⟨s, h2, h4⟩
section
variable {P : Program} {w : World} {K : PySem.W.Frag} {mg : Str → Option Value} {base : Heap} {TB : List (Addr × Str)}
def spWord (TB : List (Addr × Str)) (K : PySem.W.Frag) : Sp := fun vs H Q _ => ∃ (d c hl : Addr) (hs : List (Str × List Int)), vs = [.ref d, .ref hl] ∧ Deck H d c ∧ IsHouse K H hl hs ∧ HouseOk hs ∧ ∀ (s : Str) H', s.length ≤ 16 → Fx TB [d, c] H H' → Deck H' d c → Q (.str s) H'
theorem signs_len : signs_.length = 93 := by decide +kernel
theorem ok_word {f fD : Addr} {fd fdD : FuncData} (F : FnP K "_law_word" "_law_word" st_law_word [] f fd) (T : Nm mg) (C_law_draw : Cal P w K mg base 1 "_law_draw" fD fdD ["_law_deck_here", "_law_most"] (spDraw TB)) :
    FnOk P w K mg base CX0 3 f fd ["_law_deck_here", "_law_house_here"] (spWord TB K) := by
  refine F.ok sc_law_word (fun vs H Q E h => ?_) (fun cdv A outer s H vs Q E hr h => ?_)
  · obtain ⟨d, c, hl, hs, rfl, _⟩ := h
    rfl
  · obtain ⟨d, c, hl, hs, rfl, D, hh, hok, k⟩ := h
    refine ⟨_, (PSs.nox (pss_cons (ps_set (i := 2) sc_law_word.nd rfl (Or.inl rfl) (pe_call C_law_draw.G (hr.mono (by decide)) rfl C_law_draw.g C_law_draw.kp C_law_draw.b .nil pass0 (pa_cons (pv 0) (pa_cons pe_int pa_nil))))
  (pss_cons (ps_set (i := 3) sc_law_word.nd rfl (Or.inr rfl) (pe_slice sl_str pe_str po_none (po_some (pe_call C_law_draw.G (hr.mono (by decide)) rfl C_law_draw.g C_law_draw.kp C_law_draw.b .nil pass0 (pa_cons (pv 0) (pa_cons pe_int pa_nil))))))
  (pss_cons (ps_setLc (i := 4) (own := [("_law_k", 5)]) rfl sc_law_word.nd rfl rfl (sw_true rfl rfl rfl (by decide +kernel)) (pi_range1 (by rfl) T.n_range (pa_cons pe_int pa_nil)) (blkOk_by (N := N_law_word) (sc := defScope st_law_word) (own := [("_law_k", 5)]) (by decide +kernel)) (fun _ _ _ _ _ => (pg_name (i := 5) sc_law_word.nd rfl (Or.inl rfl))) (fun _ _ _ _ _ => pts_nil) (fun _ _ _ _ _ => (pe_op op_add_str (pv 3) (pe_ix ix_str pe_str (pe_call C_law_draw.G (hr.mono (by decide)) rfl C_law_draw.g C_law_draw.kp C_law_draw.b .nil pass0 (pa_cons (pv 0) (pa_cons pe_int pa_nil))) (fun _ _ => rfl)))))
  (pss_cons (ps_set (i := 6) sc_law_word.nd rfl (Or.inl rfl) (pe_ix (Kx.ix_list (K := K)) (pe_lst (pa_cons (pe_lst (pa_cons pe_str (pa_cons pe_str (pa_cons pe_str pa_nil)))) (pa_cons (pv 4) pa_nil))) (pe_call C_law_draw.G (hr.mono (by decide)) rfl C_law_draw.g C_law_draw.kp C_law_draw.b .nil pass0 (pa_cons (pv 0) (pa_cons pe_int pa_nil))) (fun _ _ => rfl)))
  (pss_cons (ps_set (i := 7) sc_law_word.nd rfl (Or.inl rfl) (pe_ix (Kx.ix_tup (K := K)) (pe_ix (Kx.ix_tup (K := K)) (pv 1) (pe_call C_law_draw.G (hr.mono (by decide)) rfl C_law_draw.g C_law_draw.kp C_law_draw.b .nil pass0 (pa_cons (pv 0) (pa_cons (pe_callB (id := "len") (Kx.len (K := K)) (by rfl) T.n_len (by decide +kernel) (pa_cons (pv 1) pa_nil)) pa_nil))) (fun _ _ => rfl)) pe_int (fun _ _ => rfl)))
  (pss_cons (ps_set (i := 8) sc_law_word.nd rfl (Or.inl rfl) (pe_lst (pa_cons pe_str (pa_cons pe_str (pa_cons pe_str (pa_cons pe_str (pa_cons pe_str (pa_cons pe_str (pa_cons pe_str (pa_cons pe_str (pa_cons pe_str (pa_cons pe_str (pa_cons pe_str (pa_cons pe_str (pa_cons pe_str (pa_cons pe_str pa_nil))))))))))))))))
  (pss_cons (ps_set (i := 9) sc_law_word.nd rfl (Or.inr rfl) pe_str)
  (pss_cons (ps_set (i := 9) sc_law_word.nd rfl (Or.inr rfl) (pe_op op_add_str (pv 9) pe_str))
  (pss_cons (ps_set (i := 10) sc_law_word.nd rfl (Or.inl rfl) (Kx.join (K := K) pe_str (pe_lc (own := [("_law_k", 5)]) rfl sc_law_word.nd (pi_range1 (by rfl) T.n_range (pa_cons (pe_op op_add pe_int (pe_call C_law_draw.G (hr.mono (by decide)) rfl C_law_draw.g C_law_draw.kp C_law_draw.b .nil pass0 (pa_cons (pv 0) (pa_cons pe_int pa_nil)))) pa_nil)) (blkOk_by (N := N_law_word) (sc := defScope st_law_word) (own := [("_law_k", 5)]) (by decide +kernel)) (fun _ _ _ _ _ => (pg_name (i := 5) sc_law_word.nd rfl (Or.inl rfl))) (fun _ _ _ _ _ => pts_nil) (fun _ _ _ _ _ => (pe_ix ix_str (pv 9) (pe_call C_law_draw.G (hr.mono (by decide)) rfl C_law_draw.g C_law_draw.kp C_law_draw.b .nil pass0 (pa_cons (pv 0) (pa_cons (pe_callB (id := "len") (Kx.len (K := K)) (by rfl) T.n_len (by decide +kernel) (pa_cons (pv 9) pa_nil)) pa_nil))) (fun _ _ => rfl))))))
  (pss_cons (ps_set (i := 11) sc_law_word.nd rfl (Or.inl rfl) (pe_op op_cat (pe_op op_cat (pe_op op_rep (pe_lst (pa_cons (pe_ix (Kx.ix_list (K := K)) (pv 6) (pe_call C_law_draw.G (hr.mono (by decide)) rfl C_law_draw.g C_law_draw.kp C_law_draw.b .nil pass0 (pa_cons (pv 0) (pa_cons pe_int pa_nil))) (fun _ _ => rfl)) pa_nil)) pe_int) (pe_op op_rep (pe_lst (pa_cons (pv 7) pa_nil)) pe_int)) (pe_lst (pa_cons (pe_ix (Kx.ix_list (K := K)) (pv 8) (pe_call C_law_draw.G (hr.mono (by decide)) rfl C_law_draw.g C_law_draw.kp C_law_draw.b .nil pass0 (pa_cons (pv 0) (pa_cons pe_int pa_nil))) (fun _ _ => rfl)) (pa_cons (pv 10) (pa_cons (pe_ix (Kx.ix_list (K := K)) (pv 6) pe_int (fun _ _ => rfl)) pa_nil))))))
  (pss_one (ps_ret (pe_ix (Kx.ix_list (K := K)) (pv 11) (pv 2) (fun _ _ => rfl))))))))))))))), ?_⟩
    refine ⟨_, rfl, d, c, 8, rfl, D, by decide, by decide, fun way H1 way' way'' e1 D1 => ?_⟩
    refine ⟨_, rfl, d, c, 8, rfl, D1, by decide, by decide, fun cut H2 cut' cut'' e2 D2 => ?_⟩
    refine ⟨_, rfl, _, rfl, by decide, ?_⟩
    have lst : (cutS "qwertyu" none (some cut)).length ≤ 7 := cutS_le _ _ _
    generalize cutS "qwertyu" none (some cut) = stem at lst ⊢
    refine ⟨3, rfl, by decide, by decide, fun M hM => lc_range (lo := 0) (n := 3) (fun j G => ∃ ss : List Str, Fx TB [d, c] H2 G ∧ Deck G d c ∧ G M = some (.lst (ss.map V.str)) ∧ ss.length = j ∧ ∀ x ∈ ss, x.length ≤ 8)
        ⟨[], Fx.new hM, D2.new hM, upd_same, rfl, by simp⟩ ?_ ?_⟩
    · rintro j G hj ⟨ss, e3, D3', hss, hsl, hsb⟩
      refine ⟨rfl, _, rfl, ?_⟩
      refine ⟨_, rfl, d, c, 26, rfl, D3', by decide, by decide, fun at_ G1 at_' at_'' e4 D4 => ?_⟩
      obtain ⟨lc, hlc, _⟩ := ix_of (xs := (Str.ofString "abcdefghijklmnopqrstuvwxyz").cps.toList) (r := at_) at_' (by rw [letters_len]; exact at_'')
      have h1 := e4.lst hss (D2.nin hM)
      refine ⟨_, _, lc, rfl, rfl, by decide, hlc, _, _, rfl, rfl, ty_line (Nat.le_trans (Nat.add_le_add lst (Nat.le_refl 1)) (by decide)), _, h1, by rw [List.length_map]; exact lt_line (by omega), ss ++ [stem ++ ⟨#[lc]⟩], (e3.trans e4).putN h1 hM, D4.put (D2.nin hM), by rw [upd_same]; simp, by simp [hsl], fun x hx => ?_⟩
      rcases List.mem_append.mp hx with hx | hx
      · exact hsb x hx
      · have : x = stem ++ ⟨#[lc]⟩ := by simpa using hx
        rw [this, app_le]
        exact Nat.add_le_add lst (Nat.le_refl 1)
    · rintro G ⟨ss, e3, D3', hss, hsl, hsb⟩
      refine ⟨by show 3 ≤ sizeLine; decide, fun p1 hp1 => ⟨_, rfl, by show 2 ≤ sizeLine; decide, fun p2 hp2 => ?_⟩⟩
      have e4 := e3.newA (o := .lst [.str "ab", .str "cd", .str "longname"]) hp1
      have D4 := D3'.new (o := .lst [.str "ab", .str "cd", .str "longname"]) hp1
      have e5 := e4.newA (o := .lst [.ref p1, .ref M]) hp2
      have D5 := D4.new (o := .lst [.ref p1, .ref M]) hp2
      have x1 := Fx.new (T := TB) (S := [d, c]) (o := .lst [.str "ab", .str "cd", .str "longname"]) hp1
      have x2 := Fx.new (T := TB) (S := [d, c]) (o := .lst [.ref p1, .ref M]) hp2
      have nM := D2.nin hM
      have np1 := D3'.nin hp1
      have np2 := D4.nin hp2
      have hM5 := x2.lst (x1.lst hss nM) nM
      have hp15 := x2.lst (a := p1) upd_same np1
      refine ⟨_, rfl, d, c, 2, rfl, D5, by decide, by decide, fun wh G2 wh' wh'' e6 D6 => ?_⟩
      have hM6 := e6.lst hM5 nM
      have hp16 := e6.lst hp15 np1
      have hp26 := e6.lst (a := p2) upd_same np2
      obtain ⟨v, hv, hvm⟩ := ix_of (xs := [V.ref p1, .ref M]) wh' wh''
      obtain ⟨nl, ns, rfl, hnl, hnn, hnb, hnd⟩ : ∃ (nl : Addr) (ns : List Str), v = .ref nl ∧ G2 nl = some (.lst (ns.map V.str)) ∧ ns.length = 3 ∧ (∀ x ∈ ns, x.length ≤ 8) ∧ nl ∉ [d, c] := by
        simp only [List.mem_cons, List.not_mem_nil, or_false] at hvm
        rcases hvm with z | z
        · refine ⟨p1, ["ab", "cd", "longname"], z, hp16, rfl, ?_, np1⟩
          intro x hx
          simp only [List.mem_cons, List.not_mem_nil, or_false] at hx
          rcases hx with z | z | z <;> (rw [z]; decide)
        · exact ⟨M, ss, z, hM6, hsl, hsb, nM⟩
      refine ⟨p2, _, wh, _, rfl, rfl, SqL.of hp26, hv, ?_⟩
      have e06 : Fx TB [d, c] H G2 := ((e1.trans e2).trans e5).trans e6
      obtain ⟨hvs, hht, hpd⟩ := hh
      have hht6 := e06.tup hht
      have hpd6 := hands_fx e06 hpd
      have hlen := paired_len hpd
      obtain ⟨ok1, ok2, ok3⟩ := hok
      refine ⟨_, rfl, _, rfl, _, rfl, _, _, rfl, .inr ⟨_, hht6, rfl⟩, d, c, _, rfl, D6, by show (0 : Int) < (hvs.length : Int); omega, by show (hvs.length : Int) < 1073741824; omega, fun hi G3 hi' hi'' e7 D7 => ?_⟩
      obtain ⟨v, hv, hvm⟩ := ix_of (xs := hvs) hi' hi''
      have hht7 := e7.tup hht6
      obtain ⟨h1, h1m, q1, cr, rfl, hq1, hcr⟩ := paired_mem (hands_fx e7 hpd6) hvm
      obtain ⟨hk1, _, _⟩ := ok3 h1 h1m
      refine ⟨hl, hvs, hi, _, rfl, rfl, hht7, hv, q1, _, 0, _, rfl, rfl, hq1, atI_nat (j := 0) rfl, ?_⟩
      refine ⟨by show 14 ≤ sizeLine; decide, fun ol hol => ?_⟩
      have D8 := D7.new (o := .lst (([("all" : Str), "yes", "no", "-1", "12:0", "house", "prices", "0/0/1", ".", "A", "?", "bring", "007", "bent"] : List Str).map V.str)) hol
      have e8 := e06.trans (e7.newA (o := .lst (([("all" : Str), "yes", "no", "-1", "12:0", "house", "prices", "0/0/1", ".", "A", "?", "bring", "007", "bent"] : List Str).map V.str)) hol)
      have nol := D7.nin hol
      have hnl8 := (e7.newA (o := .lst (([("all" : Str), "yes", "no", "-1", "12:0", "house", "prices", "0/0/1", ".", "A", "?", "bring", "007", "bent"] : List Str).map V.str)) hol).lst hnl hnd
      have hol8 : upd G3 ol (.lst (([("all" : Str), "yes", "no", "-1", "12:0", "house", "prices", "0/0/1", ".", "A", "?", "bring", "007", "bent"] : List Str).map V.str)) ol = _ := upd_same
      refine ⟨_, rfl, _, _, rfl, rfl, by decide +kernel, ?_⟩
      have hsg : (("!#$&()*+,-./0123456789:;<=>?@ABCDEFGHIJKLMNOPQRSTUVWXYZ[]^_`abcdefghijklmnopqrstuvwxyz{|}~" : Str) ++ ("\"'\\" : Str)).length = 93 := signs_len
      generalize (("!#$&()*+,-./0123456789:;<=>?@ABCDEFGHIJKLMNOPQRSTUVWXYZ[]^_`abcdefghijklmnopqrstuvwxyz{|}~" : Str) ++ ("\"'\\" : Str)) = sg at hsg ⊢
      have hsgl : sg.cps.toList.length = 93 := by rw [← hsg]; simp [Str.length]
      refine ⟨⟨_, rfl⟩, ?_⟩
      refine ⟨_, rfl, d, c, 9, rfl, D8, by decide, by decide, fun ct G4 ct' ct'' e9 D9 => ?_⟩
      refine ⟨_, _, rfl, rfl, _, rfl, by omega, by omega, fun N hN => lc_range (lo := 0) (n := (1 + ct).toNat) (fun j G' => ∃ ss : List Str, Fx TB [d, c] G4 G' ∧ Deck G' d c ∧ G' N = some (.lst (ss.map V.str)) ∧ ss.length = j ∧ ∀ x ∈ ss, x.length ≤ 1)
          ⟨[], Fx.new hN, D9.new hN, upd_same, rfl, by simp⟩ ?_ ?_⟩
      · rintro j G' hj ⟨zs, e10, D10, hzs, hzl, hzb⟩
        refine ⟨rfl, _, rfl, _, rfl, _, rfl, _, _, rfl, ⟨ty_line (by omega), rfl⟩, d, c, _, rfl, D10, by show (0 : Int) < (sg.length : Int); omega, by show (sg.length : Int) < 1073741824; omega, fun at_ G5 at_' at_'' e11 D11 => ?_⟩
        obtain ⟨lc, hlc, _⟩ := ix_of (xs := sg.cps.toList) (r := at_) at_' (by rw [hsgl]; rw [hsg] at at_''; exact at_'')
        have h1 := e11.lst hzs (D9.nin hN)
        refine ⟨_, _, lc, rfl, rfl, ty_line (by omega), hlc, _, h1, by rw [List.length_map]; exact lt_line (by omega), zs ++ [⟨#[lc]⟩], (e10.trans e11).putN h1 hN, D11.put (D9.nin hN), by rw [upd_same]; simp, by simp [hzl], fun x hx => ?_⟩
        rcases List.mem_append.mp hx with hx | hx
        · exact hzb x hx
        · have : x = ⟨#[lc]⟩ := by simpa using hx
          rw [this]; exact Nat.le_refl 1
      · rintro G' ⟨zs, e10, D10, hzs, hzl, hzb⟩
        have hsum := sum_le hzb
        have hjl := join_le (sep := "") hzb
        have hz0 : (Str.ofString "").length = 0 := rfl
        rw [hz0] at hjl
        have hjl9 : (Txt.join (Str.ofString "") zs).length ≤ 9 := by omega
        refine ⟨_, N, zs, rfl, rfl, .inl (SqL.of hzs), by rw [hz0]; omega, ?_⟩
        generalize Txt.join (Str.ofString "") zs = anys at hjl9 ⊢
        have e12 := e8.trans (e9.trans e10)
        have hnl12 := e10.lst (e9.lst hnl8 hnd) hnd
        have hol12 := e10.lst (e9.lst hol8 nol) nol
        refine ⟨_, rfl, ?_⟩
        refine ⟨_, rfl, d, c, 3, rfl, D10, by decide, by decide, fun wa G6 wa' wa'' e13 D13 => ?_⟩
        have hnl13 := e13.lst hnl12 hnd
        have hol13 := e13.lst hol12 nol
        obtain ⟨sa, hsa, hsam⟩ := ix_str_of (ss := ns) wa' (by rw [hnn]; exact wa'')
        refine ⟨nl, _, wa, _, rfl, rfl, SqL.of hnl13, hsa, by show 1 ≤ sizeLine; decide, fun b1 hb1 => ⟨b1, 3, _, rfl, rfl, upd_same, by decide, by decide, by show 3 ≤ sizeLine; decide, fun b2 hb2 => ?_⟩⟩
        refine ⟨_, rfl, by show 1 ≤ sizeLine; decide, fun b3 hb3 => ⟨b3, 2, _, rfl, rfl, upd_same, by decide, by decide, by show 2 ≤ sizeLine; decide, fun b4 hb4 => ?_⟩⟩
        have f1 := Fx.new (T := TB) (S := [d, c]) (o := .lst [V.str sa]) hb1
        have f2 := Fx.new (T := TB) (S := [d, c]) (o := .lst [V.str sa, .str sa, .str sa]) hb2
        have f3 := Fx.new (T := TB) (S := [d, c]) (o := .lst [V.str h1.1]) hb3
        have f4 := Fx.new (T := TB) (S := [d, c]) (o := .lst [V.str h1.1, .str h1.1]) hb4
        have D14 := (((D13.new (o := .lst [V.str sa]) hb1).new (o := .lst [V.str sa, .str sa, .str sa]) hb2).new (o := .lst [V.str h1.1]) hb3).new (o := .lst [V.str h1.1, .str h1.1]) hb4
        have nb2 := (D13.new (o := .lst [V.str sa]) hb1).nin hb2
        have k2 := f4.lst (f3.lst (a := b2) upd_same nb2) nb2
        refine ⟨b2, b4, _, _, rfl, rfl, k2, upd_same, by show 5 ≤ sizeLine; decide, fun b5 hb5 => ⟨_, rfl, ?_⟩⟩
        have f5 := Fx.new (T := TB) (S := [d, c]) (o := .lst [V.str sa, .str sa, .str sa, .str h1.1, .str h1.1]) hb5
        have nb5 := D14.nin hb5
        have D15 := D14.new (o := .lst [V.str sa, .str sa, .str sa, .str h1.1, .str h1.1]) hb5
        refine ⟨_, rfl, d, c, 14, rfl, D15, by decide, by decide, fun wo G7 wo' wo'' e16 D16 => ?_⟩
        have fa := ((((f1.trans f2).trans f3).trans f4).trans f5).trans e16
        have hol16 := fa.lst hol13 nol
        have hnl16 := fa.lst hnl13 hnd
        have hb516 := e16.lst (a := b5) upd_same nb5
        obtain ⟨so, hso, hsom⟩ := ix_str_of (ss := [("all" : Str), "yes", "no", "-1", "12:0", "house", "prices", "0/0/1", ".", "A", "?", "bring", "007", "bent"]) wo' wo''
        obtain ⟨s0, hs0, hs0m⟩ := ix_str_of (ss := ns) (r := 0) (by decide) (by rw [hnn]; decide)
        refine ⟨ol, _, wo, _, rfl, rfl, SqL.of hol16, hso, _, rfl, _, rfl, nl, _, 0, _, rfl, rfl, SqL.of hnl16, hs0, by show 3 ≤ sizeLine; decide, fun b6 hb6 => ?_⟩
        have f7 := Fx.new (T := TB) (S := [d, c]) (o := .lst [V.str so, .str anys, .str s0]) hb6
        refine ⟨b5, b6, _, _, rfl, rfl, f7.lst hb516 nb5, upd_same, by show 8 ≤ sizeLine; decide, fun b7 hb7 => ?_⟩
        have f8 := Fx.new (T := TB) (S := [d, c]) (o := .lst [V.str sa, .str sa, .str sa, .str h1.1, .str h1.1, .str so, .str anys, .str s0]) hb7
        obtain ⟨sv, hsv, hsvm⟩ := ix_str_of (ss := [sa, sa, sa, h1.1, h1.1, so, anys, s0]) way' way''
        have hsvl : sv.length ≤ 16 := by
          have l1 := hnb sa hsam
          have l2 := hnb s0 hs0m
          have l3 : so.length ≤ 16 := by
            simp only [List.mem_cons, List.not_mem_nil, or_false] at hsom
            rcases hsom with z | z | z | z | z | z | z | z | z | z | z | z | z | z <;> (rw [z]; decide)
          simp only [List.mem_cons, List.not_mem_nil, or_false] at hsvm
          rcases hsvm with z | z | z | z | z | z | z | z <;> (rw [z]; omega)
        exact ⟨_, rfl, _, rfl, b7, _, way, _, rfl, rfl, SqL.of upd_same, hsv, k sv _ hsvl (((e12.trans e13).trans fa).trans (f7.trans f8)) ((D16.new hb6).new hb7)⟩
end
end K62
set_option Elab.async false
set_option linter.all false
set_option maxRecDepth 100000
set_option maxHeartbeats 2000000
namespace K62
open PySem PySem.Spec PyProof.Rows L2 LamX
abbrev st_Tally___init : Stmt := inClass (top 30) 0
abbrev N_Tally___init : List PySem.Str := ["self", "blades", "dozen"]
theorem sc_Tally___init : FnScope N_Tally___init ["self", "blades", "dozen"] (defScope st_Tally___init) := ⟨rfl, rfl, rfl, by decide +kernel, rfl, by decide +kernel, by decide +kernel⟩
abbrev st_law_tally : Stmt := top 86
abbrev N_law_tally : List PySem.Str := ["_law_deck_here", "_law_blades"]
theorem sc_law_tally : FnScope N_law_tally ["_law_deck_here"] (defScope st_law_tally) := ⟨rfl, rfl, rfl, by decide +kernel, rfl, by decide +kernel, by decide +kernel⟩
/-- a class whose instances are made -/
structure Mka (P : Program) (w : World) (K : PySem.W.Frag) (mg : Str → Option Value) (base : Heap) (k : Nat) (x : Str) (C f : Addr) (fd : FuncData) (ps : List Str) (dvs : List V) (ds : List Value) (sp : Sp) : Prop where
  M : Mk K C f
  G : FnOk P w K mg base CX0 k f fd ps sp
  g : mg x = some (.ref C)
  b : Binds K fd ps ds
  d : Vals dvs ds
theorem Fx.made {T : List (Addr × Str)} {S : List Addr} {H : Hp} {x dx : Addr} {o1 o2 o3 : HO} (hx : H x = none) (hd : H dx = none) : Fx T S H (upd (upd (upd H dx o1) x o2) x o3) := by
  have e : ∀ b u, H b = some u → upd (upd (upd H dx o1) x o2) x o3 b = some u := fun b u h => by
    rw [upd_ne (ne_of_none h hx), upd_ne (ne_of_none h hx), upd_ne (ne_of_none h hd)]; exact h
  exact ⟨fun b o h _ _ => e b o h, fun t q hq => (t q hq).ext e⟩
theorem Deck.made {H : Hp} {d c x dx : Addr} {o1 o2 o3 : HO} (D : Deck H d c) (hx : H x = none) (hd : H dx = none) : Deck (upd (upd (upd H dx o1) x o2) x o3) d c := D.fx (T := []) (S := []) (Fx.made hx hd) (by simp) (by simp)
section
variable {P : Program} {w : World} {K : PySem.W.Frag} {mg : Str → Option Value} {base : Heap} {TB : List (Addr × Str)}
theorem bd_ : ¬ (("blades" : Str) = "dozen") := by decide +kernel
theorem put_tally (b z : V) : putF "dozen" z (putF "blades" b []) = ([("blades", b), ("dozen", z)] : List (Str × V)) := by
  show (if ("blades" : Str) = "dozen" then [(("blades" : Str), z)] else (("blades" : Str), b) :: putF "dozen" z []) = ([("blades", b), ("dozen", z)] : List (Str × V))
  rw [if_neg bd_]; rfl
def spTInit (CT : Addr) : Sp := fun vs H Q _ => ∃ (x dx : Addr) (b z : Int), vs = [.ref x, .int b, .int z] ∧ H x = some (.ins CT dx []) ∧ Q .non (upd H x (.ins CT dx [("blades", .int b), ("dozen", .int z)]))
structure ClT (K : PySem.W.Frag) (CT : Addr) : Prop where
  cl : Cls K CT
  nB : NoAttr K CT "blades"
  nD : NoAttr K CT "dozen"
theorem upd_twice {H : Hp} {a : Addr} {o u : HO} : upd (upd H a o) a u = upd H a u := upd_upd
theorem ok_tinit {f CT : Addr} {fd : FuncData} (F : FnP K "__init__" "Tally.__init__" st_Tally___init [.int 12] f fd) (T : ClT K CT) : FnOk P w K mg base CX0 1 f fd ["self", "blades", "dozen"] (spTInit CT) := by
  refine F.ok sc_Tally___init (fun vs H Q E h => ?_) (fun cdv A outer s H vs Q E hr h => ?_)
  · obtain ⟨x, dx, b, z, rfl, _⟩ := h
    rfl
  · obtain ⟨x, dx, b, z, rfl, hx, k⟩ := h
    refine ⟨_, (PSs.nox (pss_cons (Kx.psfld (K := K) (pv 0) (pv 1) rfl)
  (pss_one (Kx.psfld (K := K) (pv 0) (pv 2) rfl)))), ?_⟩
    refine ⟨_, rfl, _, rfl, x, CT, dx, _, rfl, hx, T.cl, T.nB, by show 0 < 1000; decide, _, rfl, _, rfl, x, CT, dx, _, rfl, upd_same, T.cl, T.nD, by show 1 < 1000; decide, ?_⟩
    rw [upd_twice, put_tally]
    exact k
theorem kb_tally {f : Addr} {fd : FuncData} (F : FnP K "__init__" "Tally.__init__" st_Tally___init [.int 12] f fd) : ∃ its : List Value, KBn K fd ["self", "blades", "dozen"] 2 ["dozen"] (fun us ws => us ++ ws) (fun vs zs => vs ++ zs) := by
  refine F.kbindsD 2 ["dozen"] (fun us its ws => us ++ ws) (by simp) (fun a b c => a.append c) (fun T kV doc pm an cdv ct us its ws h1 h2 h3 => ?_)
  match us, its, ws, h1, h2, h3 with
  | [u, v], [i], [z], _, _, _ => exact ⟨_, rfl, rfl⟩
def spTally (TB : List (Addr × Str)) (CT : Addr) : Sp := fun vs H Q _ => ∃ (d c : Addr), vs = [.ref d] ∧ Deck H d c ∧ ∀ (a dx : Addr) (b z : Int) H', 0 ≤ b → b ≤ 1000000 → (z = 12 ∨ z = 14) → H' a = some (.ins CT dx [("blades", .int b), ("dozen", .int z)]) → Fx TB [d, c] H H' → Deck H' d c → Q (.ref a) H'
theorem ok_tally {f fD fT CT : Addr} {fd fdD fdT : FuncData} {ds : List Value} (F : FnP K "_law_tally" "_law_tally" st_law_tally [] f fd) (T : Nm mg) (C_law_draw : Cal P w K mg base 1 "_law_draw" fD fdD ["_law_deck_here", "_law_most"] (spDraw TB))
    (M_Tally : Mka P w K mg base 1 "Tally" CT fT fdT ["self", "blades", "dozen"] [.int 12] ds (spTInit CT)) (KB_Tally : KBn K fdT ["self", "blades", "dozen"] 2 ["dozen"] (fun us ws => us ++ ws) (fun vs zs => vs ++ zs)) :
    FnOk P w K mg base CX0 3 f fd ["_law_deck_here"] (spTally TB CT) := by
  refine F.ok sc_law_tally (fun vs H Q E h => ?_) (fun cdv A outer s H vs Q E hr h => ?_)
  · obtain ⟨d, c, rfl, _⟩ := h
    rfl
  · obtain ⟨d, c, rfl, D, k⟩ := h
    refine ⟨_, (PSs.nox (pss_cons (ps_set (i := 1) sc_law_tally.nd rfl (Or.inl rfl) (pe_ix (Kx.ix_list (K := K)) (pe_lst (pa_cons (pe_call C_law_draw.G (hr.mono (by decide)) rfl C_law_draw.g C_law_draw.kp C_law_draw.b .nil pass0 (pa_cons (pv 0) (pa_cons pe_int pa_nil))) (pa_cons (pe_call C_law_draw.G (hr.mono (by decide)) rfl C_law_draw.g C_law_draw.kp C_law_draw.b .nil pass0 (pa_cons (pv 0) (pa_cons (pe_op op_add (pe_op op_pow pe_int pe_int) pe_int) pa_nil))) (pa_cons pe_int (pa_cons (pe_op op_pow pe_int pe_int) pa_nil))))) (pe_call C_law_draw.G (hr.mono (by decide)) rfl C_law_draw.g C_law_draw.kp C_law_draw.b .nil pass0 (pa_cons (pv 0) (pa_cons pe_int pa_nil))) (fun _ _ => rfl)))
  (pss_one (ps_ret (pe_makeN (n := 1) M_Tally.M M_Tally.G (hr.mono (by decide)) rfl M_Tally.g KB_Tally pass0 (pa_cons (pv 1) pa_nil) (pk_cons (pe_ix (Kx.ix_list (K := K)) (pe_lst (pa_cons pe_int (pa_cons pe_int pa_nil))) (pe_call C_law_draw.G (hr.mono (by decide)) rfl C_law_draw.g C_law_draw.kp C_law_draw.b .nil pass0 (pa_cons (pv 0) (pa_cons pe_int pa_nil))) (fun _ _ => rfl)) pk_nil)))))), ?_⟩
    refine ⟨_, rfl, d, c, 40, rfl, D, by decide, by decide, fun b1 H1 b1' b1'' e1 D1 => ?_⟩
    refine ⟨_, rfl, _, _, rfl, rfl, ⟨by decide, by decide, by decide⟩, _, _, rfl, rfl, d, c, _, rfl, D1, by decide, by decide, fun b2 H2 b2' b2'' e2 D2 => ?_⟩
    rw [p6] at b2''
    refine ⟨_, _, rfl, rfl, ⟨by decide, by decide, by decide⟩, by show 4 ≤ sizeLine; decide, fun L hL => ?_⟩
    have D3' := D2.new (o := .lst [.int b1, .int b2, .int 0, .int (10 ^ (6 : Int).toNat)]) hL
    refine ⟨_, rfl, d, c, 4, rfl, D3', by decide, by decide, fun at_ H4 at_' at_'' e4 D4 => ?_⟩
    have hL4 := e4.lst (a := L) upd_same (D2.nin hL)
    obtain ⟨v, hv, hvm⟩ := ix_of (xs := [V.int b1, .int b2, .int 0, .int (10 ^ (6 : Int).toNat)]) at_' at_''
    obtain ⟨b, rfl, b0, b1'⟩ : ∃ n : Int, v = .int n ∧ 0 ≤ n ∧ n ≤ 1000000 := by
      simp only [List.mem_cons, List.not_mem_nil, or_false] at hvm
      rw [p6] at hvm
      rcases hvm with z | z | z | z <;> exact ⟨_, z, by omega, by omega⟩
    refine ⟨L, _, at_, _, rfl, rfl, SqL.of hL4, hv, _, rfl, by show 2 ≤ sizeLine; decide, fun M hM => ?_⟩
    have D5 := D4.new (o := .lst [.int 12, .int 14]) hM
    refine ⟨_, rfl, d, c, 2, rfl, D5, by decide, by decide, fun ot H6 ot' ot'' e6 D6 => ?_⟩
    have hM6 := e6.lst (a := M) upd_same (D4.nin hM)
    obtain ⟨v, hv, hvm⟩ := ix_of (xs := [V.int 12, .int 14]) ot' ot''
    obtain ⟨z, rfl, z0⟩ : ∃ n : Int, v = .int n ∧ (n = 12 ∨ n = 14) := by
      simp only [List.mem_cons, List.not_mem_nil, or_false] at hvm
      rcases hvm with z | z <;> exact ⟨_, z, by omega⟩
    refine ⟨M, _, ot, _, rfl, rfl, SqL.of hM6, hv, rfl, rfl, fun x dx hx hdx hne => ?_⟩
    refine ⟨x, dx, b, z, rfl, upd_same, rfl, ?_⟩
    exact k x dx b z _ b0 b1' z0 upd_same ((((((e1.trans e2).newA hL).trans e4).newA hM).trans e6).trans (Fx.made hx hdx)) (D6.made hx hdx)
end
end K62
set_option Elab.async false
set_option linter.all false
set_option maxRecDepth 100000
set_option maxHeartbeats 2000000
namespace K62
open PySem PySem.Spec PyProof.Rows L2 LamX
abbrev st_law_deed : Stmt := top 87
abbrev N_law_deed : List PySem.Str := ["_law_deck_here", "_law_house_here", "_law_kind", "_law_one", "_law_other", "_law_third", "_law_k", "_law_many_here"]
theorem sc_law_deed : FnScope N_law_deed ["_law_deck_here", "_law_house_here"] (defScope st_law_deed) := ⟨rfl, rfl, rfl, by decide +kernel, rfl, by decide +kernel, by decide +kernel⟩
section
variable {P : Program} {w : World} {K : PySem.W.Frag} {mg : Str → Option Value} {base : Heap} {TB : List (Addr × Str)}
def spDeed (TB : List (Addr × Str)) (CT : Addr) (K : PySem.W.Frag) : Sp := fun vs H Q _ => ∃ (d c hl : Addr) (hs : List (Str × List Int)), vs = [.ref d, .ref hl] ∧ Deck H d c ∧ IsHouse K H hl hs ∧ HouseOk hs ∧
  ∀ (q : Addr) (dd : Deed) H', IsDeed CT K H' q dd → DeedOk dd → Fx TB [d, c] H H' → Deck H' d c → Q (.ref q) H'
theorem mem_forms0 : (("bring" : Str), [116, 116, 99]) ∈ forms := by simp [forms]
theorem mem_forms1 : (("give" : Str), [116, 116]) ∈ forms := by simp [forms]
theorem mem_forms2 : (("work" : Str), [116, 110]) ∈ forms := by simp [forms]
theorem mem_forms3 : (("waste" : Str), [116, 116, 116, 109]) ∈ forms := by simp [forms]
theorem mem_forms4 : (("send" : Str), [116, 98]) ∈ forms := by simp [forms]
theorem ok_deed {f fD fW fM fT CT : Addr} {fd fdD fdW fdM fdT : FuncData} (F : FnP K "_law_deed" "_law_deed" st_law_deed [] f fd) (T : Nm mg) (C_law_draw : Cal P w K mg base 1 "_law_draw" fD fdD ["_law_deck_here", "_law_most"] (spDraw TB))
    (C_law_word : Cal P w K mg base 3 "_law_word" fW fdW ["_law_deck_here", "_law_house_here"] (spWord TB K)) (C_law_many : Cal P w K mg base 3 "_law_many" fM fdM ["_law_deck_here"] (spMany TB)) (C_law_tally : Cal P w K mg base 3 "_law_tally" fT fdT ["_law_deck_here"] (spTally TB CT)) :
    FnOk P w K mg base CX0 5 f fd ["_law_deck_here", "_law_house_here"] (spDeed TB CT K) := by
  refine F.ok sc_law_deed (fun vs H Q E h => ?_) (fun cdv A outer s H vs Q E hr h => ?_)
  · obtain ⟨d, c, hl, hs, rfl, _⟩ := h
    rfl
  · obtain ⟨d, c, hl, hs, rfl, D, hh, hok, k⟩ := h
    refine ⟨_, (PSs.nox (pss_cons (ps_set (i := 2) sc_law_deed.nd rfl (Or.inl rfl) (pe_call C_law_draw.G (hr.mono (by decide)) rfl C_law_draw.g C_law_draw.kp C_law_draw.b .nil pass0 (pa_cons (pv 0) (pa_cons pe_int pa_nil))))
  (pss_cons (ps_asg (pe_lc (own := [("_law_k", 6)]) rfl sc_law_deed.nd (pi_range1 (by rfl) T.n_range (pa_cons pe_int pa_nil)) (blkOk_by (N := N_law_deed) (sc := defScope st_law_deed) (own := [("_law_k", 6)]) (by decide +kernel)) (fun _ _ _ _ _ => (pg_name (i := 6) sc_law_deed.nd rfl (Or.inl rfl))) (fun _ _ _ _ _ => pts_nil) (fun _ _ _ _ _ => (pe_call C_law_word.G (hr.mono (by decide)) rfl C_law_word.g C_law_word.kp C_law_word.b .nil pass0 (pa_cons (pv 0) (pa_cons (pv 1) pa_nil))))) (Kx.pg_unl (K := K) (n := 3) (by rfl) (pgs_cons (pg_name (i := 3) sc_law_deed.nd rfl (Or.inl rfl)) (pgs_cons (pg_name (i := 4) sc_law_deed.nd rfl (Or.inl rfl)) (pgs_cons (pg_name (i := 5) sc_law_deed.nd rfl (Or.inl rfl)) pgs_nil)))))
  (pss_cons (ps_set (i := 7) sc_law_deed.nd rfl (Or.inl rfl) (pe_call C_law_many.G (hr.mono (by decide)) rfl C_law_many.g C_law_many.kp C_law_many.b .nil pass0 (pa_cons (pv 0) pa_nil)))
  (pss_cons (ps_if (pt_cmpR op_eq (pv 2) pe_int (nomark _))
  (pss_one (ps_ret (pe_tup (pa_cons pe_str (pa_cons (pv 3) (pa_cons (pv 4) (pa_cons (pe_call C_law_tally.G (hr.mono (by decide)) rfl C_law_tally.g C_law_tally.kp C_law_tally.b .nil pass0 (pa_cons (pv 0) pa_nil)) pa_nil)))))))
  pss_nil)
  (pss_cons (ps_if (pt_cmpR op_eq (pv 2) pe_int (nomark _))
  (pss_one (ps_ret (pe_tup (pa_cons pe_str (pa_cons (pv 3) (pa_cons (pv 4) pa_nil))))))
  pss_nil)
  (pss_cons (ps_if (pt_cmpR op_eq (pv 2) pe_int (nomark _))
  (pss_one (ps_ret (pe_tup (pa_cons pe_str (pa_cons (pv 3) (pa_cons (pe_ix (Kx.ix_list (K := K)) (pe_lst (pa_cons (pv 7) (pa_cons pe_non pa_nil))) (pe_call C_law_draw.G (hr.mono (by decide)) rfl C_law_draw.g C_law_draw.kp C_law_draw.b .nil pass0 (pa_cons (pv 0) (pa_cons pe_int pa_nil))) (fun _ _ => rfl)) pa_nil))))))
  pss_nil)
  (pss_cons (ps_if (pt_cmpR op_eq (pv 2) pe_int (nomark _))
  (pss_one (ps_ret (pe_tup (pa_cons pe_str (pa_cons (pv 3) (pa_cons (pv 4) (pa_cons (pv 5) (pa_cons (pv 7) pa_nil))))))))
  pss_nil)
  (pss_one (ps_ret (pe_tup (pa_cons pe_str (pa_cons (pv 3) (pa_cons (pe_cmpR op_eq (pe_call C_law_draw.G (hr.mono (by decide)) rfl C_law_draw.g C_law_draw.kp C_law_draw.b .nil pass0 (pa_cons (pv 0) (pa_cons pe_int pa_nil))) pe_int (nomark _)) pa_nil)))))))))))))), ?_⟩
    refine ⟨_, rfl, d, c, 5, rfl, D, by decide, by decide, fun kind H1 kind' kind'' e1 D1 => ?_⟩
    refine ⟨3, rfl, by decide, by decide, fun M hM => lc_range (lo := 0) (n := 3) (fun j G => ∃ ss : List Str, Fx TB [d, c] H1 G ∧ Deck G d c ∧ G M = some (.lst (ss.map V.str)) ∧ ss.length = j ∧ ∀ x ∈ ss, x.length ≤ 16)
        ⟨[], Fx.new hM, D1.new hM, upd_same, rfl, by simp⟩ ?_ ?_⟩
    · rintro j G hj ⟨ss, e3, D3', hss, hsl, hsb⟩
      refine ⟨rfl, _, rfl, _, rfl, d, c, hl, hs, rfl, D3', hh.fx (e1.trans e3), hok, fun wd G1 hwd e4 D4 => ?_⟩
      have h1 := e4.lst hss (D1.nin hM)
      refine ⟨_, h1, by rw [List.length_map]; exact lt_line (by omega), ss ++ [wd], (e3.trans e4).putN h1 hM, D4.put (D1.nin hM), by rw [upd_same]; simp, by simp [hsl], fun x hx => ?_⟩
      rcases List.mem_append.mp hx with hx | hx
      · exact hsb x hx
      · have : x = wd := by simpa using hx
        rw [this]; exact hwd
    · rintro G ⟨ss, e3, D3', hss, hsl, hsb⟩
      match ss, hsl with
      | [s1, s2, s3], _ =>
        have l1 := hsb s1 (by simp)
        have l2 := hsb s2 (by simp)
        have l3 := hsb s3 (by simp)
        refine ⟨M, _, rfl, SqL.of hss, rfl, _, _, rfl, _, _, rfl, _, _, rfl, rfl, ?_⟩
        refine ⟨_, rfl, d, c, rfl, D3', fun n H2 hn e4 D4 => ?_⟩
        have e0 := (e1.trans e3).trans e4
        refine ⟨_, rfl, rfl, _, rfl, ?_⟩
        by_cases k0 : V.int kind = V.int 0
        · rw [decide_eq_true k0]
          refine ⟨_, rfl, _, rfl, _, rfl, d, c, rfl, D4, fun a dx b z H3 b0 b1 z0 ha e5 D5 => ⟨by show 4 ≤ sizeLine; decide, fun q hq => ?_⟩⟩
          have e6 := Fx.new (T := TB) (S := [d, c]) (o := .tup [V.str "bring", .str s1, .str s2, .ref a]) hq
          refine k q ⟨"bring", [.txt s1, .txt s2, .tal b z]⟩ _ ⟨[.str s1, .str s2, .ref a], SqT.of upd_same, .cons rfl (.cons rfl (.cons ⟨a, dx, rfl, e6.ins ha⟩ .nil))⟩ ⟨⟨_, mem_forms0, .cons trivial (.cons trivial (.cons trivial .nil))⟩, ?_⟩ (e0.trans (e5.trans e6)) (D5.new hq)
          intro p hp
          simp only [List.mem_cons, List.not_mem_nil, or_false] at hp
          rcases hp with y | y | y
          · rw [y]; exact l1
          · rw [y]; exact l2
          · rw [y]; exact ⟨b0, b1, z0⟩
        rw [decide_eq_false k0]
        refine ⟨_, rfl, rfl, _, rfl, ?_⟩
        by_cases k1 : V.int kind = V.int 1
        · rw [decide_eq_true k1]
          refine ⟨_, rfl, _, rfl, by show 3 ≤ sizeLine; decide, fun q hq => ?_⟩
          have e6 := Fx.new (T := TB) (S := [d, c]) (o := .tup [V.str "give", .str s1, .str s2]) hq
          refine k q ⟨"give", [.txt s1, .txt s2]⟩ _ ⟨[.str s1, .str s2], SqT.of upd_same, .cons rfl (.cons rfl .nil)⟩ ⟨⟨_, mem_forms1, .cons trivial (.cons trivial .nil)⟩, ?_⟩ (e0.trans e6) (D4.new hq)
          intro p hp
          simp only [List.mem_cons, List.not_mem_nil, or_false] at hp
          rcases hp with y | y
          · rw [y]; exact l1
          · rw [y]; exact l2
        rw [decide_eq_false k1]
        refine ⟨_, rfl, rfl, _, rfl, ?_⟩
        by_cases k2 : V.int kind = V.int 2
        · rw [decide_eq_true k2]
          refine ⟨_, rfl, _, rfl, by show 2 ≤ sizeLine; decide, fun L hL => ?_⟩
          have D5 := D4.new (o := .lst [.int n, .non]) hL
          refine ⟨_, rfl, d, c, 2, rfl, D5, by decide, by decide, fun at_ H3 at_' at_'' e5 D6 => ?_⟩
          have hL3 := e5.lst (a := L) upd_same (D4.nin hL)
          obtain ⟨v, hv, hvm⟩ := ix_of (xs := [V.int n, .non]) at_' at_''
          refine ⟨L, _, at_, _, rfl, rfl, SqL.of hL3, hv, by show 3 ≤ sizeLine; decide, fun q hq => ?_⟩
          have e6 := Fx.new (T := TB) (S := [d, c]) (o := .tup [V.str "work", .str s1, v]) hq
          obtain ⟨pp, hpp, hpk, hpo⟩ : ∃ pp, IsPart CT (upd H3 q (.tup [V.str "work", .str s1, v])) v pp ∧ Kind 110 pp ∧ PartOk pp := by
            simp only [List.mem_cons, List.not_mem_nil, or_false] at hvm
            rcases hvm with y | y
            · exact ⟨.num n, y, trivial, hn⟩
            · exact ⟨.non, y, trivial, trivial⟩
          refine k q ⟨"work", [.txt s1, pp]⟩ _ ⟨[.str s1, v], SqT.of upd_same, .cons rfl (.cons hpp .nil)⟩ ⟨⟨_, mem_forms2, .cons trivial (.cons hpk .nil)⟩, ?_⟩ (((e0.newA hL).trans e5).trans e6) (D6.new hq)
          intro p hp
          simp only [List.mem_cons, List.not_mem_nil, or_false] at hp
          rcases hp with y | y
          · rw [y]; exact l1
          · rw [y]; exact hpo
        rw [decide_eq_false k2]
        refine ⟨_, rfl, rfl, _, rfl, ?_⟩
        by_cases k3 : V.int kind = V.int 3
        · rw [decide_eq_true k3]
          refine ⟨_, rfl, _, rfl, _, rfl, _, rfl, by show 5 ≤ sizeLine; decide, fun q hq => ?_⟩
          have e6 := Fx.new (T := TB) (S := [d, c]) (o := .tup [V.str "waste", .str s1, .str s2, .str s3, .int n]) hq
          refine k q ⟨"waste", [.txt s1, .txt s2, .txt s3, .num n]⟩ _ ⟨[.str s1, .str s2, .str s3, .int n], SqT.of upd_same, .cons rfl (.cons rfl (.cons rfl (.cons rfl .nil)))⟩ ⟨⟨_, mem_forms3, .cons trivial (.cons trivial (.cons trivial (.cons trivial .nil)))⟩, ?_⟩ (e0.trans e6) (D4.new hq)
          intro p hp
          simp only [List.mem_cons, List.not_mem_nil, or_false] at hp
          rcases hp with y | y | y | y
          · rw [y]; exact l1
          · rw [y]; exact l2
          · rw [y]; exact l3
          · rw [y]; exact hn
        rw [decide_eq_false k3]
        refine ⟨_, rfl, ?_⟩
        refine ⟨_, rfl, d, c, 2, rfl, D4, by decide, by decide, fun co H3 co' co'' e5 D5 => ?_⟩
        refine ⟨rfl, by show 3 ≤ sizeLine; decide, fun q hq => ?_⟩
        have e6 := Fx.new (T := TB) (S := [d, c]) (o := .tup [V.str "send", .str s1, .bl (decide (V.int co = V.int 1))]) hq
        refine k q ⟨"send", [.txt s1, .yes (decide (V.int co = V.int 1))]⟩ _ ⟨[.str s1, .bl _], SqT.of upd_same, .cons rfl (.cons rfl .nil)⟩ ⟨⟨_, mem_forms4, .cons trivial (.cons trivial .nil)⟩, ?_⟩ (e0.trans (e5.trans e6)) (D5.new hq)
        intro p hp
        simp only [List.mem_cons, List.not_mem_nil, or_false] at hp
        rcases hp with y | y
        · rw [y]; exact l1
        · rw [y]; trivial
end
end K62
set_option Elab.async false
set_option linter.all false
set_option maxRecDepth 100000
set_option maxHeartbeats 2000000
namespace K62
open PySem PySem.Spec PyProof.Rows L2 LamX
abbrev st_law_entries : Stmt := top 88
abbrev N_law_entries : List PySem.Str := ["_law_deck_here", "_law_house_here", "_law_many_here", "_law_found", "_law_k", "_law_near", "_law_day"]
theorem sc_law_entries : FnScope N_law_entries ["_law_deck_here", "_law_house_here"] (defScope st_law_entries) := ⟨rfl, rfl, rfl, by decide +kernel, rfl, by decide +kernel, by decide +kernel⟩
section
variable {P : Program} {w : World} {K : PySem.W.Frag} {mg : Str → Option Value} {base : Heap} {TB : List (Addr × Str)}
def spEntries (TB : List (Addr × Str)) (CT : Addr) (K : PySem.W.Frag) : Sp := fun vs H Q _ => ∃ (d c hl : Addr) (hs : List (Str × List Int)), vs = [.ref d, .ref hl] ∧ Deck H d c ∧ IsHouse K H hl hs ∧ HouseOk hs ∧
  ∀ (l : Addr) (xs : List V) (es : List Ent) H', NewL H l → H' l = some (.lst xs) → Paired (IsEnt CT K H') xs es → es.length ≤ 60 → (∀ e ∈ es, EntOk e) → Fx TB [d, c] H H' → Deck H' d c → Q (.ref l) H'
theorem ok_entries {f fD fE CT : Addr} {fd fdD fdE : FuncData} (F : FnP K "_law_entries" "_law_entries" st_law_entries [] f fd) (T : Nm mg) (C_law_draw : Cal P w K mg base 1 "_law_draw" fD fdD ["_law_deck_here", "_law_most"] (spDraw TB))
    (C_law_deed : Cal P w K mg base 5 "_law_deed" fE fdE ["_law_deck_here", "_law_house_here"] (spDeed TB CT K)) :
    FnOk P w K mg base CX0 6 f fd ["_law_deck_here", "_law_house_here"] (spEntries TB CT K) := by
  refine F.ok sc_law_entries (fun vs H Q E h => ?_) (fun cdv A outer s H vs Q E hr h => ?_)
  · obtain ⟨d, c, hl_, hs, rfl, _⟩ := h
    rfl
  · obtain ⟨d, c, hl_, hs, rfl, D, hh, hok, k⟩ := h
    refine ⟨_, (PSs.nox (pss_cons (ps_set (i := 2) sc_law_entries.nd rfl (Or.inl rfl) (pe_ix (Kx.ix_list (K := K)) (pe_lst (pa_cons (pe_call C_law_draw.G (hr.mono (by decide)) rfl C_law_draw.g C_law_draw.kp C_law_draw.b .nil pass0 (pa_cons (pv 0) (pa_cons pe_int pa_nil))) (pa_cons (pe_op op_add pe_int (pe_call C_law_draw.G (hr.mono (by decide)) rfl C_law_draw.g C_law_draw.kp C_law_draw.b .nil pass0 (pa_cons (pv 0) (pa_cons pe_int pa_nil)))) pa_nil))) (pe_callTy (call_int1) (by rfl) T.n_int (by decide +kernel) (pa_cons (pe_cmpR op_eq (pe_call C_law_draw.G (hr.mono (by decide)) rfl C_law_draw.g C_law_draw.kp C_law_draw.b .nil pass0 (pa_cons (pv 0) (pa_cons pe_int pa_nil))) pe_int (nomark _)) pa_nil)) (fun _ _ => rfl)))
  (pss_cons (ps_set (i := 3) sc_law_entries.nd rfl (Or.inl rfl) (pe_lst pa_nil))
  (pss_cons (ps_for PassesOwn.never rfl (pi_range1 (by rfl) T.n_range (pa_cons (pv 2) pa_nil)) (pg_name (i := 4) sc_law_entries.nd rfl (Or.inl rfl))
  (pss_cons (ps_set (i := 5) sc_law_entries.nd rfl (Or.inl rfl) (pe_lst (pa_cons (pe_op op_add pe_int (pe_call C_law_draw.G (hr.mono (by decide)) rfl C_law_draw.g C_law_draw.kp C_law_draw.b .nil pass0 (pa_cons (pv 0) (pa_cons pe_int pa_nil)))) (pa_cons (pe_op op_add pe_int (pe_call C_law_draw.G (hr.mono (by decide)) rfl C_law_draw.g C_law_draw.kp C_law_draw.b .nil pass0 (pa_cons (pv 0) (pa_cons pe_int pa_nil)))) pa_nil))))
  (pss_cons (ps_set (i := 6) sc_law_entries.nd rfl (Or.inl rfl) (pe_ix (Kx.ix_list (K := K)) (pe_op op_cat (pe_lst (pa_cons (pe_call C_law_draw.G (hr.mono (by decide)) rfl C_law_draw.g C_law_draw.kp C_law_draw.b .nil pass0 (pa_cons (pv 0) (pa_cons pe_int pa_nil))) (pa_cons (pe_call C_law_draw.G (hr.mono (by decide)) rfl C_law_draw.g C_law_draw.kp C_law_draw.b .nil pass0 (pa_cons (pv 0) (pa_cons (pe_op op_add (pe_op op_pow pe_int pe_int) pe_int) pa_nil))) (pa_cons pe_int pa_nil)))) (pv 5)) (pe_call C_law_draw.G (hr.mono (by decide)) rfl C_law_draw.g C_law_draw.kp C_law_draw.b .nil pass0 (pa_cons (pv 0) (pa_cons pe_int pa_nil))) (fun _ _ => rfl)))
  (pss_one (ps_expr (Kx.bm (K := K) PySem.F.plainAttrs_list PySem.F.slot_list_append PySem.F.type_list_append mt_append (pv 3) (pa_cons (pe_tup (pa_cons (pv 6) (pa_cons (pe_call C_law_deed.G (hr.mono (by decide)) rfl C_law_deed.g C_law_deed.kp C_law_deed.b .nil pass0 (pa_cons (pv 0) (pa_cons (pv 1) pa_nil))) pa_nil))) pa_nil)))))))
  (pss_one (ps_ret (pv 3))))))), ?_⟩
    refine ⟨_, rfl, d, c, 12, rfl, D, by decide, by decide, fun m1 H1 m1' m1'' e1 D1 => ?_⟩
    refine ⟨_, rfl, d, c, 21, rfl, D1, by decide, by decide, fun m2 H2 m2' m2'' e2 D2 => ?_⟩
    refine ⟨_, _, rfl, rfl, by show 2 ≤ sizeLine; decide, fun L hL => ?_⟩
    have D3' := D2.new (o := .lst [.int m1, .int (40 + m2)]) hL
    refine ⟨_, rfl, d, c, 8, rfl, D3', by decide, by decide, fun co H3 co' co'' e3 D4 => ?_⟩
    have hL3 := e3.lst (a := L) upd_same (D2.nin hL)
    obtain ⟨v, hv, hvm⟩ := ix_of (xs := [V.int m1, .int (40 + m2)]) (r := if decide (V.int co = V.int 5) = true then 1 else 0) (by split <;> omega) (by split <;> (show _ < (2 : Int); omega))
    obtain ⟨many, rfl, mm0, mm1⟩ : ∃ n : Int, v = .int n ∧ 0 ≤ n ∧ n ≤ 60 := by
      simp only [List.mem_cons, List.not_mem_nil, or_false] at hvm
      rcases hvm with z | z <;> exact ⟨_, z, by omega⟩
    refine ⟨rfl, .inr ⟨_, rfl, L, _, _, _, rfl, rfl, SqL.of hL3, hv, Nat.zero_le _, fun l hl => ?_⟩⟩
    have e0 := ((e1.trans e2).newA (o := .lst [.int m1, .int (40 + m2)]) hL).trans e3
    have nl := D4.nin hl
    have hl0 : NewL H l := (NewL.of hl).back e0 nl
    refine ⟨_, rfl, _, rfl, by omega, by omega, for_range (lo := 0) (n := many.toNat) (fun i σ H' => ∃ v1 v2 v3 acc es, σ = [some (.ref d), some (.ref hl_), some (.int many), some (.ref l), v1, v2, v3] ∧
      Fx TB [d, c] H3 H' ∧ Deck H' d c ∧ H' l = some (.lst acc) ∧ Paired (IsEnt CT K H') acc es ∧ es.length = i ∧ ∀ h ∈ es, EntOk h) ⟨none, none, none, [], [], rfl, Fx.new hl, D4.new hl, upd_same, .nil, rfl, by simp⟩ ?_ ?_⟩
    · rintro i σ H' hi ⟨v1, v2, v3, acc, es, rfl, e7, D7, hacc, hp, hlen, hes⟩
      refine ⟨_, rfl, d, c, _, rfl, D7, by decide, by decide, fun a1 Ha a1' a1'' e8 D8 => ?_⟩
      refine ⟨_, _, rfl, rfl, _, rfl, d, c, _, rfl, D8, by decide, by decide, fun a2 Hb a2' a2'' e9 D9 => ?_⟩
      refine ⟨_, _, rfl, rfl, by show 2 ≤ sizeLine; decide, fun N hN => ?_⟩
      have D10 := D9.new (o := .lst [.int (9 + a1), .int (99 + a2)]) hN
      have x10 := Fx.new (T := TB) (S := [d, c]) (o := .lst [.int (9 + a1), .int (99 + a2)]) hN
      have nN := D9.nin hN
      refine ⟨_, rfl, d, c, 4, rfl, D10, by decide, by decide, fun a3 Hc a3' a3'' e11 D11 => ?_⟩
      refine ⟨_, rfl, _, _, rfl, rfl, ⟨by decide, by decide, by decide⟩, _, _, rfl, rfl, d, c, _, rfl, D11, by decide, by decide, fun a4 Hd a4' a4'' e12 D12 => ?_⟩
      rw [p6] at a4''
      refine ⟨by show 3 ≤ sizeLine; decide, fun M hM => ?_⟩
      have D13 := D12.new (o := .lst [.int a3, .int a4, .int 0]) hM
      have x13 := Fx.new (T := TB) (S := [d, c]) (o := .lst [.int a3, .int a4, .int 0]) hM
      have nM := D12.nin hM
      have kN := x13.lst (e12.lst (e11.lst (a := N) upd_same nN) nN) nN
      refine ⟨_, rfl, M, N, _, _, rfl, rfl, upd_same, kN, by show 5 ≤ sizeLine; decide, fun R hR => ?_⟩
      have D14 := D13.new (o := .lst [.int a3, .int a4, .int 0, .int (9 + a1), .int (99 + a2)]) hR
      have x14 := Fx.new (T := TB) (S := [d, c]) (o := .lst [.int a3, .int a4, .int 0, .int (9 + a1), .int (99 + a2)]) hR
      have nR := D13.nin hR
      refine ⟨_, rfl, d, c, 5, rfl, D14, by decide, by decide, fun a5 He a5' a5'' e15 D15 => ?_⟩
      have kR := e15.lst (a := R) upd_same nR
      obtain ⟨v, hv, hvm⟩ := ix_of (xs := [V.int a3, .int a4, .int 0, .int (9 + a1), .int (99 + a2)]) a5' a5''
      obtain ⟨day, rfl, d0, d1⟩ : ∃ n : Int, v = .int n ∧ 0 ≤ n ∧ n ≤ 1000000 := by
        simp only [List.mem_cons, List.not_mem_nil, or_false] at hvm
        rcases hvm with z | z | z | z | z <;> exact ⟨_, z, by omega, by omega⟩
      refine ⟨R, _, a5, _, rfl, rfl, SqL.of kR, hv, ?_⟩
      have xa := ((((((e8.trans e9).trans x10).trans e11).trans e12).trans x13).trans x14).trans e15
      have hl1 := xa.lst hacc nl
      refine ⟨_, rfl, .inl ⟨rfl, _, SqL.of hl1⟩, _, rfl, _, rfl, _, rfl, d, c, hl_, hs, rfl, D15, hh.fx (e0.trans (e7.trans xa)), hok, fun q dd Hf hq hdd e16 D16 => ⟨by show 2 ≤ sizeLine; decide, fun p hpn => ?_⟩⟩
      have x17 := Fx.new (T := TB) (S := [d, c]) (o := .tup [V.int day, .ref q]) hpn
      have xb := (xa.trans e16).trans x17
      have hl2 := xb.lst hacc nl
      have hpl := paired_len hp
      have x18 := Fx.put (T := TB) (S := [l]) (o := .lst (acc ++ [V.ref p])) hl2 (by simp)
      refine ⟨l, acc, _, rfl, rfl, hl2, lt_line (by omega), _, _, _, acc ++ [.ref p], es ++ [(day, dd)], rfl, (e7.trans xb).putN hl2 hl, (D16.new hpn).put nl, upd_same, ?_, by simp [hlen], fun h hh => ?_⟩
      · exact (ents_fx x18 (ents_fx xb hp)).snoc ⟨p, q, rfl, x18.tup (SqT.of upd_same), (hq.fx x17).fx x18⟩
      · rcases List.mem_append.mp hh with hh | hh
        · exact hes h hh
        · have : h = (day, dd) := by simpa using hh
          subst this
          exact ⟨d0, d1, hdd⟩
    · rintro σ H' ⟨v1, v2, v3, acc, es, rfl, e7, D7, hacc, hp, hlen, hes⟩
      exact ⟨_, rfl, k l acc es _ hl0 hacc hp (by omega) hes (e0.trans e7) D7⟩
end
end K62
set_option Elab.async false
set_option linter.all false
set_option maxRecDepth 100000
set_option maxHeartbeats 2000000
namespace K62
open PySem PySem.Spec PyProof.Rows L2 LamX
abbrev st_Money___init : Stmt := inClass (top 25) 0
abbrev N_Money___init : List PySem.Str := ["self", "pence"]
theorem sc_Money___init : FnScope N_Money___init ["self", "pence"] (defScope st_Money___init) := ⟨rfl, rfl, rfl, by decide +kernel, rfl, by decide +kernel, by decide +kernel⟩
abbrev st_Money___str : Stmt := inClass (top 25) 2
abbrev N_Money___str : List PySem.Str := ["self", "sign", "shillings", "pence"]
theorem sc_Money___str : FnScope N_Money___str ["self"] (defScope st_Money___str) := ⟨rfl, rfl, rfl, by decide +kernel, rfl, by decide +kernel, by decide +kernel⟩
abbrev st_figures_of : Stmt := top 31
abbrev N_figures_of : List PySem.Str := ["number", "base", "found", "over"]
theorem sc_figures_of : FnScope N_figures_of ["number", "base"] (defScope st_figures_of) := ⟨rfl, rfl, rfl, by decide +kernel, rfl, by decide +kernel, by decide +kernel⟩
abbrev st_show_tally : Stmt := top 32
abbrev N_show_tally : List PySem.Str := ["tally"]
theorem sc_show_tally : FnScope N_show_tally ["tally"] (defScope st_show_tally) := ⟨rfl, rfl, rfl, by decide +kernel, rfl, by decide +kernel, by decide +kernel⟩
/-! ### plain texts -/
def dg : List Nat := (Str.ofString "0123456789abcd").cps.toList
def sg (i : Nat) : Str := ⟨#[dg.getD i 0]⟩
def figs (b n : Nat) : Str := if h : n < b ∨ b < 2 then sg n else figs b (n / b) ++ sg (n % b)
termination_by n
decreasing_by exact Nat.div_lt_self (by omega) (by omega)
theorem figs_lt {b n : Nat} (h : n < b) : figs b n = sg n := by rw [figs, dif_pos (.inl h)]
theorem figs_ge {b n : Nat} (h : b ≤ n) (h2 : 2 ≤ b) : figs b n = figs b (n / b) ++ sg (n % b) := by rw [figs, dif_neg (by omega)]
theorem sg_len (i : Nat) : (sg i).length = 1 := rfl
theorem figs_len (b : Nat) : ∀ n, (figs b n).length ≤ n + 1 := fun n => by
  induction n using Nat.strongRecOn with
  | _ n ih =>
    rw [figs]
    split
    · rw [sg_len]; omega
    · have : n / b < n := Nat.div_lt_self (by omega) (by omega)
      have := ih _ this
      rw [app_le, sg_len]; omega
def talS (b z : Int) : Str := (toString z : Str) ++ ":" ++ figs z.toNat b.toNat
def moneyS (p : Int) : Str := Txt.join "/" [(toString (p / 240) : Str), (toString (p / 12 % 20) : Str), (toString (p % 12) : Str)]
theorem toS_len {n : Int} (h0 : 0 ≤ n) (h1 : n < 10000000000000000) : (toString n : Str).length ≤ 20 := by
  have h := toString_length_le (k := 20) h0 (by decide) (Int.lt_of_lt_of_le h1 (by decide))
  exact h
section
variable {P : Program} {w : World} {K : PySem.W.Frag} {mg : Str → Option Value} {base : Heap} {TB : List (Addr × Str)}
structure Gc (mg : Str → Option Value) (t1 t2 t3 : Tok) : Prop extends Nm mg where
  g_PENCE : mg "PENCE" = some (.int 12 t1)
  g_SHILLINGS : mg "SHILLINGS" = some (.int 20 t2)
  g_FIGURES : mg "FIGURES" = some (.str "0123456789abcd" t3)
structure ClM (K : PySem.W.Frag) (CM : Addr) : Prop where
  cl : Cls K CM
  nP : NoAttr K CM "pence"
def spMInit (CM : Addr) : Sp := fun vs H Q _ => ∃ (x dx : Addr) (p : Int), vs = [.ref x, .int p] ∧ H x = some (.ins CM dx []) ∧ Q .non (upd H x (.ins CM dx [("pence", .int p)]))
theorem ok_minit {f CM : Addr} {fd : FuncData} (F : FnP K "__init__" "Money.__init__" st_Money___init [] f fd) (T : ClM K CM) : FnOk P w K mg base CX0 1 f fd ["self", "pence"] (spMInit CM) := by
  refine F.ok sc_Money___init (fun vs H Q E h => ?_) (fun cdv A outer s H vs Q E hr h => ?_)
  · obtain ⟨x, dx, p, rfl, _⟩ := h
    rfl
  · obtain ⟨x, dx, p, rfl, hx, k⟩ := h
    refine ⟨_, (PSs.nox (pss_one (Kx.psfld (K := K) (pv 0) (pv 1) rfl))), ?_⟩
    exact ⟨_, rfl, _, rfl, x, CM, dx, _, rfl, hx, T.cl, T.nP, by show 0 < 1000; decide, k⟩
def spMStr (TB : List (Addr × Str)) (CM : Addr) : Sp := fun vs H Q _ => ∃ (a dx : Addr) (p : Int), vs = [.ref a] ∧ H a = some (.ins CM dx [("pence", .int p)]) ∧ 0 ≤ p ∧ p < 10000000000000000 ∧ ∀ H', Fx TB [] H H' → Q (.str (moneyS p)) H'
theorem log_lt {n : Int} (h0 : 0 ≤ n) (h1 : n < 10000000000000000) : n.natAbs.log2 < 1920 := Nat.lt_trans (log_of (by omega)) (by decide)
theorem ok_mstr {f CM : Addr} {fd : FuncData} {t1 t2 t3 : Tok} (F : FnP K "__str__" "Money.__str__" st_Money___str [] f fd) (T : Gc mg t1 t2 t3) (TM : ClM K CM) : FnOk P w K mg base CX0 1 f fd ["self"] (spMStr TB CM) := by
  refine F.ok sc_Money___str (fun vs H Q E h => ?_) (fun cdv A outer s H vs Q E hr h => ?_)
  · obtain ⟨a, dx, p, rfl, _⟩ := h
    rfl
  · obtain ⟨a, dx, p, rfl, ha, p0, p1, k⟩ := h
    refine ⟨_, (PSs.nox (pss_cons (ps_set (i := 1) sc_Money___str.nd rfl (Or.inl rfl) (pe_ifExp (pt_cmpR op_lt (Kx.fld (K := K) (pv 0) rfl) pe_int (nomark _)) pe_str pe_str))
  (pss_cons (ps_asg (pe_callB (id := "divmod") (call_divmod) (by rfl) T.n_divmod (by decide +kernel) (pa_cons (pe_callB (id := "abs") (call_abs) (by rfl) T.n_abs (by decide +kernel) (pa_cons (Kx.fld (K := K) (pv 0) rfl) pa_nil)) (pa_cons (pe_glob (v := .int 12) rfl T.g_PENCE ⟨_, rfl⟩) pa_nil))) (Kx.pg_tup (K := K) (n := 2) (by rfl) (pgs_cons (pg_name (i := 2) sc_Money___str.nd rfl (Or.inl rfl)) (pgs_cons (pg_name (i := 3) sc_Money___str.nd rfl (Or.inl rfl)) pgs_nil))))
  (pss_one (ps_ret (pe_joined (PJ.cons (pe_fmt (pv 1)) (PJ.cons (pe_fmt (pe_op op_fdiv (pv 2) (pe_glob (v := .int 20) rfl T.g_SHILLINGS ⟨_, rfl⟩))) (PJ.cons pe_str (PJ.cons (pe_fmt (pe_op op_mod (pv 2) (pe_glob (v := .int 20) rfl T.g_SHILLINGS ⟨_, rfl⟩))) (PJ.cons pe_str (PJ.cons (pe_fmt (pv 3)) PJ.nil)))))))))))), ?_⟩
    refine ⟨_, rfl, a, CM, dx, _, _, rfl, ha, TM.cl, TM.nP, rfl, _, _, rfl, rfl, _, rfl, ?_⟩
    rw [decide_eq_false (by omega : ¬ p < 0)]
    refine ⟨_, rfl, a, CM, dx, _, _, rfl, ha, TM.cl, TM.nP, rfl, _, rfl, ?_⟩
    rw [if_neg (by omega : ¬ p < 0)]
    refine ⟨_, _, rfl, ⟨by decide, by decide⟩, fun q hq => ⟨q, _, rfl, SqT.of upd_same, rfl, _, _, rfl, _, _, rfl, rfl, ?_⟩⟩
    have b1 : 0 ≤ p / 12 / 20 ∧ p / 12 / 20 < 10000000000000000 := by omega
    have b2 : 0 ≤ p / 12 % 20 ∧ p / 12 % 20 < 10000000000000000 := by omega
    have b3 : 0 ≤ p % 12 ∧ p % 12 < 10000000000000000 := by omega
    have l1 := toS_len b1.1 b1.2
    have l2 := toS_len b2.1 b2.2
    have l3 := toS_len b3.1 b3.2
    have s1 : (Str.ofString "/").length = 1 := rfl
    have s0 : (Str.ofString "").length = 0 := rfl
    have se : Str.empty.length = 0 := rfl
    refine ⟨_, rfl, .inl ⟨_, rfl, Nat.zero_le _, _, rfl, ty_line (by simp only [app_le]; omega), ?_⟩⟩
    refine ⟨_, rfl, _, _, rfl, rfl, ⟨by decide, by decide⟩, .inr ⟨_, rfl, log_lt b1.1 b1.2, _, rfl, ty_line (by simp only [app_le]; omega), ?_⟩⟩
    refine ⟨_, rfl, ty_line (by simp only [app_le]; omega), ?_⟩
    refine ⟨_, rfl, _, _, rfl, rfl, by show (0 : Int) < 20; decide, .inr ⟨_, rfl, log_lt b2.1 b2.2, _, rfl, ty_line (by simp only [app_le]; omega), ?_⟩⟩
    refine ⟨_, rfl, ty_line (by simp only [app_le]; omega), ?_⟩
    refine ⟨_, rfl, .inr ⟨_, rfl, log_lt b3.1 b3.2, _, rfl, ty_line (by simp only [app_le]; omega), ?_⟩⟩
    have e : Str.empty ++ Str.ofString "" ++ Str.ofString (toString (p / 12 / 20)) ++ Str.ofString "/" ++ Str.ofString (toString (p / 12 % 20)) ++ Str.ofString "/" ++ Str.ofString (toString (p % 12)) = moneyS p := by
      unfold moneyS
      rw [show p / 240 = p / 12 / 20 by omega, show ∀ ss, Txt.join "/" ss = Str.join "/" ss from fun ss => StrLaws.glued_eq_join _ ss]
      show _ = Str.ofString (toString (p / 12 / 20)) ++ Str.ofString "/" ++ (Str.ofString (toString (p / 12 % 20)) ++ Str.ofString "/" ++ Str.ofString (toString (p % 12)))
      rw [Str.empty_append, show Str.ofString "" = Str.empty from rfl, Str.empty_append]
      simp only [Str.append_assoc]
    show Q (.str (Str.empty ++ Str.ofString "" ++ Str.ofString (toString (p / 12 / 20)) ++ Str.ofString "/" ++ Str.ofString (toString (p / 12 % 20)) ++ Str.ofString "/" ++ Str.ofString (toString (p % 12)))) _
    rw [e]
    exact k _ (Fx.new hq)
/-! ### tallies as texts -/
def spFig (TB : List (Addr × Str)) : Sp := fun vs H Q _ => ∃ (n b : Nat), vs = [.int n, .int b] ∧ n ≤ 1000000 ∧ (b = 12 ∨ b = 14) ∧ ∀ H', Fx TB [] H H' → Q (.str (figs b n)) H'
theorem dg_len : dg.length = 14 := by decide
theorem sg_at {i : Nat} (h : i < 14) : atI (Str.ofString "0123456789abcd").cps.toList (i : Int) = some (dg.getD i 0) := by
  refine atI_nat ?_
  have : i < dg.length := by rw [dg_len]; exact h
  show dg[i]? = some (dg.getD i 0)
  rw [List.getD_eq_getElem?_getD, List.getElem?_eq_getElem this]; rfl
def mu0 (σ : L2.St) : Nat := match σ[0]? with
  | some (some (V.int m)) => m.toNat
  | _ => 0
theorem ok_fig {f : Addr} {fd : FuncData} {t1 t2 t3 : Tok} (F : FnP K "figures_of" "figures_of" st_figures_of [] f fd) (T : Gc mg t1 t2 t3) : FnOk P w K mg base CX0 1 f fd ["number", "base"] (spFig TB) := by
  refine F.ok sc_figures_of (fun vs H Q E h => ?_) (fun cdv A outer s H vs Q E hr h => ?_)
  · obtain ⟨n, b, rfl, _⟩ := h
    rfl
  · obtain ⟨n, b, rfl, hn, hb, k⟩ := h
    refine ⟨_, (PSs.nox (pss_cons (ps_set (i := 2) sc_figures_of.nd rfl (Or.inl rfl) pe_str)
  (pss_cons (ps_while PassesOwn.never (pt_cmpR op_ge (pv 0) (pv 1) (nomark _))
  (pss_cons (ps_asg (pe_callB (id := "divmod") (call_divmod) (by rfl) T.n_divmod (by decide +kernel) (pa_cons (pv 0) (pa_cons (pv 1) pa_nil))) (Kx.pg_tup (K := K) (n := 2) (by rfl) (pgs_cons (pg_name (i := 0) sc_figures_of.nd rfl (Or.inl rfl)) (pgs_cons (pg_name (i := 3) sc_figures_of.nd rfl (Or.inl rfl)) pgs_nil))))
  (pss_one (ps_set (i := 2) sc_figures_of.nd rfl (Or.inl rfl) (pe_op op_add_str (pe_ix ix_str (pe_glob (v := .str "0123456789abcd") rfl T.g_FIGURES ⟨_, rfl⟩) (pv 3) (fun _ _ => rfl)) (pv 2))))))
  (pss_one (ps_ret (pe_op op_add_str (pe_ix ix_str (pe_glob (v := .str "0123456789abcd") rfl T.g_FIGURES ⟨_, rfl⟩) (pv 0) (fun _ _ => rfl)) (pv 2))))))), ?_⟩
    have hb2 : 12 ≤ b ∧ b ≤ 14 := by omega
    refine while_by (fun σ H' => ∃ (m : Nat) (acc : Str) (v : Option V), σ = [some (.int (m : Int)), some (.int (b : Int)), some (.str acc), v] ∧ Fx TB [] H H' ∧ figs b m ++ acc = figs b n ∧ acc.length + m ≤ n) (fun σ _ => mu0 σ)
      ⟨n, Str.empty, none, rfl, Fx.refl H, Str.append_empty _, Nat.le_of_eq (Nat.zero_add n)⟩ ?_ ?_
    · rintro σ H' ⟨m, acc, v, rfl, e, hf, hl⟩
      refine ⟨_, rfl, _, rfl, _, _, rfl, rfl, _, rfl, ?_⟩
      by_cases hm : b ≤ m
      · rw [decide_eq_true (by omega : (b : Int) ≤ (m : Int))]
        refine ⟨_, rfl, _, rfl, _, _, rfl, ⟨by omega, by omega⟩, fun p hp => ⟨p, _, rfl, SqT.of upd_same, rfl, _, _, rfl, _, _, rfl, rfl, ?_⟩⟩
        have hmod : m % b < 14 := Nat.lt_of_lt_of_le (Nat.mod_lt _ (by omega)) hb2.2
        have hdiv : m / b < m := Nat.div_lt_self (by omega) (by omega)
        refine ⟨_, rfl, _, _, _, rfl, rfl, by decide, sg_at hmod, _, rfl, _, _, rfl, rfl, ty_line (show 1 + acc.length ≤ 10000000 from by omega), ⟨m / b, sg (m % b) ++ acc, _, rfl, e.newA hp, ?_, ?_⟩, ?_⟩
        · rw [← Str.append_assoc, ← figs_ge hm (by omega)]; exact hf
        · rw [app_le, sg_len]; omega
        · exact hdiv
      · rw [decide_eq_false (by omega : ¬ (b : Int) ≤ (m : Int))]
        refine ⟨_, rfl, _, _, _, rfl, rfl, by decide, sg_at (by omega), _, rfl, _, _, rfl, rfl, ty_line (show 1 + acc.length ≤ 10000000 from by omega), ?_⟩
        have : sg m ++ acc = figs b n := by rw [← figs_lt (Nat.lt_of_not_le hm)]; exact hf
        show Q (.str (sg m ++ acc)) _
        rw [this]
        exact k _ e
    · intro σ H' Q1 Q2 h ⟨v, e1, u, e2, i, j, e3, e4, kk, e5, q⟩
      exact ⟨v, e1, u, e2, i, j, e3, e4, kk, e5, h _ _ q⟩
structure ClTs (K : PySem.W.Frag) (CT : Addr) : Prop extends ClT K CT where
  ca : PySem.W.findIn K (.ref CT) "__class__" = some (some (.builtin "object.__class__"))
  cn : PySem.W.specialIn K (.builtin "object.__class__") "__get__" = some (some (.builtin "getset_descriptor.__get__"))
  ct : PySem.W.takesIn K (.builtin "object.__class__") = some true
  cm : PySem.W.mroIn K CT (.type "object") = some true
  kt : PySem.W.kitOne K (.ref CT) (.ref CT) = some true
  kb : PySem.W.kitOne K (.ref CT) (.type "bool") = some false
  ks : PySem.W.kitOne K (.type "str") (.ref CT) = some false
  ki : PySem.W.kitOne K (.type "int") (.ref CT) = some false
  kbl : PySem.W.kitOne K (.type "bool") (.ref CT) = some false
def spShT (TB : List (Addr × Str)) (CT : Addr) : Sp := fun vs H Q _ => ∃ (a dx : Addr) (b z : Int), vs = [.ref a] ∧ H a = some (.ins CT dx [("blades", .int b), ("dozen", .int z)]) ∧ PartOk (.tal b z) ∧ ∀ H', Fx TB [] H H' → Q (.str (talS b z)) H'
theorem lk_b (b z : V) : ([("blades", b), ("dozen", z)] : List (Str × V)).lookup (("blades" : Str)) = some b := rfl
theorem lk_d (b z : V) : ([("blades", b), ("dozen", z)] : List (Str × V)).lookup (("dozen" : Str)) = some z := by
  show (match (("dozen" : Str) == ("blades" : Str)) with | true => some b | false => ([("dozen", z)] : List (Str × V)).lookup (("dozen" : Str))) = some z
  rw [show (("dozen" : Str) == ("blades" : Str)) = false by decide +kernel]; rfl
theorem ok_showtally {f fF CT : Addr} {fd fdF : FuncData} {t1 t2 t3 : Tok} (F : FnP K "show_tally" "show_tally" st_show_tally [] f fd) (T : Gc mg t1 t2 t3) (TT : ClTs K CT) (C_figures_of : Cal P w K mg base 1 "figures_of" fF fdF ["number", "base"] (spFig TB)) :
    FnOk P w K mg base CX0 2 f fd ["tally"] (spShT TB CT) := by
  refine F.ok sc_show_tally (fun vs H Q E h => ?_) (fun cdv A outer s H vs Q E hr h => ?_)
  · obtain ⟨a, dx, b, z, rfl, _⟩ := h
    rfl
  · obtain ⟨a, dx, b, z, rfl, ha, ⟨hb0, hb1, hz⟩, k⟩ := h
    refine ⟨_, (PSs.nox (pss_one (ps_ret (pe_joined (PJ.cons (pe_fmt (Kx.fld (K := K) (pv 0) rfl)) (PJ.cons pe_str (PJ.cons (pe_fmt (pe_call C_figures_of.G (hr.mono (by decide)) rfl C_figures_of.g C_figures_of.kp C_figures_of.b .nil pass0 (pa_cons (Kx.fld (K := K) (pv 0) rfl) (pa_cons (Kx.fld (K := K) (pv 0) rfl) pa_nil)))) PJ.nil))))))), ?_⟩
    obtain ⟨n, rfl⟩ : ∃ n : Nat, b = n := ⟨b.toNat, by omega⟩
    obtain ⟨m, rfl⟩ : ∃ m : Nat, z = m := ⟨z.toNat, by omega⟩
    have l1 := toS_len (n := (m : Int)) (by omega) (by omega)
    have s1 : (Str.ofString ":").length = 1 := rfl
    have se : Str.empty.length = 0 := rfl
    have l2 := figs_len m n
    refine ⟨_, rfl, a, CT, dx, _, _, rfl, ha, TT.cl, TT.nD, lk_d _ _, .inr ⟨_, rfl, log_lt (by omega) (by omega), _, rfl, ty_line (by simp only [app_le]; omega), ?_⟩⟩
    refine ⟨_, rfl, ty_line (by simp only [app_le]; omega), ?_⟩
    refine ⟨_, rfl, a, CT, dx, _, _, rfl, ha, TT.cl, TT.nB, lk_b _ _, _, rfl, a, CT, dx, _, _, rfl, ha, TT.cl, TT.nD, lk_d _ _, n, m, rfl, by omega, by omega, fun H' e => .inl ⟨_, rfl, ty_line (by omega), _, rfl, ty_line (by simp only [app_le]; omega), ?_⟩⟩
    show Q (.str (Str.empty ++ Str.ofString (toString (m : Int)) ++ Str.ofString ":" ++ figs m n)) _
    rw [Str.empty_append]
    exact k _ e
end
end K62
set_option Elab.async false
set_option linter.all false
set_option maxRecDepth 100000
set_option maxHeartbeats 2000000
namespace K62
open PySem PySem.Spec PyProof.Rows L2 LamX
abbrev st_is_whole_63 : Stmt := top 63
abbrev N_is_whole_63 : List PySem.Str := ["thing"]
theorem sc_is_whole_63 : FnScope N_is_whole_63 ["thing"] (defScope st_is_whole_63) := ⟨rfl, rfl, rfl, by decide +kernel, rfl, by decide +kernel, by decide +kernel⟩
abbrev st_is_of : Stmt := top 65
abbrev N_is_of : List PySem.Str := ["sort", "thing"]
theorem sc_is_of : FnScope N_is_of ["sort", "thing"] (defScope st_is_of) := ⟨rfl, rfl, rfl, by decide +kernel, rfl, by decide +kernel, by decide +kernel⟩
abbrev st_is_deed : Stmt := top 66
abbrev N_is_deed : List PySem.Str := ["thing", "form", "sort", "part"]
theorem sc_is_deed : FnScope N_is_deed ["thing"] (defScope st_is_deed) := ⟨rfl, rfl, rfl, by decide +kernel, rfl, by decide +kernel, by decide +kernel⟩
/-- a comprehension over zip(.., strict=True), the two of one length -/
theorem lc_zipS {K : PySem.W.Frag} {k1 k2 : LmZ.Zk} {xs ys : List V} {g : TG} {tt : TT} {te : TE} {vs : List Nat} {σ : L2.St} {H1 : Hp} {D : Addr} {Qd : Hp → Prop} (hl : xs.length = ys.length) (Pv : Nat → Hp → Prop) (h0 : Pv 0 (upd H1 D (.lst [])))
    (hq1 : ∀ i H, Pv i H → k1.src K H xs) (hq2 : ∀ i H, Pv i H → k2.src K H ys)
    (hs : ∀ i x y T H, xs[i]? = some x → ys[i]? = some y → Pv i H → H T = none → g (.ref T) (wipe σ vs) (upd H T (.tup [x, y])) fun σ2 H2 => wipe σ2 vs = wipe σ vs ∧ tt σ2 H2 fun b H3 =>
      if b = true then te σ2 H3 fun y H4 => ∃ acc, H4 D = some (.lst acc) ∧ acc.length < sizeLine ∧ Pv (i + 1) (upd H4 D (.lst (acc ++ [y]))) else Pv (i + 1) H3) (hd : ∀ H, Pv xs.length H → Qd H) :
    ∃ W : Nat → Nat → Hp → Prop, (∃ m, W 0 m (upd H1 D (.lst []))) ∧ ∀ i m H, W i m H →
      ((LmZ.ItzS K k1 k2).stop i H ∧ Qd H) ∨ ((LmZ.ItzS K k1 k2).go i H ∧ ∃ Nx : Hp → Prop, (∀ H', Nx H' → ∃ m', m' < m ∧ W (i + 1) m' H') ∧ ∀ x H', (LmZ.ItzS K k1 k2).yld i H x H' → g x (wipe σ vs) H' fun σ2 H2 => wipe σ2 vs = wipe σ vs ∧ tt σ2 H2 fun b H3 =>
        if b = true then te σ2 H3 fun y H4 => ∃ acc, H4 D = some (.lst acc) ∧ acc.length < sizeLine ∧ Nx (upd H4 D (.lst (acc ++ [y]))) else Nx H3) := by
  refine ⟨fun i m H => m = xs.length - i ∧ i ≤ xs.length ∧ Pv i H, ⟨xs.length, by simp, Nat.zero_le _, h0⟩, ?_⟩
  rintro i m H ⟨rfl, hi, p⟩
  have q1 := hq1 i H p
  have q2 := hq2 i H p
  by_cases hlt : i < xs.length
  · refine .inr ⟨⟨xs, ys, xs[i], ys[i]'(by omega), q1, q2, by simp [hlt], by simp [hl ▸ hlt]⟩, Pv (i + 1), fun H' p' => ⟨xs.length - (i + 1), by omega, rfl, hlt, p'⟩, ?_⟩
    rintro v H' ⟨T, x, y, rfl, hT, rfl, hx, hy⟩
    exact hs i x y T H (hx _ q1) (hy _ q2) p hT
  · have : i = xs.length := by omega
    subst this
    exact .inl ⟨⟨xs, ys, q1, q2, rfl, hl.symm⟩, hd H p⟩
theorem kind_cases {n : Nat} {p : Part} (h : Kind n p) : (n = 116 ∧ ∃ s, p = .txt s) ∨ (n = 99 ∧ ∃ b z, p = .tal b z) ∨ (n = 98 ∧ ∃ b, p = .yes b) ∨ (n = 109 ∧ ∃ m, p = .num m) ∨ (n = 110 ∧ ∃ m, p = .num m) ∨ (n = 110 ∧ p = .non) := by
  unfold Kind at h
  split at h <;> simp_all
theorem sqT_ty {K : PySem.W.Frag} {H : Hp} {a : Addr} {xs : List V} (h : SqT K H a xs) : TyX K H (.ref a) (.type "tuple") := by
  rcases h with (h | ⟨o, h⟩) | ⟨o, its, n, hk, hc, _⟩
  · exact .base (.tup h)
  · exact .fTuple h
  · exact .kTuple hk hc
section
variable {P : Program} {w : World} {K : PySem.W.Frag} {mg : Str → Option Value} {base : Heap} {TB : List (Addr × Str)}
def spWhole : Sp := fun vs H Q _ => (∃ i, vs = [.int i] ∧ Q (.bl true) H) ∨ (vs = [.non] ∧ Q (.bl false) H)
theorem ok_whole {f : Addr} {fd : FuncData} (F : FnP K "is_whole" "is_whole" st_is_whole_63 [] f fd) (T : Nm mg) : FnOk P w K mg base CX0 1 f fd ["thing"] spWhole := by
  refine F.ok sc_is_whole_63 (fun vs H Q E h => ?_) (fun cdv A outer s H vs Q E hr h => ?_)
  · rcases h with ⟨i, rfl, _⟩ | ⟨rfl, _⟩ <;> rfl
  · refine ⟨_, (PSs.nox (pss_one (ps_ret (pe_and (pe_callB (id := "isinstance") (Kx.isi (K := K)) (by rfl) T.n_isinstance (by decide +kernel) (pa_cons (pv 0) (pa_cons (pe_bltn (v := .ty "int") (u := .type "int") rfl T.n_int (by decide +kernel) rfl) pa_nil))) (pe_one (pe_not (pe_callB (id := "isinstance") (Kx.isi (K := K)) (by rfl) T.n_isinstance (by decide +kernel) (pa_cons (pv 0) (pa_cons (pe_bltn (v := .ty "bool") (u := .type "bool") rfl T.n_bool (by decide +kernel) rfl) pa_nil))))))))), ?_⟩
    rcases h with ⟨i, rfl, k⟩ | ⟨rfl, k⟩
    · exact ⟨_, rfl, _, _, _, _, true, rfl, .ty "int", .base (.int i), kit_ty (by decide +kernel), _, rfl, _, rfl, _, _, _, _, false, rfl, .ty "bool", .base (.int i), kit_ty (by decide +kernel), _, rfl, k⟩
    · exact ⟨_, rfl, _, _, _, _, false, rfl, .ty "int", .base .non, kit_ty (by decide +kernel), _, rfl, k⟩
def spIsOf (CT : Addr) : Sp := fun vs H Q _ => ∃ n v p, vs = [.str ⟨#[n]⟩, v] ∧ IsPart CT H v p ∧ Kind n p ∧ Q (.bl true) H
structure Gt (K : PySem.W.Frag) (mg : Str → Option Value) (CT : Addr) : Prop extends Nm mg where
  g_Tally : mg "Tally" = some (.ref CT)
theorem tyT {CT a dx : Addr} {fs : List (Str × V)} {H : Hp} (T : ClTs K CT) (h : H a = some (.ins CT dx fs)) : TyX K H (.ref a) (.ref CT) := .base (.ins h T.cl T.ca T.cn T.ct T.cm)
theorem str_ne {a b : Str} (h : a ≠ b) : ¬ (V.str a = V.str b) := fun z => h (V.str.inj z)
theorem ok_isof {f fW CT : Addr} {fd fdW : FuncData} (F : FnP K "is_of" "is_of" st_is_of [] f fd) (T : Gt K mg CT) (TT : ClTs K CT) (C_is_whole_journals : Cal P w K mg base 1 "is_whole_journals" fW fdW ["thing"] spWhole) :
    FnOk P w K mg base CX0 2 f fd ["sort", "thing"] (spIsOf CT) := by
  refine F.ok sc_is_of (fun vs H Q E h => ?_) (fun cdv A outer s H vs Q E hr h => ?_)
  · obtain ⟨n, v, p, rfl, _⟩ := h
    rfl
  · obtain ⟨n, v, p, rfl, hp, hk, k⟩ := h
    refine ⟨_, (PSs.nox (pss_cons (ps_if (pt_cmpR op_eq (pv 0) pe_str (nomark _))
  (pss_one (ps_ret (pe_callB (id := "isinstance") (Kx.isi (K := K)) (by rfl) T.n_isinstance (by decide +kernel) (pa_cons (pv 1) (pa_cons (pe_bltn (v := .ty "str") (u := .type "str") rfl T.n_str (by decide +kernel) rfl) pa_nil)))))
  pss_nil)
  (pss_cons (ps_if (pt_cmpR op_eq (pv 0) pe_str (nomark _))
  (pss_one (ps_ret (pe_callB (id := "isinstance") (Kx.isi (K := K)) (by rfl) T.n_isinstance (by decide +kernel) (pa_cons (pv 1) (pa_cons (pe_glob (v := .ref _) rfl T.g_Tally rfl) pa_nil)))))
  pss_nil)
  (pss_cons (ps_if (pt_cmpR op_eq (pv 0) pe_str (nomark _))
  (pss_one (ps_ret (pe_callB (id := "isinstance") (Kx.isi (K := K)) (by rfl) T.n_isinstance (by decide +kernel) (pa_cons (pv 1) (pa_cons (pe_bltn (v := .ty "bool") (u := .type "bool") rfl T.n_bool (by decide +kernel) rfl) pa_nil)))))
  pss_nil)
  (pss_one (ps_ret (pe_or (pe_call C_is_whole_journals.G (hr.mono (by decide)) rfl C_is_whole_journals.g C_is_whole_journals.kp C_is_whole_journals.b .nil pass0 (pa_cons (pv 1) pa_nil)) (pe_one (pe_and (pe_cmpR op_eq (pv 0) pe_str (nomark _)) (pe_one (pe_cmpR op_isN (pv 1) pe_non (nomark _)))))))))))), ?_⟩
    rcases kind_cases hk with ⟨rfl, s, rfl⟩ | ⟨rfl, b, z, rfl⟩ | ⟨rfl, b, rfl⟩ | ⟨rfl, m, rfl⟩ | ⟨rfl, m, rfl⟩ | ⟨rfl, rfl⟩
    · obtain rfl : v = .str s := hp
      refine ⟨_, rfl, rfl, _, rfl, ?_⟩
      rw [decide_eq_true (show V.str ⟨#[116]⟩ = V.str (Str.ofString "t") from rfl)]
      exact ⟨_, rfl, _, _, _, _, true, rfl, .ty "str", .base (.str s), kit_ty (by decide +kernel), k⟩
    · obtain ⟨a, dx, rfl, ha⟩ := hp
      refine ⟨_, rfl, rfl, _, rfl, ?_⟩
      rw [decide_eq_false (str_ne (a := ⟨#[99]⟩) (b := Str.ofString "t") (by decide))]
      refine ⟨_, rfl, rfl, _, rfl, ?_⟩
      rw [decide_eq_true (show V.str ⟨#[99]⟩ = V.str (Str.ofString "c") from rfl)]
      exact ⟨_, rfl, _, _, _, _, true, rfl, .own CT, tyT TT ha, TT.kt, k⟩
    · obtain rfl : v = .bl b := hp
      refine ⟨_, rfl, rfl, _, rfl, ?_⟩
      rw [decide_eq_false (str_ne (a := ⟨#[98]⟩) (b := Str.ofString "t") (by decide))]
      refine ⟨_, rfl, rfl, _, rfl, ?_⟩
      rw [decide_eq_false (str_ne (a := ⟨#[98]⟩) (b := Str.ofString "c") (by decide))]
      refine ⟨_, rfl, rfl, _, rfl, ?_⟩
      rw [decide_eq_true (show V.str ⟨#[98]⟩ = V.str (Str.ofString "b") from rfl)]
      exact ⟨_, rfl, _, _, _, _, true, rfl, .ty "bool", .base (.bl b), kit_ty (by decide +kernel), k⟩
    · obtain rfl : v = .int m := hp
      refine ⟨_, rfl, rfl, _, rfl, ?_⟩
      rw [decide_eq_false (str_ne (a := ⟨#[109]⟩) (b := Str.ofString "t") (by decide))]
      refine ⟨_, rfl, rfl, _, rfl, ?_⟩
      rw [decide_eq_false (str_ne (a := ⟨#[109]⟩) (b := Str.ofString "c") (by decide))]
      refine ⟨_, rfl, rfl, _, rfl, ?_⟩
      rw [decide_eq_false (str_ne (a := ⟨#[109]⟩) (b := Str.ofString "b") (by decide))]
      exact ⟨_, rfl, .inl ⟨m, rfl, _, rfl, k⟩⟩
    · obtain rfl : v = .int m := hp
      refine ⟨_, rfl, rfl, _, rfl, ?_⟩
      rw [decide_eq_false (str_ne (a := ⟨#[110]⟩) (b := Str.ofString "t") (by decide))]
      refine ⟨_, rfl, rfl, _, rfl, ?_⟩
      rw [decide_eq_false (str_ne (a := ⟨#[110]⟩) (b := Str.ofString "c") (by decide))]
      refine ⟨_, rfl, rfl, _, rfl, ?_⟩
      rw [decide_eq_false (str_ne (a := ⟨#[110]⟩) (b := Str.ofString "b") (by decide))]
      exact ⟨_, rfl, .inl ⟨m, rfl, _, rfl, k⟩⟩
    · obtain rfl : v = .non := hp
      refine ⟨_, rfl, rfl, _, rfl, ?_⟩
      rw [decide_eq_false (str_ne (a := ⟨#[110]⟩) (b := Str.ofString "t") (by decide))]
      refine ⟨_, rfl, rfl, _, rfl, ?_⟩
      rw [decide_eq_false (str_ne (a := ⟨#[110]⟩) (b := Str.ofString "c") (by decide))]
      refine ⟨_, rfl, rfl, _, rfl, ?_⟩
      rw [decide_eq_false (str_ne (a := ⟨#[110]⟩) (b := Str.ofString "b") (by decide))]
      refine ⟨_, rfl, .inr ⟨rfl, _, rfl, ?_⟩⟩
      refine ⟨_, rfl, rfl, _, rfl, ?_⟩
      rw [decide_eq_true (show V.str ⟨#[110]⟩ = V.str (Str.ofString "n") from rfl)]
      refine ⟨_, rfl, rfl, ?_⟩
      rw [decide_eq_true (show V.non = V.non from rfl)]
      exact k
theorem cut1 (x : V) (vs : List V) : cutV (x :: vs) (some 1) none = vs := by
  unfold cutV
  have h1 : HT.sIx (x :: vs).length 0 (some ((1 : Nat) : Int)) = min 1 (x :: vs).length := HT.sIx_nat _ _ _
  have h2 : HT.sIx (x :: vs).length 0 (some (1 : Int)) = 1 := h1.trans (by rw [List.length_cons]; omega)
  rw [h2, HT.sIx_none]
  simp
def spIsDeed (TB : List (Addr × Str)) (CT : Addr) (K : PySem.W.Frag) : Sp := fun vs H Q _ => ∃ q d, vs = [.ref q] ∧ IsDeed CT K H q d ∧ DeedOk d ∧ ∀ H', Fx TB [] H H' → Q (.bl true) H'
structure Gf (w : World) (K : PySem.W.Frag) (mg : Str → Option Value) (aF : Addr) : Prop extends Nm mg where
  g_FORMS : mg "FORMS" = some (.ref aF)
  dF : ∃ es n, K.lookup aF = some ⟨.type "dict", none, .dict es n, #[]⟩
  hF : ∀ nm f, (nm, f) ∈ forms → LmO.KGet K w aF nm (some (.str ⟨f.toArray⟩))
theorem forms_len {nm : Str} {f : List Nat} (h : (nm, f) ∈ forms) : f.length ≤ 4 := by
  simp only [forms, List.mem_cons, List.not_mem_nil, or_false, Prod.mk.injEq] at h
  rcases h with ⟨_, h⟩ | ⟨_, h⟩ | ⟨_, h⟩ | ⟨_, h⟩ | ⟨_, h⟩ <;> (rw [h]; decide)
theorem ok_isdeed {f fO CT aF : Addr} {fd fdO : FuncData} (F : FnP K "is_deed" "is_deed" st_is_deed [] f fd) (T : Gf w K mg aF) (C_is_of : Cal P w K mg base 2 "is_of" fO fdO ["sort", "thing"] (spIsOf CT)) :
    FnOk P w K mg base CX0 3 f fd ["thing"] (spIsDeed TB CT K) := by
  refine F.ok sc_is_deed (fun vs H Q E h => ?_) (fun cdv A outer s H vs Q E hr h => ?_)
  · obtain ⟨q, d, rfl, _⟩ := h
    rfl
  · obtain ⟨q, d, rfl, ⟨vs, hst, hps⟩, ⟨⟨fm, hfm, hks⟩, hoks⟩, k⟩ := h
    refine ⟨_, (PSs.nox (pss_cons (ps_if (PW.pt (pw_or (pt_not (pt_val (pe_callB (id := "isinstance") (Kx.isi (K := K)) (by rfl) T.n_isinstance (by decide +kernel) (pa_cons (pv 0) (pa_cons (pe_bltn (v := .ty "tuple") (u := .type "tuple") rfl T.n_tuple (by decide +kernel) rfl) pa_nil))))) (pw_or (pt_cmpR (Kx.eqNil (K := K) hr.units0) (pv 0) (pe_tup pa_nil) (nomark _)) (pw_or1 (pt_not (pt_val (pe_callB (id := "isinstance") (Kx.isi (K := K)) (by rfl) T.n_isinstance (by decide +kernel) (pa_cons (pe_ix (Kx.ix_tup (K := K)) (pv 0) pe_int (fun _ _ => rfl)) (pa_cons (pe_bltn (v := .ty "str") (u := .type "str") rfl T.n_str (by decide +kernel) rfl) pa_nil)))))))))
  (pss_one (ps_ret pe_bl))
  pss_nil)
  (pss_cons (ps_set (i := 1) sc_is_deed.nd rfl (Or.inl rfl) (LmO.pe_kget1 aF (pe_glob (v := .ref _) rfl T.g_FORMS rfl) T.dF (pe_ix (Kx.ix_tup (K := K)) (pv 0) pe_int (fun _ _ => rfl)) ⟨by rfl, by rfl, by rfl, by rfl⟩))
  (pss_cons (ps_if (PW.pt (pw_or (pt_cmpR op_isN (pv 1) pe_non (nomark _)) (pw_or1 (pt_cmpR op_ne (pe_callB (id := "len") (Kx.len (K := K)) (by rfl) T.n_len (by decide +kernel) (pa_cons (pv 0) pa_nil)) (pe_op op_add (pe_callB (id := "len") (Kx.len (K := K)) (by rfl) T.n_len (by decide +kernel) (pa_cons (pv 1) pa_nil)) pe_int) (nomark _)))))
  (pss_one (ps_ret pe_bl))
  pss_nil)
  (pss_one (ps_ret (pe_callB (id := "all") (Kx.all (K := K)) (by rfl) T.n_all (by decide +kernel) (pa_cons (pe_lc (own := [("sort", 2), ("part", 3)]) rfl sc_is_deed.nd (Kx.pi_zipS (K := K) rfl T.n_zip (pa_cons (pv 1) (pa_cons (pe_slice (Kx.sl_tup (K := K)) (pv 0) (po_some pe_int) po_none) pa_nil))) (blkOk_by (N := N_is_deed) (sc := defScope st_is_deed) (own := [("sort", 2), ("part", 3)]) (by decide +kernel)) (fun _ _ _ _ _ => (Kx.pg_tup (K := K) (n := 2) (by rfl) (pgs_cons (pg_name (i := 2) sc_is_deed.nd rfl (Or.inl rfl)) (pgs_cons (pg_name (i := 3) sc_is_deed.nd rfl (Or.inl rfl)) pgs_nil)))) (fun _ _ _ _ _ => pts_nil) (fun _ _ _ _ _ => (pe_call C_is_of.G (hr.mono (by decide)) rfl C_is_of.g C_is_of.kp C_is_of.b .nil pass0 (pa_cons (pv 2) (pa_cons (pv 3) pa_nil))))) pa_nil)))))))), ?_⟩
    refine ⟨_, rfl, _, _, _, _, true, rfl, .ty "tuple", sqT_ty hst, kit_ty (by decide +kernel), _, rfl, ?_⟩
    refine ⟨_, rfl, Nat.zero_le _, fun p hp => ?_⟩
    have e1 := Fx.new (T := TB) (S := []) (o := .tup []) hp
    have hst1 := e1.tup hst
    refine ⟨q, p, _, rfl, rfl, hst1, SqT.of upd_same, _, rfl, ?_⟩
    refine ⟨_, rfl, q, _, 0, _, rfl, rfl, hst1, atI_nat (j := 0) rfl, _, _, _, _, true, rfl, .ty "str", .base (.str _), kit_ty (by decide +kernel), _, rfl, ?_⟩
    have hvl : vs.length = fm.length := (paired_len hps).trans (paired_len hks).symm
    have hfl := forms_len hfm
    have hzl : (⟨fm.toArray⟩ : Str).length = fm.length := by simp [Str.length]
    refine ⟨_, rfl, q, _, 0, _, rfl, rfl, hst1, atI_nat (j := 0) rfl, aF, _, _, rfl, rfl, T.hF _ _ hfm, ?_⟩
    refine ⟨_, rfl, rfl, _, rfl, ?_⟩
    rw [decide_eq_false (show ¬ ((some (V.str ⟨fm.toArray⟩)).getD V.non = V.non) from fun z => by cases z)]
    refine ⟨_, rfl, _, _, rfl, .inr ⟨_, hst1, rfl⟩, _, rfl, _, _, rfl, ⟨ty_line (by omega), rfl⟩, _, _, rfl, rfl, rfl, _, rfl, ?_⟩
    rw [show (!decide (V.int (((V.str d.name :: vs).length : Nat) : Int) = V.int ((((⟨fm.toArray⟩ : Str).length : Nat) : Int) + 1))) = false by
      rw [decide_eq_true (by rw [List.length_cons, hvl, hzl]; rfl)]; rfl]
    refine ⟨_, rfl, _, rfl, 1, rfl, q, _, rfl, hst1, ?_, fun p2 hp2 => ?_⟩
    · rw [List.length_cons]
      intro z
      have h1 : HT.sIx (vs.length + 1) 0 (some ((1 : Nat) : Int)) = min 1 (vs.length + 1) := HT.sIx_nat _ _ _
      have h2 := z.1
      have h3 : min 1 (vs.length + 1) = 0 := h1.symm.trans h2
      omega
    rw [cut1]
    have e2 := e1.newA (o := .tup vs) hp2
    have x2 := Fx.new (T := TB) (S := []) (o := .tup vs) hp2
    have hvs2 : SqT K (upd (upd H p (.tup [])) p2 (.tup vs)) p2 vs := SqT.of upd_same
    have hps2 := Paired.mapP hps fun v pp y => IsPart.fx (CT := CT) e2 y
    generalize upd (upd H p (.tup [])) p2 (.tup vs) = Ha at e2 hvs2 hps2 ⊢
    refine ⟨.txt ⟨fm.toArray⟩, .tup p2, _, _, rfl, rfl, hvs2, fun D hD => lc_zipS (k1 := .txt ⟨fm.toArray⟩) (k2 := .tup p2) (xs := fm.map fun c => V.str ⟨#[c]⟩) (ys := vs) (by rw [List.length_map]; exact hvl.symm)
      (fun i G => Fx TB [] Ha G ∧ G D = some (.lst ((List.replicate i true).map V.bl))) ⟨Fx.new hD, upd_same⟩ (fun i G _ => by show _ = _; simp) (fun i G g => g.1.tup hvs2) ?_ ?_⟩
    · rintro i x y t G hx hy ⟨g1, g2⟩ ht
      obtain ⟨n, hn, rfl⟩ : ∃ n, fm[i]? = some n ∧ x = V.str ⟨#[n]⟩ := by
        rw [List.getElem?_map] at hx
        cases q : fm[i]? with
        | none => rw [q] at hx; cases hx
        | some n => rw [q] at hx; exact ⟨n, rfl, (Option.some.inj hx).symm⟩
      obtain ⟨pp, hpp, hip⟩ := paired_get hps2 hy
      obtain ⟨pp', hpp', hkk⟩ := paired_get hks hn
      rw [hpp] at hpp'
      cases hpp'
      have x3 := Fx.new (T := TB) (S := []) (o := .tup [V.str ⟨#[n]⟩, y]) ht
      have hil : i < fm.length := (List.getElem?_eq_some_iff.mp hn).1
      have hG := (x3.lst g2 (by simp))
      refine ⟨t, _, rfl, SqT.of upd_same, rfl, _, _, rfl, _, _, rfl, rfl, rfl, ?_⟩
      refine ⟨_, rfl, _, rfl, n, y, pp, rfl, (hip.fx g1).fx x3, hkk, _, hG, by simp only [List.length_map, List.length_replicate]; exact lt_line (by omega), (g1.trans x3).putN hG hD, ?_⟩
      rw [upd_same, List.replicate_succ']
      simp
    · rintro G ⟨g1, g2⟩
      refine ⟨D, _, rfl, SqL.of g2, ?_⟩
      rw [show (List.replicate (fm.map fun c => V.str ⟨#[c]⟩).length true).all id = true by simp]
      exact k G (e2.trans g1)
end
end K62
set_option Elab.async false
set_option linter.all false
set_option maxRecDepth 100000
set_option maxHeartbeats 2000000
namespace K62
open PySem PySem.Spec PyProof.Rows L2 LamX
abbrev st_Journal___init : Stmt := inClass (top 74) 0
abbrev N_Journal___init : List PySem.Str := ["self", "house", "prices", "judge"]
theorem sc_Journal___init : FnScope N_Journal___init ["self", "house", "prices", "judge"] (defScope st_Journal___init) := ⟨rfl, rfl, rfl, by decide +kernel, rfl, by decide +kernel, by decide +kernel⟩
abbrev st_Journal___len : Stmt := inClass (top 74) 1
abbrev N_Journal___len : List PySem.Str := ["self"]
theorem sc_Journal___len : FnScope N_Journal___len ["self"] (defScope st_Journal___len) := ⟨rfl, rfl, rfl, by decide +kernel, rfl, by decide +kernel, by decide +kernel⟩
abbrev st_Journal_tell : Stmt := inClass (top 74) 3
abbrev N_Journal_tell : List PySem.Str := ["self", "day", "deed"]
theorem sc_Journal_tell : FnScope N_Journal_tell ["self", "day", "deed"] (defScope st_Journal_tell) := ⟨rfl, rfl, rfl, by decide +kernel, rfl, by decide +kernel, by decide +kernel⟩
abbrev st_Journal_by_days : Stmt := inClass (top 74) 4
abbrev N_Journal_by_days : List PySem.Str := ["self", "numbers", "number"]
theorem sc_Journal_by_days : FnScope N_Journal_by_days ["self"] (defScope st_Journal_by_days) := ⟨rfl, rfl, rfl, by decide +kernel, rfl, by decide +kernel, by decide +kernel⟩
def jf (h p : V) (le : Addr) : List (Str × V) := putF "entries" (.ref le) (putF "judge_kept" .non (putF "prices_kept" p (putF "house_kept" h [])))
theorem n1 : ¬ (("house_kept" : Str) = "entries") := by decide +kernel
theorem n2 : ¬ (("house_kept" : Str) = "judge_kept") := by decide +kernel
theorem n3 : ¬ (("house_kept" : Str) = "prices_kept") := by decide +kernel
theorem n4 : ¬ (("prices_kept" : Str) = "entries") := by decide +kernel
theorem n5 : ¬ (("prices_kept" : Str) = "judge_kept") := by decide +kernel
theorem jf_e (h p : V) (le : Addr) : (jf h p le).lookup ("entries" : Str) = some (.ref le) := by unfold jf; rw [lookup_putF, if_pos rfl]
theorem jf_h (h p : V) (le : Addr) : (jf h p le).lookup ("house_kept" : Str) = some h := by unfold jf; rw [lookup_putF, if_neg n1, lookup_putF, if_neg n2, lookup_putF, if_neg n3, lookup_putF, if_pos rfl]
theorem jf_p (h p : V) (le : Addr) : (jf h p le).lookup ("prices_kept" : Str) = some p := by unfold jf; rw [lookup_putF, if_neg n4, lookup_putF, if_neg n5, lookup_putF, if_pos rfl]
theorem jf_no (h p : V) (le : Addr) {m : Str} (h1 : ¬ m = "entries") (h2 : ¬ m = "judge_kept") (h3 : ¬ m = "prices_kept") (h4 : ¬ m = "house_kept") : (jf h p le).lookup m = none := by
  unfold jf; rw [lookup_putF, if_neg h1, lookup_putF, if_neg h2, lookup_putF, if_neg h3, lookup_putF, if_neg h4]; rfl
structure ClJ (K : PySem.W.Frag) (CJ : Addr) : Prop where
  cl : Cls K CJ
  nH : NoAttr K CJ "house_kept"
  nP : NoAttr K CJ "prices_kept"
  nJ : NoAttr K CJ "judge_kept"
  nE : NoAttr K CJ "entries"
def TBq (PB : Addr) : List (Addr × Str) := [(PB, (("Journal.by_days" : Str) ++ ".<locals>.") ++ "<lambda>")]
theorem okC {P : Program} {w : World} {K : PySem.W.Frag} {mg : Str → Option Value} {base : Heap} {x qual : Str} {params : Arguments} {body : List Stmt} {scope : Scope} {dvs : List V} {kws : List (Str × V)} {f : Addr} {fd : FuncData} {CX : CXT} {N ps : List Str} {k : Nat} {sp : Sp}
    (F : FunD K x qual params body scope dvs kws f fd) (S : FnScope N ps scope) (len : ∀ vs H Q E, sp vs H Q E → vs.length = ps.length)
    (hbody : ∀ (cdv : Value) (A : Around) (outer : List Env) (s : Shared) (H : Hp) (vs : List V) (Q : VK) (E : XK), fd.code = cdv → Room k (A.deeper (envOfC qual scope s.heap.objs.size f cdv)) → sp vs H Q E →
      ∃ t, PSs (cxOf CX P w K mg base N qual scope f cdv A outer s H E) body t ∧ t { nx := fun _ H' => Q .non H', rt := Q } (L2.start N vs) H) : FnOk P w K mg base CX (k + 1) f fd ps sp := by
  obtain ⟨oc, od, dV, kV, doc, pm, an, cdv, ct, osl, rfl, lk, hcd, _, _⟩ := F.ex
  exact fn_of lk hcd S len fun A outer s H vs Q E hr hsp => hbody cdv A outer s H vs Q E rfl hr hsp
section
variable {P : Program} {w : World} {K : PySem.W.Frag} {mg : Str → Option Value} {base : Heap} {TB : List (Addr × Str)}
def spJInit (CJ : Addr) : Sp := fun vs H Q _ => ∃ (x dx : Addr) (h p : V), vs = [.ref x, h, p, .non] ∧ H x = some (.ins CJ dx []) ∧ ∀ le H', H le = none → H' x = some (.ins CJ dx (jf h p le)) → H' le = some (.lst []) → (∀ b o, H b = some o → b ≠ x → H' b = some o) → Q .non H'
theorem ok_jinit {f CJ : Addr} {fd : FuncData} (F : FnP K "__init__" "Journal.__init__" st_Journal___init [.non] f fd) (T : ClJ K CJ) : FnOk P w K mg base CX0 1 f fd ["self", "house", "prices", "judge"] (spJInit CJ) := by
  refine F.ok sc_Journal___init (fun vs H Q E h => ?_) (fun cdv A outer s H vs Q E hr h => ?_)
  · obtain ⟨x, dx, h, p, rfl, _⟩ := h
    rfl
  · obtain ⟨x, dx, h, p, rfl, hx, k⟩ := h
    refine ⟨_, (PSs.nox (pss_cons (Kx.psfld (K := K) (pv 0) (pv 1) rfl)
  (pss_cons (Kx.psfld (K := K) (pv 0) (pv 2) rfl)
  (pss_cons (Kx.psfld (K := K) (pv 0) (pv 3) rfl)
  (pss_one (Kx.psfld (K := K) (pv 0) (pe_lst pa_nil) rfl)))))), ?_⟩
    have l1 := length_putF "house_kept" h []
    have l2 := length_putF "prices_kept" p (putF "house_kept" h [])
    have l3 := length_putF "judge_kept" V.non (putF "prices_kept" p (putF "house_kept" h []))
    simp only [List.length_nil] at l1
    refine ⟨_, rfl, _, rfl, x, CJ, dx, _, rfl, hx, T.cl, T.nH, by show 0 < 1000; decide, _, rfl, _, rfl, x, CJ, dx, _, rfl, upd_same, T.cl, T.nP, by omega, _, rfl, _, rfl, x, CJ, dx, _, rfl, upd_same, T.cl, T.nJ, by omega, ?_⟩
    refine ⟨Nat.zero_le _, fun l hl => ?_⟩
    have nxl : x ≠ l := fun z => by rw [← z, upd_same] at hl; cases hl
    refine ⟨_, rfl, x, CJ, dx, _, rfl, (by rw [upd_ne nxl]; exact upd_same), T.cl, T.nE, by omega, ?_⟩
    have hl0 : H l = none := by rw [upd_ne nxl.symm, upd_ne nxl.symm, upd_ne nxl.symm] at hl; exact hl
    refine k l _ hl0 upd_same (by rw [upd_ne nxl.symm, upd_same]) fun b o e hb => ?_
    rw [upd_ne hb, upd_ne (ne_of_none e hl0), upd_ne hb, upd_ne hb, upd_ne hb]
    exact e
def spJLen (CJ : Addr) : Sp := fun vs H Q _ => ∃ (j dx le : Addr) (h p : V) (xs : List V), vs = [.ref j] ∧ H j = some (.ins CJ dx (jf h p le)) ∧ H le = some (.lst xs) ∧ Q (.int xs.length) H
theorem ok_jlen {f CJ : Addr} {fd : FuncData} (F : FnP K "__len__" "Journal.__len__" st_Journal___len [] f fd) (T : Nm mg) (TJ : ClJ K CJ) : FnOk P w K mg base CX0 1 f fd ["self"] (spJLen CJ) := by
  refine F.ok sc_Journal___len (fun vs H Q E h => ?_) (fun cdv A outer s H vs Q E hr h => ?_)
  · obtain ⟨j, dx, le, h, p, xs, rfl, _⟩ := h
    rfl
  · obtain ⟨j, dx, le, h, p, xs, rfl, hj, hle, k⟩ := h
    refine ⟨_, (PSs.nox (pss_one (ps_ret (pe_callB (id := "len") (Kx.len (K := K)) (by rfl) T.n_len (by decide +kernel) (pa_cons (Kx.fld (K := K) (pv 0) rfl) pa_nil))))), ?_⟩
    exact ⟨_, rfl, j, CJ, dx, _, _, rfl, hj, TJ.cl, TJ.nE, jf_e _ _ _, _, _, rfl, .inl ⟨_, SqL.of hle, rfl⟩, k⟩
def spTell (TB : List (Addr × Str)) (CJ CT : Addr) (K : PySem.W.Frag) : Sp := fun vs H Q _ => ∃ (j dx le q : Addr) (h p : V) (xs : List V) (day : Int) (d : Deed), vs = [.ref j, .int day, .ref q] ∧ H j = some (.ins CJ dx (jf h p le)) ∧ H le = some (.lst xs) ∧ xs.length ≤ 100 ∧ 0 ≤ day ∧ IsDeed CT K H q d ∧ DeedOk d ∧
  ∀ (r : Int) (t : Addr) H', Fx TB [le] H H' → H' le = some (.lst (xs ++ [.ref t])) → SqT K H' t [.int day, .ref q] → Q (.int r) H'
theorem ok_tell {f fW fI CJ CT : Addr} {fd fdW fdI : FuncData} (F : FnP K "tell" "Journal.tell" st_Journal_tell [] f fd) (T : Nm mg) (TJ : ClJ K CJ) (C_is_whole_journals : Cal P w K mg base 1 "is_whole_journals" fW fdW ["thing"] spWhole) (C_is_deed : Cal P w K mg base 3 "is_deed" fI fdI ["thing"] (spIsDeed TB CT K)) :
    FnOk P w K mg base CX0 4 f fd ["self", "day", "deed"] (spTell TB CJ CT K) := by
  refine F.ok sc_Journal_tell (fun vs H Q E h => ?_) (fun cdv A outer s H vs Q E hr h => ?_)
  · obtain ⟨j, dx, le, q, h, p, xs, day, d, rfl, _⟩ := h
    rfl
  · obtain ⟨j, dx, le, q, h, p, xs, day, d, rfl, hj, hle, hxl, hday, hq, hd, k⟩ := h
    refine ⟨_, (PSs.nox (pss_cons (ps_if (PW.pt (pw_or (pt_not (pt_val (pe_call C_is_whole_journals.G (hr.mono (by decide)) rfl C_is_whole_journals.g C_is_whole_journals.kp C_is_whole_journals.b .nil pass0 (pa_cons (pv 1) pa_nil)))) (pw_or1 (pt_cmpR op_lt (pv 1) pe_int (nomark _)))))
  (pss_one ps_never)
  pss_nil)
  (pss_cons (ps_if (pt_not (pt_val (pe_call C_is_deed.G (hr.mono (by decide)) rfl C_is_deed.g C_is_deed.kp C_is_deed.b .nil pass0 (pa_cons (pv 2) pa_nil))))
  (pss_one ps_never)
  pss_nil)
  (pss_cons (ps_expr (Kx.bm (K := K) PySem.F.plainAttrs_list PySem.F.slot_list_append PySem.F.type_list_append mt_append (Kx.fld (K := K) (pv 0) rfl) (pa_cons (pe_tup (pa_cons (pv 1) (pa_cons (pv 2) pa_nil))) pa_nil)))
  (pss_one (ps_ret (pe_op op_sub (pe_callB (id := "len") (Kx.len (K := K)) (by rfl) T.n_len (by decide +kernel) (pa_cons (Kx.fld (K := K) (pv 0) rfl) pa_nil)) pe_int))))))), ?_⟩
    refine ⟨_, rfl, .inl ⟨day, rfl, _, rfl, _, rfl, _, _, rfl, rfl, _, rfl, ?_⟩⟩
    rw [decide_eq_false (by omega : ¬ day < 0)]
    refine ⟨_, rfl, q, d, rfl, hq, hd, fun H1 e1 => ⟨_, rfl, ?_⟩⟩
    have hj1 := e1.ins hj
    have hle1 := e1.lst hle (by simp)
    refine ⟨_, rfl, j, CJ, dx, _, _, rfl, hj1, TJ.cl, TJ.nE, jf_e _ _ _, .inl ⟨rfl, _, SqL.of hle1⟩, _, rfl, _, rfl, by show 2 ≤ sizeLine; decide, fun t ht => ?_⟩
    have x2 := Fx.new (T := TB) (S := []) (o := .tup [V.int day, .ref q]) ht
    have hle2 := x2.lst hle1 (by simp)
    have x3 := Fx.put (T := TB) (S := [le]) (o := .lst (xs ++ [V.ref t])) hle2 (by simp)
    refine ⟨le, xs, _, rfl, rfl, hle2, lt_line (by omega), ?_⟩
    refine ⟨_, rfl, j, CJ, dx, _, _, rfl, x3.ins (x2.ins hj1), TJ.cl, TJ.nE, jf_e _ _ _, _, _, rfl, .inl ⟨_, SqL.of upd_same, rfl⟩, _, _, rfl, rfl, ?_⟩
    exact k _ t _ (((e1.trans x2).sub (by simp)).trans x3) upd_same (x3.tup (SqT.of upd_same))
/-- what by_days tells of one entry -/
def IsRow (CT : Addr) (K : PySem.W.Frag) (H : Hp) (es : List Ent) (v : V) (r : Int × Int) : Prop := ∃ p q e, v = .ref p ∧ es[r.2.toNat]? = some e ∧ SqT K H p [.int e.1, .int r.2, .ref q] ∧ IsDeed CT K H q e.2
theorem IsRow.fx {T : List (Addr × Str)} {S : List Addr} {CT : Addr} {H H1 : Hp} {es : List Ent} {v : V} {r : Int × Int} (e : Fx T S H H1) (x : IsRow CT K H es v r) : IsRow CT K H1 es v r := by
  obtain ⟨p, q, en, h1, h2, h3, h4⟩ := x
  exact ⟨p, q, en, h1, h2, e.tup h3, h4.fx e⟩
def nums (n : Nat) : List Int := (List.range n).map fun i : Nat => (i : Int)
theorem rgV_nums (n : Nat) : rgV 0 (n : Int) = (nums n).map V.int := by
  unfold rgV nums
  rw [List.map_map, show ((n : Int) - 0).toNat = n by omega]
  refine List.map_congr_left fun i _ => ?_
  show V.int (0 + (i : Int)) = V.int (i : Int)
  rw [Int.zero_add]
theorem nums_get {n i : Nat} {m : Int} (h : (nums n)[i]? = some m) : m = i ∧ i < n := by
  unfold nums at h
  rw [List.getElem?_map] at h
  by_cases hi : i < n
  · rw [List.getElem?_range hi] at h
    exact ⟨(Option.some.inj h).symm, hi⟩
  · rw [List.getElem?_eq_none (by simp; omega)] at h
    cases h
theorem nums_len (n : Nat) : (nums n).length = n := by simp [nums]
theorem zip_nums {es : List Ent} {r : Int × Int} (h : r ∈ (es.map (·.1)).zip (nums es.length)) : ∃ (i : Nat) (e : Ent), r = (e.1, (i : Int)) ∧ es[i]? = some e := by
  obtain ⟨i, hi⟩ := List.mem_iff_getElem?.mp h
  rw [List.getElem?_zip_eq_some] at hi
  obtain ⟨h1, h2⟩ := hi
  obtain ⟨h3, h4⟩ := nums_get h2
  rw [List.getElem?_map] at h1
  cases q : es[i]? with
  | none => rw [q] at h1; cases h1
  | some e =>
    rw [q] at h1
    refine ⟨i, e, ?_, q⟩
    rw [← h3, show e.1 = r.1 from Option.some.inj h1]
def spBy (PB CJ CT : Addr) (K : PySem.W.Frag) : Sp := fun vs H Q _ => ∃ (j dx le : Addr) (h p : V) (xs : List V) (es : List Ent), vs = [.ref j] ∧ H j = some (.ins CJ dx (jf h p le)) ∧ H le = some (.lst xs) ∧ Paired (IsEnt CT K H) xs es ∧ es.length ≤ 100 ∧ Tabs (TBq PB) H ∧
  ∀ (t : Addr) (vs' : List V) (ps : List (Int × Int)) H', Fx (TBq PB) [] H H' → SqT K H' t vs' → Paired (IsRow CT K H' es) vs' ps → LmS.StbBy (es.map (·.1)) (nums es.length) ps → Q (.ref t) H'
theorem ok_by {f CJ CT PB cB : Addr} {fd : FuncData} (F : FnP K "by_days" "Journal.by_days" st_Journal_by_days [] f fd) (T : Nm mg) (TJ : ClJ K CJ) (hfd : fd.code = .ref cB) (hTB : TabB base mg cB PB) :
    FnOk P w K mg base CX0 3 f fd ["self"] (spBy PB CJ CT K) := by
  refine okC F sc_Journal_by_days (fun vs H Q E h => ?_) (fun cdv A outer s H vs Q E hcd hr h => ?_)
  · obtain ⟨j, dx, le, h, p, xs, es, rfl, _⟩ := h
    rfl
  · obtain ⟨j, dx, le, h, p, xs, es, rfl, hj, hle, hps, hel, hT, k⟩ := h
    have hcode : cdv = .ref cB := hcd.symm.trans hfd
    refine ⟨_, (PSs.nox (pss_cons (ps_set (i := 1) sc_Journal_by_days.nd rfl (Or.inl rfl) (LmS.pe_sortKey (T := TBq PB) (c := cB) (P := PB) (i := 0) (par := "number") (cap := "self") (F := "entries") (k := 0) rfl T.n_sorted (pe_listRg rfl rfl T.n_list (prg_1 rfl T.n_range (pe_callB (id := "len") (Kx.len (K := K)) (by rfl) T.n_len (by decide +kernel) (pa_cons (Kx.fld (K := K) (pv 0) rfl) pa_nil)))) hTB hcode (List.mem_singleton.mpr rfl) (fun p hp _ => by rw [List.mem_singleton.mp hp]; rfl) (hr.mono (by decide)) (LmS.lam1_by (sc := defScope st_Journal_by_days) (by decide +kernel)) rfl (fun _ _ _ _ _ _ => rfl) rfl))
  (pss_one (ps_ret (pe_callTy (Kx.tuple_of (K := K)) (by rfl) T.n_tuple (by decide +kernel) (pa_cons (pe_lc (own := [("number", 2)]) rfl sc_Journal_by_days.nd (Kx.pi_list (K := K) (pv 1)) (blkOk_by (N := N_Journal_by_days) (sc := defScope st_Journal_by_days) (own := [("number", 2)]) (by decide +kernel)) (fun _ _ _ _ _ => (pg_name (i := 2) sc_Journal_by_days.nd rfl (Or.inl rfl))) (fun _ _ _ _ _ => pts_nil) (fun _ _ _ _ _ => (pe_tup (pa_cons (pe_ix (Kx.ix_tup (K := K)) (pe_ix (Kx.ix_list (K := K)) (Kx.fld (K := K) (pv 0) rfl) (pv 2) (fun _ _ => rfl)) pe_int (fun _ _ => rfl)) (pa_cons (pv 2) (pa_cons (pe_ix (Kx.ix_tup (K := K)) (pe_ix (Kx.ix_list (K := K)) (Kx.fld (K := K) (pv 0) rfl) (pv 2) (fun _ _ => rfl)) pe_int (fun _ _ => rfl)) pa_nil)))))) pa_nil)))))), ?_⟩
    have hxe := paired_len hps
    refine ⟨_, rfl, j, CJ, dx, _, _, rfl, hj, TJ.cl, TJ.nE, jf_e _ _ _, _, _, rfl, .inl ⟨xs, SqL.of hle, rfl⟩, _, rfl, RgOk.of_le (by omega) (by omega) (by omega) (by omega), fun l0 hl0 => ?_⟩
    have x1 := Fx.new (T := TBq PB) (S := []) (o := .lst (rgV 0 ((xs.length : Nat) : Int))) hl0
    have hj1 := x1.ins hj
    have hle1 := x1.lst hle (by simp)
    have hps1 := ents_fx x1 hps
    refine ⟨l0, nums es.length, es.map (·.1), j, CJ, dx, _, le, xs, rfl, SqL.of (by rw [upd_same, rgV_nums, hxe]), rfl, hj1, TJ.cl, TJ.nE, jf_e _ _ _, SqL.of hle1, by rw [nums_len, List.length_map], fun i n kk hn hk => ?_, x1.tabs hT, fun H2 D ps eN T2 hD hst => ?_⟩
    · obtain ⟨rfl, hi⟩ := nums_get hn
      rw [List.getElem?_map] at hk
      cases q : es[i]? with
      | none => rw [q] at hk; cases hk
      | some e =>
        rw [q] at hk
        obtain ⟨v, hv, t, qq, rfl, ht, _⟩ := paired_get' hps1 q
        refine ⟨by omega, t, [.ref qq], hv, ?_⟩
        rw [← show e.1 = kk from Option.some.inj hk]
        exact ht
    · have x2 : Fx (TBq PB) [] H (upd H2 D (.lst (ps.map fun p => V.int p.2))) := (x1.trans (Fx.of_ext eN fun _ => T2)).newA hD
      have hDs : upd H2 D (.lst (ps.map fun p => V.int p.2)) D = some (.lst (ps.map fun p => V.int p.2)) := upd_same
      generalize upd H2 D (.lst (ps.map fun p => V.int p.2)) = Hs at x2 hDs ⊢
      have hj2 := x2.ins hj
      have hle2 := x2.lst hle (by simp)
      have hps2 := ents_fx x2 hps
      have hpl : ps.length ≤ 100 := by
        have := hst.1.length_eq
        rw [List.length_zip, nums_len, List.length_map] at this
        omega
      refine ⟨_, rfl, D, rfl, ⟨_, SqL.of hDs⟩, fun M hM => lc_list (K := K) (a := D) (xs := ps.map fun p => V.int p.2) (fun i G => ∃ vs', Fx (TBq PB) [] Hs G ∧ G M = some (.lst vs') ∧ Paired (IsRow CT K G es) vs' (ps.take i)) ⟨[], Fx.new hM, upd_same, by rw [List.take_zero]; exact .nil⟩
        (fun i G _ ⟨_, g, _⟩ => SqL.of (g.lst hDs (by simp))) ?_ ?_⟩
      · rintro i x G hx ⟨vs', g, hG, hp'⟩
        obtain ⟨r, hr', rfl⟩ : ∃ r, ps[i]? = some r ∧ x = V.int r.2 := by
          rw [List.getElem?_map] at hx
          cases q : ps[i]? with
          | none => rw [q] at hx; cases hx
          | some r => rw [q] at hx; exact ⟨r, rfl, (Option.some.inj hx).symm⟩
        obtain ⟨m, e, rfl, he⟩ := zip_nums (hst.1.mem_iff.mp (List.mem_of_getElem? hr'))
        obtain ⟨v, hv, t, qq, rfl, ht, hqq⟩ := paired_get' (ents_fx g hps2) he
        have hj3 := g.ins hj2
        have hle3 := g.lst hle2 (by simp)
        refine ⟨rfl, _, rfl, j, CJ, dx, _, _, rfl, hj3, TJ.cl, TJ.nE, jf_e _ _ _, _, rfl, le, _, _, _, rfl, rfl, SqL.of hle3, atI_nat hv, t, _, 0, _, rfl, rfl, ht, atI_nat (j := 0) rfl, _, rfl, _, rfl, j, CJ, dx, _, _, rfl, hj3, TJ.cl, TJ.nE, jf_e _ _ _, _, rfl, le, _, _, _, rfl, rfl, SqL.of hle3, atI_nat hv, t, _, 1, _, rfl, rfl, ht, atI_nat (j := 1) rfl, by show 3 ≤ sizeLine; decide, fun p' hp2 => ?_⟩
        have x3 := Fx.new (T := TBq PB) (S := []) (o := .tup [V.int e.1, .int (m : Int), .ref qq]) hp2
        have hG3 := x3.lst hG (by simp)
        have hvl := paired_len hp'
        have x4 := Fx.put (T := TBq PB) (S := [M]) (o := .lst (vs' ++ [V.ref p'])) hG3 (by simp)
        have hil : i < ps.length := (List.getElem?_eq_some_iff.mp hr').1
        refine ⟨_, hG3, lt_line (by rw [hvl, List.length_take]; omega), vs' ++ [.ref p'], (g.trans x3).putN hG3 hM, upd_same, ?_⟩
        rw [List.take_add_one, hr']
        refine Paired.snoc (Paired.mapP hp' fun _ _ y => (y.fx x3).fx x4) ⟨p', qq, e, rfl, he, x4.tup (SqT.of upd_same), (hqq.fx x3).fx x4⟩
      · rintro G ⟨vs', g, hG, hp'⟩
        rw [List.length_map, List.take_length] at hp'
        refine ⟨M, _, rfl, .inl ⟨SqL.of hG, fun t ht => ?_⟩⟩
        have x5 := Fx.new (T := TBq PB) (S := []) (o := .tup vs') ht
        exact k t vs' ps _ ((x2.trans g).trans x5) (SqT.of upd_same) (Paired.mapP hp' fun _ _ y => y.fx x5) hst
end
end K62
set_option Elab.async false
set_option linter.all false
set_option maxRecDepth 100000
set_option maxHeartbeats 2000000
namespace K62
open PySem PySem.Spec PyProof.Rows L2 LamX
abbrev st_written : Stmt := top 76
abbrev N_written : List PySem.Str := ["thing"]
theorem sc_written : FnScope N_written ["thing"] (defScope st_written) := ⟨rfl, rfl, rfl, by decide +kernel, rfl, by decide +kernel, by decide +kernel⟩
abbrev st_show_hand : Stmt := top 77
abbrev N_show_hand : List PySem.Str := ["letter", "crafts", "deed"]
theorem sc_show_hand : FnScope N_show_hand ["letter", "crafts"] (defScope st_show_hand) := ⟨rfl, rfl, rfl, by decide +kernel, rfl, by decide +kernel, by decide +kernel⟩
abbrev st_show_journal : Stmt := top 78
abbrev N_show_journal : List PySem.Str := ["journal", "rows", "letter", "crafts", "price", "day", "number", "deed", "thing"]
theorem sc_show_journal : FnScope N_show_journal ["journal"] (defScope st_show_journal) := ⟨rfl, rfl, rfl, by decide +kernel, rfl, by decide +kernel, by decide +kernel⟩
/-! ### the text, plain -/
def shown : Part → Str
  | .txt s => s
  | .tal b z => talS b z
  | .num n => (toString n : Str)
  | .non => "all"
  | .yes b => if b then "yes" else "no"
def rowS (e : Ent) : Str := Txt.join " " ((toString e.1 : Str) :: e.2.name :: e.2.parts.map shown)
def handS (h : Str × List Int) : Str := h.1 ++ ":" ++ Txt.join "" (h.2.map fun m => (toString m : Str))
def headS (hs : List (Str × List Int)) : Str := Txt.join " " ("house" :: hs.map handS)
def pricesS (ps : List Int) : Str := Txt.join " " ("prices" :: ps.map moneyS)
def textS (hs : List (Str × List Int)) (ps : List Int) (rs : List Ent) : Str := Txt.join "\n" (headS hs :: pricesS ps :: rs.map rowS)
theorem toB_len {n : Int} (h : n.natAbs.log2 < 1900) : (toString n : Str).length ≤ 2000 := by
  have h1 := int_text_length_le (k := 1900) (by decide) h
  have h2 : (Str.ofString (toString n)).length = (toString n).length := by
    rw [PySem.ofString_length]
  show (Str.ofString (toString n)).length ≤ 2000
  rw [h2]; omega
theorem talS_len {b z : Int} (h0 : 0 ≤ b) (h1 : b ≤ 1000000) (h2 : z = 12 ∨ z = 14) : (talS b z).length ≤ 1000100 := by
  have l1 := toS_len (n := z) (by omega) (by omega)
  have l2 := figs_len z.toNat b.toNat
  have s1 : (Str.ofString ":").length = 1 := rfl
  unfold talS
  simp only [app_le]
  omega
section
variable {P : Program} {w : World} {K : PySem.W.Frag} {mg : Str → Option Value} {base : Heap} {TB : List (Addr × Str)}
/-- str(x), x a text or a number -/
def rStrSI : List V → Hp → VK → Prop := fun xs H Q => (∃ a, xs = [.str a] ∧ Q (.str a) H) ∨ ∃ i, xs = [.int i] ∧ i.natAbs.log2 < 1920 ∧ Q (.str (toString i)) H
theorem cr_strSI {X : Cx} : CallR X (.type "str") rStrSI := by
  intro pins s σ H xs us Q I r h
  rcases h with h | h
  · exact SkE.call_str_str pins s σ H xs us Q I r h
  · exact call_str_int pins s σ H xs us Q I r h
def spWritten (TB : List (Addr × Str)) (CT : Addr) : Sp := fun vs H Q _ => ∃ v p, vs = [v] ∧ IsPart CT H v p ∧ PartOk p ∧ ∀ H', Fx TB [] H H' → Q (.str (shown p)) H'
theorem ok_written {f fS CT : Addr} {fd fdS : FuncData} (F : FnP K "written" "written" st_written [] f fd) (T : Gt K mg CT) (TT : ClTs K CT) (C_show_tally : Cal P w K mg base 2 "show_tally" fS fdS ["tally"] (spShT TB CT)) :
    FnOk P w K mg base CX0 3 f fd ["thing"] (spWritten TB CT) := by
  refine F.ok sc_written (fun vs H Q E h => ?_) (fun cdv A outer s H vs Q E hr h => ?_)
  · obtain ⟨v, p, rfl, _⟩ := h
    rfl
  · obtain ⟨v, p, rfl, hp, hok, k⟩ := h
    refine ⟨_, (PSs.nox (pss_cons (ps_if (pt_cmpR op_isN (pv 0) pe_non (nomark _))
  (pss_one (ps_ret pe_str))
  pss_nil)
  (pss_cons (ps_if (pt_val (pe_callB (id := "isinstance") (Kx.isi (K := K)) (by rfl) T.n_isinstance (by decide +kernel) (pa_cons (pv 0) (pa_cons (pe_glob (v := .ref _) rfl T.g_Tally rfl) pa_nil))))
  (pss_one (ps_ret (pe_call C_show_tally.G (hr.mono (by decide)) rfl C_show_tally.g C_show_tally.kp C_show_tally.b .nil pass0 (pa_cons (pv 0) pa_nil))))
  pss_nil)
  (pss_cons (ps_if (pt_val (pe_callB (id := "isinstance") (Kx.isi (K := K)) (by rfl) T.n_isinstance (by decide +kernel) (pa_cons (pv 0) (pa_cons (pe_bltn (v := .ty "bool") (u := .type "bool") rfl T.n_bool (by decide +kernel) rfl) pa_nil))))
  (pss_one (ps_ret (LmO.pe_yesno (i := 0) rfl (Or.inl rfl))))
  pss_nil)
  (pss_one (ps_ret (pe_callTy cr_strSI (by rfl) T.n_str (by decide +kernel) (pa_cons (pv 0) pa_nil)))))))), ?_⟩
    have k0 := k H (Fx.refl H)
    cases p with
    | txt z =>
      obtain rfl : v = .str z := hp
      refine ⟨_, rfl, rfl, _, rfl, ?_⟩
      rw [decide_eq_false (show ¬ (V.str z = V.non) from fun z => by cases z)]
      exact ⟨_, rfl, _, _, _, _, false, rfl, .own CT, .base (.str z), TT.ks, _, rfl, _, rfl, _, _, _, _, false, rfl, .ty "bool", .base (.str z), kit_ty (by decide +kernel), _, rfl, _, rfl, .inl ⟨z, rfl, k0⟩⟩
    | tal b z =>
      obtain ⟨a, dx, rfl, ha⟩ := hp
      refine ⟨_, rfl, rfl, _, rfl, ?_⟩
      rw [decide_eq_false (show ¬ (V.ref a = V.non) from fun z => by cases z)]
      exact ⟨_, rfl, _, _, _, _, true, rfl, .own CT, tyT TT ha, TT.kt, _, rfl, _, rfl, a, dx, b, z, rfl, ha, hok, k⟩
    | num n =>
      obtain rfl : v = .int n := hp
      refine ⟨_, rfl, rfl, _, rfl, ?_⟩
      rw [decide_eq_false (show ¬ (V.int n = V.non) from fun z => by cases z)]
      exact ⟨_, rfl, _, _, _, _, false, rfl, .own CT, .base (.int n), TT.ki, _, rfl, _, rfl, _, _, _, _, false, rfl, .ty "bool", .base (.int n), kit_ty (by decide +kernel), _, rfl, _, rfl, .inr ⟨n, rfl, Nat.lt_trans hok (by decide), k0⟩⟩
    | non =>
      obtain rfl : v = .non := hp
      refine ⟨_, rfl, rfl, _, rfl, ?_⟩
      rw [decide_eq_true (show V.non = V.non from rfl)]
      exact k0
    | yes b =>
      obtain rfl : v = .bl b := hp
      refine ⟨_, rfl, rfl, _, rfl, ?_⟩
      rw [decide_eq_false (show ¬ (V.bl b = V.non) from fun z => by cases z)]
      refine ⟨_, rfl, _, _, _, _, false, rfl, .own CT, .base (.bl b), TT.kbl, _, rfl, _, rfl, _, _, _, _, true, rfl, .ty "bool", .base (.bl b), kit_ty (by decide +kernel), _, rfl, b, rfl, ?_⟩
      cases b <;> exact k0
def spHand (TB : List (Addr × Str)) (K : PySem.W.Frag) : Sp := fun vs H Q _ => ∃ l c ms, vs = [.str l, .ref c] ∧ SqT K H c (ms.map V.int) ∧ HandOk (l, ms) ∧ ∀ H', Fx TB [] H H' → Q (.str (handS (l, ms))) H'
theorem small_log {m : Int} (h0 : 0 ≤ m) (h1 : m ≤ 3) : m.natAbs.log2 < 1920 := log_lt h0 (by omega)
theorem ok_hand {f : Addr} {fd : FuncData} (F : FnP K "show_hand" "show_hand" st_show_hand [] f fd) (T : Nm mg) : FnOk P w K mg base CX0 1 f fd ["letter", "crafts"] (spHand TB K) := by
  refine F.ok sc_show_hand (fun vs H Q E h => ?_) (fun cdv A outer s H vs Q E hr h => ?_)
  · obtain ⟨l, c, ms, rfl, _⟩ := h
    rfl
  · obtain ⟨l, c, ms, rfl, hc, ⟨hl, hml, hmb⟩, k⟩ := h
    refine ⟨_, (PSs.nox (pss_one (ps_ret (pe_op op_add_str (pe_op op_add_str (pv 0) pe_str) (Kx.join (K := K) pe_str (pe_lc (own := [("deed", 2)]) rfl sc_show_hand.nd (Kx.pi_tup (K := K) (pv 1)) (blkOk_by (N := N_show_hand) (sc := defScope st_show_hand) (own := [("deed", 2)]) (by decide +kernel)) (fun _ _ _ _ _ => (pg_name (i := 2) sc_show_hand.nd rfl (Or.inl rfl))) (fun _ _ _ _ _ => pts_nil) (fun _ _ _ _ _ => (pe_callTy (call_str_int) (by rfl) T.n_str (by decide +kernel) (pa_cons (pv 2) pa_nil))))))))), ?_⟩
    have s1 : (Str.ofString ":").length = 1 := rfl
    have s0 : (Str.ofString "").length = 0 := rfl
    refine ⟨_, rfl, _, _, rfl, rfl, ty_line (by rw [s1]; show l.length + 1 ≤ _; have : l.length ≤ 1 := hl; omega), ⟨_, rfl⟩, _, rfl, c, rfl, ⟨_, hc⟩, fun M hM => lc_tup (K := K) (a := c) (xs := ms.map V.int) (fun i G => Fx TB [] H G ∧ G M = some (.lst (((ms.take i).map fun m => (toString m : Str)).map V.str))) ⟨Fx.new hM, by rw [upd_same]; simp⟩
      (fun i G _ g => g.1.tup hc) ?_ ?_⟩
    · rintro i x G hx ⟨g, hG⟩
      obtain ⟨m, hm, rfl⟩ := get_int hx
      obtain ⟨m0, m1⟩ := hmb m (List.mem_of_getElem? hm)
      refine ⟨rfl, _, rfl, m, rfl, small_log m0 m1, _, hG, ?_, g.putN hG hM, ?_⟩
      · simp only [List.length_map, List.length_take]
        have : ms.length ≤ 4 := hml
        exact lt_line (by omega)
      · rw [upd_same, List.take_add_one, hm]; simp
    · rintro G ⟨g, hG⟩
      rw [List.length_map, List.take_length] at hG
      have hb : ∀ t ∈ ms.map fun m => (toString m : Str), t.length ≤ 20 := by
        intro t ht
        obtain ⟨m, hm, rfl⟩ := List.mem_map.mp ht
        obtain ⟨m0, m1⟩ := hmb m hm
        exact toS_len m0 (by omega)
      have h1 := sum_le hb
      have h2 := join_le (sep := "") hb
      rw [s0] at h2
      have h3 : ms.length ≤ 4 := hml
      have h4 : l.length ≤ 1 := hl
      simp only [List.length_map] at h1 h2
      refine ⟨_, M, _, rfl, rfl, .inl (SqL.of hG), by rw [s0, List.length_map]; omega, _, _, rfl, rfl, ty_line (by rw [app_le, s1]; omega), k G g⟩
end
end K62
set_option Elab.async false
set_option linter.all false
set_option maxRecDepth 100000
set_option maxHeartbeats 4000000
namespace K62
open PySem PySem.Spec PyProof.Rows L2 LamX
/-! ### lengths -/
theorem figs_len2 {b : Nat} (hb : 12 ≤ b) : ∀ (k n : Nat), n < 12 ^ (k + 1) → (figs b n).length ≤ k + 1 := fun k => by
  induction k with
  | zero =>
    intro n h
    rw [figs_lt (by omega), sg_len]
    exact Nat.le_refl 1
  | succ k ih =>
    intro n h
    by_cases hn : n < b
    · rw [figs_lt hn, sg_len]; omega
    · rw [figs_ge (by omega) (by omega), app_le, sg_len]
      have : n / b < 12 ^ (k + 1) := by
        have h1 : n / b ≤ n / 12 := Nat.div_le_div_left hb (by decide)
        have h2 : n / 12 < 12 ^ (k + 1) := Nat.div_lt_of_lt_mul (by rw [Nat.pow_succ] at h; omega)
        omega
      have := ih _ this
      omega
theorem shown_len {p : Part} (h : PartOk p) : (shown p).length ≤ 2000 := by
  cases p with
  | txt s => have : s.length ≤ 16 := h; show s.length ≤ 2000; omega
  | tal b z =>
    obtain ⟨h0, h1, h2⟩ := h
    have l1 := toS_len (n := z) (by omega) (by omega)
    have l2 := figs_len2 (b := z.toNat) (by omega) 5 b.toNat (by omega)
    have s1 : (Str.ofString ":").length = 1 := rfl
    show (talS b z).length ≤ 2000
    unfold talS
    simp only [app_le]
    omega
  | num n => exact toB_len h
  | non => show (Str.ofString "all").length ≤ 2000; decide
  | yes b => cases b <;> (show Str.length _ ≤ 2000) <;> decide
theorem name_len {nm : Str} {f : List Nat} (h : (nm, f) ∈ forms) : nm.length ≤ 5 := by
  simp only [forms, List.mem_cons, List.not_mem_nil, or_false, Prod.mk.injEq] at h
  rcases h with ⟨h, _⟩ | ⟨h, _⟩ | ⟨h, _⟩ | ⟨h, _⟩ | ⟨h, _⟩ <;> (rw [h]; decide)
theorem deed_few {d : Deed} (h : DeedOk d) : d.parts.length ≤ 4 := by
  obtain ⟨⟨f, h1, h2⟩, _⟩ := h
  rw [← paired_len h2]; exact forms_len h1
theorem row_bd {e : Ent} (h : EntOk e) : ∀ t ∈ (toString e.1 : Str) :: e.2.name :: e.2.parts.map shown, t.length ≤ 2000 := by
  obtain ⟨h0, h1, hd⟩ := h
  have hd' := hd
  obtain ⟨⟨f, hf, hk⟩, hp⟩ := hd'
  intro t ht
  rcases List.mem_cons.mp ht with rfl | ht
  · have := toS_len (n := e.1) h0 (by omega)
    omega
  · rcases List.mem_cons.mp ht with rfl | ht
    · have := name_len hf
      omega
    · obtain ⟨p, hpm, rfl⟩ := List.mem_map.mp ht
      exact shown_len (hp p hpm)
theorem sp_len : (Str.ofString " ").length = 1 := rfl
theorem row_len {e : Ent} (h : EntOk e) : (rowS e).length ≤ 13000 := by
  have h1 := join_le (sep := " ") (row_bd h)
  have h2 := deed_few h.2.2
  rw [sp_len] at h1
  simp only [List.length_cons, List.length_map] at h1
  unfold rowS
  omega
theorem hand_len {h : Str × List Int} (hh : HandOk h) : (handS h).length ≤ 100 := by
  obtain ⟨h1, h2, h3⟩ := hh
  have hb : ∀ t ∈ h.2.map fun m => (toString m : Str), t.length ≤ 20 := by
    intro t ht
    obtain ⟨m, hm, rfl⟩ := List.mem_map.mp ht
    obtain ⟨m0, m1⟩ := h3 m hm
    exact toS_len m0 (by omega)
  have h4 := join_le (sep := "") hb
  have s0 : (Str.ofString "").length = 0 := rfl
  have s1 : (Str.ofString ":").length = 1 := rfl
  rw [s0] at h4
  simp only [List.length_map] at h4
  unfold handS
  rw [app_le, app_le, s1]
  omega
theorem money_len {p : Int} (h0 : 0 ≤ p) (h1 : p < 10000000000000000) : (moneyS p).length ≤ 100 := by
  have hb : ∀ t ∈ [(toString (p / 240) : Str), (toString (p / 12 % 20) : Str), (toString (p % 12) : Str)], t.length ≤ 20 := by
    intro t ht
    simp only [List.mem_cons, List.not_mem_nil, or_false] at ht
    rcases ht with rfl | rfl | rfl <;> exact toS_len (by omega) (by omega)
  have h4 := join_le (sep := "/") hb
  have s1 : (Str.ofString "/").length = 1 := rfl
  rw [s1] at h4
  unfold moneyS
  simp only [List.length_cons, List.length_nil] at h4
  omega
/-! ### the order of the entries -/
def dEnt : Ent := (0, ⟨Str.empty, []⟩)
def pick (es : List Ent) (r : Int × Int) : Ent := es.getD r.2.toNat dEnt
theorem pick_of {es : List Ent} {r : Int × Int} {e : Ent} (h : es[r.2.toNat]? = some e) : pick es r = e := by
  unfold pick; rw [List.getD_eq_getElem?_getD, h]; rfl
theorem pick_zip (es : List Ent) : ((es.map (·.1)).zip (nums es.length)).map (pick es) = es := by
  refine List.ext_getElem? fun i => ?_
  rw [List.getElem?_map]
  by_cases hi : i < es.length
  · have h1 : ((es.map (·.1)).zip (nums es.length)).length = es.length := by rw [List.length_zip, List.length_map, nums_len]; omega
    have h2 : i < ((es.map (·.1)).zip (nums es.length)).length := by omega
    rw [List.getElem?_eq_getElem h2]
    obtain ⟨j, e, h3, h4⟩ := zip_nums (List.getElem_mem h2)
    have h5 : ((es.map (·.1)).zip (nums es.length))[i]? = some (e.1, (j : Int)) := by rw [List.getElem?_eq_getElem h2, h3]
    rw [List.getElem?_zip_eq_some] at h5
    obtain ⟨h6, _⟩ := nums_get h5.2
    have h7 : j = i := by omega
    subst h7
    show some (pick es _) = _
    rw [h3, pick_of (r := (e.1, (j : Int))) (by simpa using h4), h4]
  · rw [List.getElem?_eq_none (by rw [List.length_zip, List.length_map, nums_len]; omega), List.getElem?_eq_none (by omega)]; rfl
/-- rs: es by days, those of a day as they were -/
def Byd (es rs : List Ent) : Prop := rs.Pairwise (fun a b => a.1 ≤ b.1) ∧ ∀ c, rs.filter (fun e => e.1 == c) = es.filter (fun e => e.1 == c)
theorem pick_fst {es : List Ent} {r : Int × Int} (h : r ∈ (es.map (·.1)).zip (nums es.length)) : (pick es r).1 = r.1 := by
  obtain ⟨i, e, h1, h2⟩ := zip_nums h
  subst h1
  rw [pick_of (r := (e.1, (i : Int))) (by simpa using h2)]
theorem byd_of {es : List Ent} {ps : List (Int × Int)} (h : LmS.StbBy (es.map (·.1)) (nums es.length) ps) : Byd es (ps.map (pick es)) := by
  obtain ⟨h1, h2, h3⟩ := h
  have hf : ∀ p ∈ ps, (pick es p).1 = p.1 := fun p hp => pick_fst (h1.mem_iff.mp hp)
  refine ⟨?_, fun c => ?_⟩
  · rw [List.pairwise_map]
    refine List.Pairwise.imp_of_mem (fun {a b} ha hb hab => ?_) h2
    rw [hf a ha, hf b hb]; exact hab
  · have key : ∀ l : List (Int × Int), (∀ p ∈ l, (pick es p).1 = p.1) → (l.map (pick es)).filter (fun e => e.1 == c) = (l.filter (fun p => p.1 == c)).map (pick es) := fun l hl => by
      rw [List.filter_map]
      congr 1
      exact List.filter_congr fun p hp => by show ((pick es p).1 == c) = _; rw [hl p hp]
    rw [key ps hf, h3 c, ← key _ (fun p hp => pick_fst hp), pick_zip]
end K62
set_option Elab.async false
set_option linter.all false
set_option maxRecDepth 100000
set_option maxHeartbeats 4000000
namespace K62
open PySem PySem.Spec PyProof.Rows L2 LamX
section
variable {P : Program} {w : World} {K : PySem.W.Frag} {mg : Str → Option Value} {base : Heap} {TB : List (Addr × Str)}
def IsPrice (CM : Addr) (H : Hp) (v : V) (p : Int) : Prop := ∃ a dx, v = .ref a ∧ H a = some (.ins CM dx [("pence", .int p)])
theorem prices_fx {T : List (Addr × Str)} {S : List Addr} {CM : Addr} {H H1 : Hp} {vs : List V} {ps : List Int} (e : Fx T S H H1) (x : Paired (IsPrice CM H) vs ps) : Paired (IsPrice CM H1) vs ps := Paired.mapP x fun _ _ ⟨a, dx, h1, h2⟩ => ⟨a, dx, h1, e.ins h2⟩
def PenceOk (p : Int) : Prop := 0 ≤ p ∧ p < 10000000000000000
/-- a journal as it stands -/
structure IsJ (CJ CM CT : Addr) (K : PySem.W.Frag) (H : Hp) (j le : Addr) (hs : List (Str × List Int)) (ps : List Int) (xs : List V) (es : List Ent) : Prop where
  ex : ∃ dx hl pl pvs, H j = some (.ins CJ dx (jf (.ref hl) (.ref pl) le)) ∧ IsHouse K H hl hs ∧ SqT K H pl pvs ∧ Paired (IsPrice CM H) pvs ps
  le_ : H le = some (.lst xs)
  es_ : Paired (IsEnt CT K H) xs es
structure DatOk (hs : List (Str × List Int)) (ps : List Int) (es : List Ent) : Prop where
  h : HouseOk hs
  p : ps.length ≤ 10 ∧ ∀ q ∈ ps, PenceOk q
  e : es.length ≤ 100 ∧ ∀ e ∈ es, EntOk e
def spShow (PB CJ CM CT : Addr) (K : PySem.W.Frag) : Sp := fun vs H Q _ => ∃ (j le : Addr) (hs : List (Str × List Int)) (ps : List Int) (xs : List V) (es : List Ent), vs = [.ref j] ∧ IsJ CJ CM CT K H j le hs ps xs es ∧ DatOk hs ps es ∧ Tabs (TBq PB) H ∧
  ∀ (rs : List Ent) H', Byd es rs → Fx (TBq PB) [] H H' → Q (.str (textS hs ps rs)) H'
structure ClMs (K : PySem.W.Frag) (CM fS : Addr) : Prop extends ClM K CM where
  s : PySem.W.findIn K (.ref CM) "__str__" = some (some (.ref fS))
  f : PySem.W.isFn K (.ref fS) = true
/-- a method that is called -/
structure Met (P : Program) (w : World) (K : PySem.W.Frag) (mg : Str → Option Value) (base : Heap) (k : Nat) (C : Addr) (x : Str) (f : Addr) (fd : FuncData) (ps : List Str) (sp : Sp) : Prop where
  m : Meth K C x f
  G : FnOk P w K mg base CX0 k f fd ps sp
  b : Binds K fd ps []
theorem by_1 : ¬ (("by_days" : Str) = "entries") := by decide +kernel
theorem by_2 : ¬ (("by_days" : Str) = "judge_kept") := by decide +kernel
theorem by_3 : ¬ (("by_days" : Str) = "prices_kept") := by decide +kernel
theorem by_4 : ¬ (("by_days" : Str) = "house_kept") := by decide +kernel
theorem ok_show {f fB fS fH fW CJ CM CT PB : Addr} {fd fdB fdH fdW : FuncData} (F : FnP K "show_journal" "show_journal" st_show_journal [] f fd) (T : Nm mg) (TJ : ClJ K CJ) (TM : ClMs K CM fS) (J_by : Met P w K mg base 3 CJ "by_days" fB fdB ["self"] (spBy PB CJ CT K))
    (J_str : FnR P w K mg base CX0 1 fS (spMStr (TBq PB) CM)) (C_show_hand : Cal P w K mg base 1 "show_hand" fH fdH ["letter", "crafts"] (spHand (TBq PB) K)) (C_written : Cal P w K mg base 3 "written" fW fdW ["thing"] (spWritten (TBq PB) CT)) :
    FnOk P w K mg base CX0 5 f fd ["journal"] (spShow PB CJ CM CT K) := by
  refine F.ok sc_show_journal (fun vs H Q E h => ?_) (fun cdv A outer s H vs Q E hr h => ?_)
  · obtain ⟨j, le, hs, ps, xs, es, rfl, _⟩ := h
    rfl
  · obtain ⟨j, le, hs, ps, xs, es, rfl, ⟨⟨dx, hl, pl, pvs, hj, hhl, hpl, hpp⟩, hle, hes⟩, ⟨⟨ok1, ok2, ok3⟩, ⟨okp1, okp2⟩, ⟨oke1, oke2⟩⟩, hT, k⟩ := h
    refine ⟨_, (PSs.nox (pss_cons (ps_set (i := 1) sc_show_journal.nd rfl (Or.inl rfl) (pe_lst (pa_cons (Kx.join (K := K) pe_str (pe_op op_cat (pe_lst (pa_cons pe_str pa_nil)) (pe_lc (own := [("letter", 2), ("crafts", 3)]) rfl sc_show_journal.nd (Kx.pi_tup (K := K) (Kx.fld (K := K) (pv 0) rfl)) (blkOk_by (N := N_show_journal) (sc := defScope st_show_journal) (own := [("letter", 2), ("crafts", 3)]) (by decide +kernel)) (fun _ _ _ _ _ => (Kx.pg_tup (K := K) (n := 2) (by rfl) (pgs_cons (pg_name (i := 2) sc_show_journal.nd rfl (Or.inl rfl)) (pgs_cons (pg_name (i := 3) sc_show_journal.nd rfl (Or.inl rfl)) pgs_nil)))) (fun _ _ _ _ _ => pts_nil) (fun _ _ _ _ _ => (pe_call C_show_hand.G (hr.mono (by decide)) rfl C_show_hand.g C_show_hand.kp C_show_hand.b .nil pass0 (pa_cons (pv 2) (pa_cons (pv 3) pa_nil))))))) pa_nil)))
  (pss_cons (ps_expr (Kx.bm (K := K) PySem.F.plainAttrs_list PySem.F.slot_list_append PySem.F.type_list_append mt_append (pv 1) (pa_cons (Kx.join (K := K) pe_str (pe_op op_cat (pe_lst (pa_cons pe_str pa_nil)) (pe_lc (own := [("price", 4)]) rfl sc_show_journal.nd (Kx.pi_tup (K := K) (Kx.fld (K := K) (pv 0) rfl)) (blkOk_by (N := N_show_journal) (sc := defScope st_show_journal) (own := [("price", 4)]) (by decide +kernel)) (fun _ _ _ _ _ => (pg_name (i := 4) sc_show_journal.nd rfl (Or.inl rfl))) (fun _ _ _ _ _ => pts_nil) (fun _ _ _ _ _ => (pe_callTy (LmO.cr_strOwn (n := 1) (sp := spMStr (TBq PB) CM) (E := E0) TM.s TM.f J_str (hr.mono (by decide)) pass0) (by rfl) T.n_str (by decide +kernel) (pa_cons (pv 4) pa_nil)))))) pa_nil)))
  (pss_cons (ps_for PassesOwn.never rfl (Kx.pi_tup (K := K) (pe_meth0 (pv 0) TJ.cl J_by.m J_by.G (hr.mono (by decide)) J_by.b .nil pass0)) (Kx.pg_tup (K := K) (n := 3) (by rfl) (pgs_cons (pg_name (i := 5) sc_show_journal.nd rfl (Or.inl rfl)) (pgs_cons (pg_name (i := 6) sc_show_journal.nd rfl (Or.inl rfl)) (pgs_cons (pg_name (i := 7) sc_show_journal.nd rfl (Or.inl rfl)) pgs_nil))))
  (pss_one (ps_expr (Kx.bm (K := K) PySem.F.plainAttrs_list PySem.F.slot_list_append PySem.F.type_list_append mt_append (pv 1) (pa_cons (Kx.join (K := K) pe_str (pe_op op_cat (pe_lst (pa_cons (pe_callTy (call_str_int) (by rfl) T.n_str (by decide +kernel) (pa_cons (pv 5) pa_nil)) (pa_cons (pe_ix (Kx.ix_tup (K := K)) (pv 7) pe_int (fun _ _ => rfl)) pa_nil))) (pe_lc (own := [("thing", 8)]) rfl sc_show_journal.nd (Kx.pi_tup (K := K) (pe_slice (Kx.sl_tup (K := K)) (pv 7) (po_some pe_int) po_none)) (blkOk_by (N := N_show_journal) (sc := defScope st_show_journal) (own := [("thing", 8)]) (by decide +kernel)) (fun _ _ _ _ _ => (pg_name (i := 8) sc_show_journal.nd rfl (Or.inl rfl))) (fun _ _ _ _ _ => pts_nil) (fun _ _ _ _ _ => (pe_call C_written.G (hr.mono (by decide)) rfl C_written.g C_written.kp C_written.b .nil pass0 (pa_cons (pv 8) pa_nil)))))) pa_nil)))))
  (pss_one (ps_ret (Kx.join (K := K) pe_str (pv 1)))))))), ?_⟩
    obtain ⟨hvs, hht, hhp⟩ := hhl
    refine ⟨⟨_, rfl⟩, by show 1 ≤ sizeLine; decide, fun b1 hb1 => ?_⟩
    have x1 := Fx.new (T := TBq PB) (S := []) (o := .lst [V.str "house"]) hb1
    have kb1 : upd H b1 (.lst [V.str "house"]) b1 = some (.lst [V.str "house"]) := upd_same
    have hhp1 := hands_fx x1 hhp
    have hhvl := paired_len hhp
    refine ⟨_, rfl, j, CJ, dx, _, _, rfl, x1.ins hj, TJ.cl, TJ.nH, jf_h _ _ _, hl, rfl, ⟨_, x1.tup hht⟩, fun M hM => lc_tup (K := K) (a := hl) (xs := hvs) (fun i G => Fx (TBq PB) [] (upd H b1 (.lst [V.str "house"])) G ∧ G M = some (.lst (((hs.take i).map handS).map V.str))) ⟨Fx.new hM, by rw [upd_same]; simp⟩
      (fun i G _ g => g.1.tup (x1.tup hht)) ?_ ?_⟩
    · rintro i x G hx ⟨g, hG⟩
      obtain ⟨hd, hhd, hi⟩ := paired_get (hands_fx g hhp1) hx
      obtain ⟨p, c, rfl, hp, hc⟩ := hi
      refine ⟨p, _, rfl, hp, rfl, _, _, rfl, _, _, rfl, rfl, rfl, ?_⟩
      refine ⟨_, rfl, _, rfl, hd.1, c, hd.2, rfl, hc, ok3 hd (List.mem_of_getElem? hhd), fun G1 e2 => ?_⟩
      have hG1 := e2.lst hG (by simp)
      refine ⟨_, hG1, ?_, (g.trans e2).putN hG1 hM, ?_⟩
      · simp only [List.length_map, List.length_take]
        exact lt_line (by omega)
      · rw [upd_same, List.take_add_one, hhd]; simp
    · rintro G ⟨g, hG⟩
      rw [hhvl, List.take_length] at hG
      have hbd : ∀ t ∈ ("house" : Str) :: hs.map handS, t.length ≤ 100 := by
        intro t ht
        rcases List.mem_cons.mp ht with rfl | ht
        · decide
        · obtain ⟨y, hy, rfl⟩ := List.mem_map.mp ht
          exact hand_len (ok3 y hy)
      have hsum := sum_le hbd
      simp only [List.length_cons, List.length_map] at hsum
      refine ⟨b1, M, _, _, rfl, rfl, g.lst kb1 (by simp), hG, by simp only [List.length_map, List.length_cons, List.length_nil]; exact ty_line (by omega), fun b2 hb2 => ?_⟩
      refine ⟨_, b2, ("house" : Str) :: hs.map handS, rfl, rfl, .inl (SqL.of upd_same), by rw [sp_len]; simp only [List.length_cons, List.length_map, List.map_cons]; simp only [List.map_cons] at hsum; omega, by show 1 ≤ sizeLine; decide, fun R hR => ?_⟩
      have e3 : Fx (TBq PB) [] H (upd (upd G b2 (.lst (V.str "house" :: (hs.map handS).map V.str))) R (.lst [V.str (headS hs)])) := ((x1.trans g).newA hb2).newA hR
      have kR : upd (upd G b2 (.lst (V.str "house" :: (hs.map handS).map V.str))) R (.lst [V.str (headS hs)]) R = some (.lst [V.str (headS hs)]) := upd_same
      have eR : Txt.join " " (("house" : Str) :: hs.map handS) = headS hs := rfl
      have nR0 : NewL H R := (NewL.of hR).back ((x1.trans g).newA (o := .lst (V.str "house" :: (hs.map handS).map V.str)) hb2) (by simp)
      refine (?_ : ∀ HR, Fx (TBq PB) [] H HR → HR R = some (.lst [V.str (headS hs)]) → _) _ e3 kR
      clear e3 kR hR hb2 hG g
      intro HR e3 kR
      have nR : R ∉ ([] : List Addr) := by simp
      refine ⟨_, rfl, .inl ⟨rfl, _, SqL.of kR⟩, ⟨_, rfl⟩, by show 1 ≤ sizeLine; decide, fun b3 hb3 => ?_⟩
      have y1 := Fx.new (T := TBq PB) (S := []) (o := .lst [V.str "prices"]) hb3
      have kb3 : upd HR b3 (.lst [V.str "prices"]) b3 = some (.lst [V.str "prices"]) := upd_same
      have z1 := e3.trans y1
      have hpp1 := prices_fx z1 hpp
      have hpvl := paired_len hpp
      refine ⟨_, rfl, j, CJ, dx, _, _, rfl, z1.ins hj, TJ.cl, TJ.nP, jf_p _ _ _, pl, rfl, ⟨_, z1.tup hpl⟩, fun M2 hM2 => lc_tup (K := K) (a := pl) (xs := pvs) (fun i G => Fx (TBq PB) [] (upd HR b3 (.lst [V.str "prices"])) G ∧ G M2 = some (.lst (((ps.take i).map moneyS).map V.str))) ⟨Fx.new hM2, by rw [upd_same]; simp⟩
        (fun i G _ g => g.1.tup (z1.tup hpl)) ?_ ?_⟩
      · rintro i x G hx ⟨g, hG⟩
        obtain ⟨m, hm, a, dx', rfl, ha⟩ := paired_get (prices_fx g hpp1) hx
        obtain ⟨m0, m1⟩ := okp2 m (List.mem_of_getElem? hm)
        refine ⟨rfl, _, rfl, a, dx', _, rfl, ha, a, dx', m, rfl, ha, m0, m1, fun G1 e2 => ⟨_, rfl, ?_⟩⟩
        have e2' : Fx (TBq PB) [] G G1 := e2
        have hG1 := e2'.lst hG (by simp)
        refine ⟨_, hG1, ?_, (g.trans e2').putN hG1 hM2, ?_⟩
        · simp only [List.length_map, List.length_take]
          exact lt_line (by omega)
        · rw [upd_same, List.take_add_one, hm]; simp
      · rintro G ⟨g, hG⟩
        rw [hpvl, List.take_length] at hG
        have hbd : ∀ t ∈ ("prices" : Str) :: ps.map moneyS, t.length ≤ 100 := by
          intro t ht
          rcases List.mem_cons.mp ht with rfl | ht
          · decide
          · obtain ⟨y, hy, rfl⟩ := List.mem_map.mp ht
            exact money_len (okp2 y hy).1 (okp2 y hy).2
        have hsum := sum_le hbd
        simp only [List.length_cons, List.length_map] at hsum
        refine ⟨b3, M2, _, _, rfl, rfl, g.lst kb3 (by simp), hG, by simp only [List.length_map, List.length_cons, List.length_nil]; exact ty_line (by omega), fun b4 hb4 => ?_⟩
        have z2 := ((z1.trans g).newA (o := .lst (V.str "prices" :: (ps.map moneyS).map V.str)) hb4)
        have kR2 := ((y1.trans g).newA (o := .lst (V.str "prices" :: (ps.map moneyS).map V.str)) hb4).lst kR nR
        refine ⟨_, b4, ("prices" : Str) :: ps.map moneyS, rfl, rfl, .inl (SqL.of upd_same), by rw [sp_len]; simp only [List.length_cons, List.length_map, List.map_cons]; simp only [List.map_cons] at hsum; omega, R, _, _, rfl, rfl, kR2, by show 1 < sizeLine; decide, ?_⟩
        have z3 : Fx (TBq PB) [] H (upd (upd G b4 (.lst (V.str "prices" :: (ps.map moneyS).map V.str))) R (.lst [V.str (headS hs), V.str (pricesS ps)])) := z2.putNL kR2 nR0
        have kR3 : upd (upd G b4 (.lst (V.str "prices" :: (ps.map moneyS).map V.str))) R (.lst [V.str (headS hs), V.str (pricesS ps)]) R = some (.lst [V.str (headS hs), V.str (pricesS ps)]) := upd_same
        refine (?_ : ∀ HR, Fx (TBq PB) [] H HR → HR R = some (.lst [V.str (headS hs), V.str (pricesS ps)]) → _) _ z3 kR3
        clear z3 kR3 kR2 z2 hG g hb4 hpp1 z1 kb3 y1 kR e3 hb3 hM2 M2 hsum hbd
        intro HS z3 kR3
        refine ⟨_, rfl, j, dx, _, rfl, z3.ins hj, jf_no _ _ _ by_1 by_2 by_3 by_4, j, dx, le, _, _, xs, es, rfl, z3.ins hj, z3.lst hle (by simp), ents_fx z3 hes, oke1, z3.tabs hT, fun t rvs prs HV z4 hrt hrows hstb => ?_⟩
        have kR4 := z4.lst kR3 nR
        have nR4 : NewL H R := nR0
        have z5 := z3.trans z4
        have hpl' : prs.length ≤ 100 := by
          have := hstb.1.length_eq
          rw [List.length_zip, nums_len, List.length_map] at this
          omega
        have hrl := paired_len hrows
        refine ⟨t, rfl, ⟨_, hrt⟩, for_tup (K := K) (a := t) (xs := rvs) (fun i σ G => ∃ v2 v3 v4 v5 v6 v7 v8, σ = [some (.ref j), some (.ref R), v2, v3, v4, v5, v6, v7, v8] ∧ Fx (TBq PB) [R] HV G ∧ G R = some (.lst ((headS hs :: pricesS ps :: ((prs.take i).map (pick es)).map rowS).map V.str)))
          ⟨_, _, _, _, _, _, _, rfl, Fx.refl _, by rw [kR4]; simp⟩ (fun i σ G _ ⟨_, _, _, _, _, _, _, _, g, _⟩ => g.tup hrt) ?_ ?_⟩
        · rintro i x σ G hx ⟨v2, v3, v4, v5, v6, v7, v8, rfl, g, hG⟩
          obtain ⟨r, hr1, hrow⟩ := paired_get (Paired.mapP hrows fun _ _ y => y.fx g) hx
          obtain ⟨p, q, e, rfl, he, hp, ⟨pv, hq, hpv⟩⟩ := hrow
          have hem : e ∈ es := List.mem_of_getElem? he
          obtain ⟨de0, de1, hdd⟩ := oke2 e hem
          have hdok := hdd.2
          refine ⟨p, _, rfl, hp, rfl, _, _, rfl, _, _, rfl, _, _, rfl, rfl, ?_⟩
          refine ⟨_, rfl, .inl ⟨rfl, _, SqL.of hG⟩, ⟨_, rfl⟩, _, rfl, e.1, rfl, log_lt de0 (by omega), _, rfl, q, _, 0, _, rfl, rfl, hq, atI_nat (j := 0) rfl, by show 2 ≤ sizeLine; decide, fun b5 hb5 => ?_⟩
          have y1 := Fx.new (T := TBq PB) (S := []) (o := .lst [V.str (toString e.1 : Str), .str e.2.name]) hb5
          have kb5 : upd G b5 (.lst [V.str (toString e.1 : Str), .str e.2.name]) b5 = some (.lst [V.str (toString e.1 : Str), .str e.2.name]) := upd_same
          have hpvl := paired_len hpv
          have hfew := deed_few hdd
          refine ⟨_, rfl, 1, rfl, q, _, rfl, y1.tup hq, ?_, fun p2 hp2 => ?_⟩
          · rw [List.length_cons]
            intro z
            have h1 : HT.sIx (pv.length + 1) 0 (some ((1 : Nat) : Int)) = min 1 (pv.length + 1) := HT.sIx_nat _ _ _
            have h2 := z.1
            have h3 : min 1 (pv.length + 1) = 0 := h1.symm.trans h2
            omega
          rw [cut1]
          have y2 := Fx.new (T := TBq PB) (S := []) (o := .tup pv) hp2
          have kp2 : SqT K (upd (upd G b5 (.lst [V.str (toString e.1 : Str), .str e.2.name])) p2 (.tup pv)) p2 pv := SqT.of upd_same
          have hpv2 := Paired.mapP hpv fun _ _ y => (IsPart.fx (CT := CT) (y1.trans y2) y)
          have kb52 := y2.lst kb5 (by simp)
          have hR2 := y2.lst (y1.lst hG nR) nR
          have gy := (y1.trans y2)
          refine (?_ : ∀ HU, Fx (TBq PB) [] G HU → SqT K HU p2 pv → Paired (IsPart CT HU) pv e.2.parts → HU b5 = some (.lst [V.str (toString e.1 : Str), .str e.2.name]) → HU R = some (.lst ((headS hs :: pricesS ps :: ((prs.take i).map (pick es)).map rowS).map V.str)) → _) _ gy kp2 hpv2 kb52 hR2
          clear gy hR2 kb52 hpv2 kp2 y2 hp2 y1 kb5 hb5
          intro HU gy kp2 hpv2 kb52 hR2
          refine ⟨p2, rfl, ⟨_, kp2⟩, fun M hM => lc_tup (K := K) (a := p2) (xs := pv) (fun i G => Fx (TBq PB) [] HU G ∧ G M = some (.lst (((e.2.parts.take i).map shown).map V.str))) ⟨Fx.new hM, by rw [upd_same]; simp⟩
            (fun i G _ g => g.1.tup kp2) ?_ ?_⟩
          · rintro m x G1 hx ⟨g1, hG1⟩
            obtain ⟨pp, hpp, hip⟩ := paired_get hpv2 hx
            refine ⟨rfl, _, rfl, x, pp, rfl, hip.fx g1, hdok pp (List.mem_of_getElem? hpp), fun G2 e2 => ?_⟩
            have hG2 := e2.lst hG1 (by simp)
            refine ⟨_, hG2, ?_, (g1.trans e2).putN hG2 hM, ?_⟩
            · simp only [List.length_map, List.length_take]
              exact lt_line (by omega)
            · rw [upd_same, List.take_add_one, hpp]; simp
          · rintro G1 ⟨g1, hG1⟩
            rw [hpvl, List.take_length] at hG1
            have hbd := row_bd (e := e) ⟨de0, de1, hdd⟩
            have hsum := sum_le hbd
            simp only [List.length_cons, List.length_map] at hsum
            refine ⟨b5, M, _, _, rfl, rfl, g1.lst kb52 (by simp), hG1, by simp only [List.length_map, List.length_cons, List.length_nil]; exact ty_line (by omega), fun b6 hb6 => ?_⟩
            have y3 := Fx.new (T := TBq PB) (S := []) (o := .lst ([V.str (toString e.1 : Str), .str e.2.name] ++ (e.2.parts.map shown).map V.str)) hb6
            have hR3 := y3.lst (g1.lst hR2 nR) nR
            have hil : i < prs.length := by rw [← hrl]; exact (List.getElem?_eq_some_iff.mp hx).1
            refine ⟨_, b6, (toString e.1 : Str) :: e.2.name :: e.2.parts.map shown, rfl, rfl, .inl (SqL.of upd_same), by rw [sp_len]; simp only [List.length_cons, List.length_map, List.map_cons]; simp only [List.map_cons] at hsum; omega, R, _, _, rfl, rfl, hR3, ?_, _, _, _, _, _, _, _, rfl, ?_, ?_⟩
            · simp only [List.length_cons, List.length_map, List.length_take]
              exact lt_line (by omega)
            · exact (g.trans ((gy.trans g1).trans y3 |>.sub (by simp))).trans (Fx.put hR3 (by simp))
            · rw [upd_same, List.take_add_one, hr1]
              simp only [Option.toList_some, List.map_append, List.map_cons, List.map_nil, List.cons_append, pick_of he]
              rfl
        · rintro σ G ⟨v2, v3, v4, v5, v6, v7, v8, rfl, g, hG⟩
          rw [hrl, List.take_length] at hG
          have hrs := byd_of hstb
          have hbd : ∀ t ∈ headS hs :: pricesS ps :: (prs.map (pick es)).map rowS, t.length ≤ 13000 := by
            intro t ht
            rcases List.mem_cons.mp ht with rfl | ht
            · have hb : ∀ t ∈ ("house" : Str) :: hs.map handS, t.length ≤ 100 := by
                intro t ht
                rcases List.mem_cons.mp ht with rfl | ht
                · decide
                · obtain ⟨y, hy, rfl⟩ := List.mem_map.mp ht
                  exact hand_len (ok3 y hy)
              have := join_le (sep := " ") hb
              rw [sp_len] at this
              simp only [List.length_cons, List.length_map] at this
              unfold headS
              omega
            · rcases List.mem_cons.mp ht with rfl | ht
              · have hb : ∀ t ∈ ("prices" : Str) :: ps.map moneyS, t.length ≤ 100 := by
                  intro t ht
                  rcases List.mem_cons.mp ht with rfl | ht
                  · decide
                  · obtain ⟨y, hy, rfl⟩ := List.mem_map.mp ht
                    exact money_len (okp2 y hy).1 (okp2 y hy).2
                have := join_le (sep := " ") hb
                rw [sp_len] at this
                simp only [List.length_cons, List.length_map] at this
                unfold pricesS
                omega
              · obtain ⟨y, hy, rfl⟩ := List.mem_map.mp ht
                obtain ⟨r, hr2, rfl⟩ := List.mem_map.mp hy
                obtain ⟨m, e, rfl, he⟩ := zip_nums (hstb.1.mem_iff.mp hr2)
                rw [pick_of (r := (e.1, (m : Int))) (by simpa using he)]
                exact row_len (oke2 e (List.mem_of_getElem? he))
          have hsum := sum_le hbd
          simp only [List.length_cons, List.length_map] at hsum
          have s1 : (Str.ofString "\n").length = 1 := rfl
          refine ⟨⟨_, rfl⟩, _, rfl, _, R, headS hs :: pricesS ps :: (prs.map (pick es)).map rowS, rfl, rfl, .inl (SqL.of hG), by rw [s1]; simp only [List.length_cons, List.length_map, List.map_cons]; simp only [List.map_cons] at hsum; omega, ?_⟩
          exact k (prs.map (pick es)) G hrs (Fx.dropN nR0 ((z5.sub (by simp)).trans g))
end
end K62
set_option Elab.async false
set_option linter.all false
set_option maxRecDepth 100000
set_option maxHeartbeats 4000000
namespace K62
open PySem PySem.Spec PyProof.Rows L2 LamX
abbrev st_law_shown : Stmt := top 89
abbrev N_law_shown : List PySem.Str := ["_law_thing", "_law_left", "_law_word_here"]
theorem sc_law_shown : FnScope N_law_shown ["_law_thing"] (defScope st_law_shown) := ⟨rfl, rfl, rfl, by decide +kernel, rfl, by decide +kernel, by decide +kernel⟩
section
variable {P : Program} {w : World} {K : PySem.W.Frag} {mg : Str → Option Value} {base : Heap} {TB : List (Addr × Str)}
def mu1 (σ : L2.St) : Nat := match σ[1]?, σ[2]? with
  | some (some (V.int m)), some (some (V.str a)) => 2 * m.toNat + (if a.length = 0 then 1 else 0)
  | _, _ => 0
theorem str_nil {a : Str} : a.length = 0 ↔ a = Str.ofString "" := by
  constructor
  · intro h
    obtain ⟨c⟩ := a
    have : c = #[] := Array.eq_empty_of_size_eq_zero h
    rw [this]; rfl
  · rintro rfl; rfl
theorem ok_shown {f CT : Addr} {fd : FuncData} (F : FnP K "_law_shown" "_law_shown" st_law_shown [] f fd) (T : Gt K mg CT) (TT : ClTs K CT) :
    FnOk P w K mg base CX0 1 f fd ["_law_thing"] (spWritten TB CT) := by
  refine F.ok sc_law_shown (fun vs H Q E h => ?_) (fun cdv A outer s H vs Q E hr h => ?_)
  · obtain ⟨v, p, rfl, _⟩ := h
    rfl
  · obtain ⟨v, p, rfl, hp, hok, k⟩ := h
    refine ⟨_, (PSs.nox (pss_cons (ps_if (pt_cmpR op_isN (pv 0) pe_non (nomark _))
  (pss_one (ps_ret pe_str))
  pss_nil)
  (pss_cons (ps_if (pt_val (pe_callB (id := "isinstance") (Kx.isi (K := K)) (by rfl) T.n_isinstance (by decide +kernel) (pa_cons (pv 0) (pa_cons (pe_bltn (v := .ty "bool") (u := .type "bool") rfl T.n_bool (by decide +kernel) rfl) pa_nil))))
  (pss_one (ps_ret (pe_ix (Kx.ix_list (K := K)) (pe_lst (pa_cons pe_str (pa_cons pe_str pa_nil))) (pe_callTy (call_int1) (by rfl) T.n_int (by decide +kernel) (pa_cons (pv 0) pa_nil)) (fun _ _ => rfl))))
  pss_nil)
  (pss_cons (ps_if (pt_val (pe_callB (id := "isinstance") (Kx.isi (K := K)) (by rfl) T.n_isinstance (by decide +kernel) (pa_cons (pv 0) (pa_cons (pe_glob (v := .ref _) rfl T.g_Tally rfl) pa_nil))))
  (pss_cons (ps_set (i := 1) sc_law_shown.nd rfl (Or.inl rfl) (Kx.fld (K := K) (pv 0) rfl))
  (pss_cons (ps_set (i := 2) sc_law_shown.nd rfl (Or.inl rfl) pe_str)
  (pss_cons (ps_while PassesOwn.never (PW.pt (pw_or (pt_cmpR op_gt (pv 1) pe_int (nomark _)) (pw_or1 (pt_cmpR op_eq (pv 2) pe_str (nomark _)))))
  (pss_cons (ps_set (i := 2) sc_law_shown.nd rfl (Or.inl rfl) (pe_op op_add_str (pe_ix ix_str pe_str (pe_op op_mod (pv 1) (Kx.fld (K := K) (pv 0) rfl)) (fun _ _ => rfl)) (pv 2)))
  (pss_one (ps_set (i := 1) sc_law_shown.nd rfl (Or.inl rfl) (pe_op op_fdiv (pv 1) (Kx.fld (K := K) (pv 0) rfl))))))
  (pss_one (ps_ret (pe_op op_add_str (pe_op op_add_str (pe_callTy (call_str_int) (by rfl) T.n_str (by decide +kernel) (pa_cons (Kx.fld (K := K) (pv 0) rfl) pa_nil)) pe_str) (pv 2)))))))
  pss_nil)
  (pss_one (ps_ret (pe_callTy cr_strSI (by rfl) T.n_str (by decide +kernel) (pa_cons (pv 0) pa_nil)))))))), ?_⟩
    have k0 := k H (Fx.refl H)
    cases p with
    | txt z =>
      obtain rfl : v = .str z := hp
      refine ⟨_, rfl, rfl, _, rfl, ?_⟩
      rw [decide_eq_false (show ¬ (V.str z = V.non) from fun z => by cases z)]
      exact ⟨_, rfl, _, _, _, _, false, rfl, .ty "bool", .base (.str z), kit_ty (by decide +kernel), _, rfl, _, rfl, _, _, _, _, false, rfl, .own CT, .base (.str z), TT.ks, _, rfl, _, rfl, .inl ⟨z, rfl, k0⟩⟩
    | tal b z =>
      obtain ⟨a, dx, rfl, ha⟩ := hp
      obtain ⟨hb0, hb1, hz⟩ := hok
      obtain ⟨n, rfl⟩ : ∃ n : Nat, b = n := ⟨b.toNat, by omega⟩
      obtain ⟨m, rfl⟩ : ∃ m : Nat, z = m := ⟨z.toNat, by omega⟩
      have hm : 12 ≤ m ∧ m ≤ 14 := by omega
      refine ⟨_, rfl, rfl, _, rfl, ?_⟩
      rw [decide_eq_false (show ¬ (V.ref a = V.non) from fun z => by cases z)]
      refine ⟨_, rfl, _, _, _, _, false, rfl, .ty "bool", tyT TT ha, TT.kb, _, rfl, _, rfl, _, _, _, _, true, rfl, .own CT, tyT TT ha, TT.kt, _, rfl, _, rfl, a, CT, dx, _, _, rfl, ha, TT.cl, TT.nB, lk_b _ _, ?_⟩
      refine while_by (fun σ H' => ∃ (u : Nat) (acc : Str), σ = [some (.ref a), some (.int (u : Int)), some (.str acc)] ∧ H' = H ∧ acc.length + u ≤ n + 1 ∧ ((figs m u ++ acc = figs m n ∧ (0 < u ∨ acc = Str.ofString "")) ∨ (u = 0 ∧ acc.length ≠ 0 ∧ acc = figs m n))) (fun σ _ => mu1 σ)
        ⟨n, Str.ofString "", rfl, rfl, by show 0 + n ≤ n + 1; omega, .inl ⟨Str.append_empty _, .inr rfl⟩⟩ ?_ ?_
      · rintro σ H' ⟨u, acc, rfl, rfl, hl, hst⟩
        refine ⟨_, rfl, _, _, rfl, rfl, _, rfl, ?_⟩
        by_cases hu : 0 < u
        · rw [decide_eq_true (by omega : (0 : Int) < (u : Int))]
          have hst1 : figs m u ++ acc = figs m n := by
            rcases hst with ⟨z, _⟩ | ⟨z, _⟩
            · exact z
            · omega
          refine ⟨_, rfl, _, rfl, a, CT, dx, _, _, rfl, ha, TT.cl, TT.nD, lk_d _ _, _, _, rfl, rfl, (by omega : (0 : Int) < (m : Int)), _, _, _, rfl, rfl, by decide, sg_at (Nat.lt_of_lt_of_le (Nat.mod_lt u (by omega)) hm.2), _, rfl, _, _, rfl, rfl, ty_line (show 1 + acc.length ≤ 10000000 from by omega), _, rfl, _, rfl, a, CT, dx, _, _, rfl, ha, TT.cl, TT.nD, lk_d _ _, _, _, rfl, rfl, ⟨by omega, by omega⟩, ?_⟩
          have hdiv : u / m < u := Nat.div_lt_self (by omega) (by omega)
          have hl1 : (sg (u % m) ++ acc).length = 1 + acc.length := by rw [app_le, sg_len]
          refine ⟨⟨u / m, sg (u % m) ++ acc, rfl, rfl, by omega, ?_⟩, ?_⟩
          · by_cases hq : u < m
            · refine .inr ⟨Nat.div_eq_of_lt hq, by omega, ?_⟩
              rw [Nat.mod_eq_of_lt hq, ← figs_lt hq]; exact hst1
            · refine .inl ⟨?_, .inl (Nat.div_pos (by omega) (by omega))⟩
              rw [← Str.append_assoc, ← figs_ge (by omega) (by omega)]; exact hst1
          · show 2 * (u / m) + (if (sg (u % m) ++ acc).length = 0 then 1 else 0) < 2 * u + (if acc.length = 0 then 1 else 0)
            rw [if_neg (by omega : ¬ (sg (u % m) ++ acc).length = 0)]
            split <;> omega
        · obtain rfl : u = 0 := by omega
          rw [decide_eq_false (by omega : ¬ (0 : Int) < ((0 : Nat) : Int))]
          refine ⟨_, rfl, rfl, _, rfl, ?_⟩
          by_cases ha0 : acc = Str.ofString ""
          · rw [decide_eq_true (show V.str acc = V.str (Str.ofString "") by rw [ha0])]
            have hst1 : figs m 0 ++ acc = figs m n := by
              rcases hst with ⟨z, _⟩ | ⟨_, z, _⟩
              · exact z
              · exact absurd (str_nil.mpr ha0) z
            have hl0 := str_nil.mpr ha0
            refine ⟨_, rfl, _, rfl, a, CT, dx, _, _, rfl, ha, TT.cl, TT.nD, lk_d _ _, _, _, rfl, rfl, (by omega : (0 : Int) < (m : Int)), _, _, _, rfl, rfl, by decide, sg_at (Nat.lt_of_lt_of_le (Nat.mod_lt 0 (by omega)) hm.2), _, rfl, _, _, rfl, rfl, ty_line (show 1 + acc.length ≤ 10000000 from by omega), _, rfl, _, rfl, a, CT, dx, _, _, rfl, ha, TT.cl, TT.nD, lk_d _ _, _, _, rfl, rfl, ⟨by omega, by omega⟩, ?_⟩
            have hl1 : (sg (0 % m) ++ acc).length = 1 + acc.length := by rw [app_le, sg_len]
            refine ⟨⟨0 / m, sg (0 % m) ++ acc, rfl, rfl, ?_, .inr ⟨Nat.zero_div m, by omega, ?_⟩⟩, ?_⟩
            · rw [Nat.zero_div]; omega
            · rw [Nat.zero_mod, ← figs_lt (by omega : 0 < m)]; exact hst1
            · show 2 * (0 / m) + (if (sg (0 % m) ++ acc).length = 0 then 1 else 0) < 2 * 0 + (if acc.length = 0 then 1 else 0)
              rw [if_neg (by omega : ¬ (sg (0 % m) ++ acc).length = 0), if_pos hl0, Nat.zero_div]
              omega
          · rw [decide_eq_false (show ¬ (V.str acc = V.str (Str.ofString "")) from fun z => ha0 (V.str.inj z))]
            have hfin : acc = figs m n := by
              rcases hst with ⟨_, z⟩ | ⟨_, _, z⟩
              · rcases z with z | z
                · omega
                · exact absurd z ha0
              · exact z
            subst hfin
            have l1 := toS_len (n := (m : Int)) (by omega) (by omega)
            have s1 : (Str.ofString ":").length = 1 := rfl
            have l2 := figs_len m n
            refine ⟨_, rfl, a, CT, dx, _, _, rfl, ha, TT.cl, TT.nD, lk_d _ _, m, rfl, log_lt (by omega) (by omega), _, _, rfl, rfl, ty_line (by omega), _, rfl, _, _, rfl, rfl, ty_line (by rw [app_le]; omega), ?_⟩
            exact k0
      · intro σ H' Q1 Q2 h hc
        obtain ⟨v, e1, i, j, e2, e3, kk, e4, q⟩ := hc
        refine ⟨v, e1, i, j, e2, e3, kk, e4, ?_⟩
        cases kk with
        | true => exact h _ _ q
        | false =>
          obtain ⟨v, e1, e2, k2, e3, q⟩ := q
          exact ⟨v, e1, e2, k2, e3, h _ _ q⟩
    | num n =>
      obtain rfl : v = .int n := hp
      refine ⟨_, rfl, rfl, _, rfl, ?_⟩
      rw [decide_eq_false (show ¬ (V.int n = V.non) from fun z => by cases z)]
      exact ⟨_, rfl, _, _, _, _, false, rfl, .ty "bool", .base (.int n), kit_ty (by decide +kernel), _, rfl, _, rfl, _, _, _, _, false, rfl, .own CT, .base (.int n), TT.ki, _, rfl, _, rfl, .inr ⟨n, rfl, Nat.lt_trans hok (by decide), k0⟩⟩
    | non =>
      obtain rfl : v = .non := hp
      refine ⟨_, rfl, rfl, _, rfl, ?_⟩
      rw [decide_eq_true (show V.non = V.non from rfl)]
      exact k0
    | yes b =>
      obtain rfl : v = .bl b := hp
      refine ⟨_, rfl, rfl, _, rfl, ?_⟩
      rw [decide_eq_false (show ¬ (V.bl b = V.non) from fun z => by cases z)]
      refine ⟨_, rfl, _, _, _, _, true, rfl, .ty "bool", .base (.bl b), kit_ty (by decide +kernel), _, rfl, by show 2 ≤ sizeLine; decide, fun L hL => ⟨_, rfl, .inr ⟨b, rfl, L, _, _, .str (shown (.yes b)), rfl, rfl, SqL.of upd_same, ?_, k _ (Fx.new hL)⟩⟩⟩
      cases b
      · exact atI_nat (j := 0) rfl
      · exact atI_nat (j := 1) rfl
end
end K62
set_option Elab.async false
set_option linter.all false
set_option maxRecDepth 100000
set_option maxHeartbeats 4000000
namespace K62
open PySem PySem.Spec PyProof.Rows L2 LamX
abbrev st_law_text : Stmt := top 90
abbrev N_law_text : List PySem.Str := ["_law_house_here", "_law_pences", "_law_entries_here", "_law_rows", "_law_deed_here", "_law_letter", "_law_crafts", "_law_moneys", "_law_pence_here", "_law_day", "_law_here", "_law_thing"]
theorem sc_law_text : FnScope N_law_text ["_law_house_here", "_law_pences", "_law_entries_here"] (defScope st_law_text) := ⟨rfl, rfl, rfl, by decide +kernel, rfl, by decide +kernel, by decide +kernel⟩
/-! ### by days, plain -/
theorem byd_inj : ∀ {xs ys : List Ent}, xs.Pairwise (fun a b => a.1 ≤ b.1) → ys.Pairwise (fun a b => a.1 ≤ b.1) → (∀ c, xs.filter (fun e => e.1 == c) = ys.filter (fun e => e.1 == c)) → xs = ys
  | [], [], _, _, _ => rfl
  | [], y :: ys, _, _, h => by
    have := h y.1
    rw [List.filter_nil, List.filter_cons_of_pos (by simp)] at this
    cases this
  | x :: xs, [], _, _, h => by
    have := h x.1
    rw [List.filter_nil, List.filter_cons_of_pos (by simp)] at this
    cases this
  | x :: xs, y :: ys, hx, hy, h => by
    rw [List.pairwise_cons] at hx hy
    have e1 : x.1 = y.1 := by
      have a1 : x ∈ (y :: ys).filter (fun e => e.1 == x.1) := by rw [← h x.1, List.filter_cons_of_pos (by simp)]; exact List.mem_cons_self ..
      have a2 : y ∈ (x :: xs).filter (fun e => e.1 == y.1) := by rw [h y.1, List.filter_cons_of_pos (by simp)]; exact List.mem_cons_self ..
      have b1 : y.1 ≤ x.1 := by
        rcases List.mem_cons.mp (List.mem_filter.mp a1).1 with q | q
        · rw [q]; exact Int.le_refl _
        · exact hy.1 x q
      have b2 : x.1 ≤ y.1 := by
        rcases List.mem_cons.mp (List.mem_filter.mp a2).1 with q | q
        · rw [q]; exact Int.le_refl _
        · exact hx.1 y q
      omega
    have e2 : x = y := by
      have := h x.1
      rw [List.filter_cons_of_pos (by simp), List.filter_cons_of_pos (by simp [e1])] at this
      exact (List.cons.inj this).1
    subst e2
    congr 1
    refine byd_inj hx.2 hy.2 fun c => ?_
    have := h c
    have cons_f : ∀ (z : Ent) (l : List Ent), (z :: l).filter (fun e => e.1 == c) = if (z.1 == c) = true then z :: l.filter (fun e => e.1 == c) else l.filter (fun e => e.1 == c) := fun z l => List.filter_cons
    rw [cons_f, cons_f] at this
    by_cases hc : (x.1 == c) = true
    · rw [if_pos hc, if_pos hc] at this
      exact (List.cons.inj this).2
    · rw [if_neg hc, if_neg hc] at this
      exact this
theorem Byd.inj {es xs ys : List Ent} (h1 : Byd es xs) (h2 : Byd es ys) : xs = ys := byd_inj h1.1 h2.1 fun c => (h1.2 c).trans (h2.2 c).symm
def dayOf (es : List Ent) (d : Int) : List Ent := es.filter fun e => e.1 == d
theorem flat_le {α β : Type} {f : α → List β} {n : Nat} : ∀ {l : List α}, (∀ a ∈ l, (f a).length ≤ n) → (l.flatMap f).length ≤ l.length * n
  | [], _ => by simp
  | a :: l, h => by
    rw [List.flatMap_cons, List.length_append, List.length_cons, Nat.succ_mul]
    have h1 := h a (List.mem_cons_self ..)
    have h2 := flat_le (l := l) fun b hb => h b (List.mem_cons_of_mem _ hb)
    omega
theorem flat_cons {e : Ent} {es : List Ent} : ∀ {ds : List Int}, ds.Nodup → (ds.flatMap (dayOf (e :: es))).length = (ds.flatMap (dayOf es)).length + (if e.1 ∈ ds then 1 else 0)
  | [], _ => by simp
  | d :: ds, h => by
    rw [List.nodup_cons] at h
    have ih := flat_cons (e := e) (es := es) h.2
    rw [List.flatMap_cons, List.flatMap_cons, List.length_append, List.length_append, ih]
    have hd : (dayOf (e :: es) d).length = (dayOf es d).length + (if e.1 = d then 1 else 0) := by
      unfold dayOf
      by_cases q : e.1 = d
      · rw [List.filter_cons_of_pos (by simpa using q), if_pos q]; rfl
      · rw [List.filter_cons_of_neg (by simpa using q), if_neg q]; rfl
    rw [hd]
    by_cases q : e.1 = d
    · rw [if_pos q, if_neg (by rw [q]; exact h.1), if_pos (by rw [q]; exact List.mem_cons_self ..)]
      omega
    · rw [if_neg q]
      by_cases q2 : e.1 ∈ ds
      · rw [if_pos q2, if_pos (List.mem_cons_of_mem _ q2)]; omega
      · rw [if_neg q2, if_neg (by simp [q, q2])]; omega
theorem flat_len {ds : List Int} (h : ds.Nodup) : ∀ {es : List Ent}, (∀ e ∈ es, e.1 ∈ ds) → (ds.flatMap (dayOf es)).length = es.length
  | [], _ => by
    rw [List.length_nil, List.length_eq_zero_iff, List.flatMap_eq_nil_iff]
    intro x _
    rfl
  | e :: es, hm => by
    rw [flat_cons h, flat_len h fun a ha => hm a (List.mem_cons_of_mem _ ha), if_pos (hm e (List.mem_cons_self ..))]; rfl
theorem day_le (es : List Ent) (d : Int) : (dayOf es d).length ≤ es.length := List.length_filter_le _ _
theorem byd_days {es : List Ent} {ds : List Int} (h1 : ds.Pairwise (· < ·)) (h2 : ∀ c, c ∈ ds ↔ c ∈ es.map (·.1)) : Byd es (ds.flatMap (dayOf es)) := by
  refine ⟨?_, fun c => ?_⟩
  · clear h2
    induction ds with
    | nil => exact .nil
    | cons d ds ih =>
      rw [List.pairwise_cons] at h1
      rw [List.flatMap_cons, List.pairwise_append]
      refine ⟨?_, ih h1.2, fun a ha b hb => ?_⟩
      · refine List.pairwise_of_forall_mem_list fun a ha b hb => ?_
        have e1 : a.1 = d := by simpa using (List.mem_filter.mp ha).2
        have e2 : b.1 = d := by simpa using (List.mem_filter.mp hb).2
        omega
      · obtain ⟨d', hd', hb'⟩ := List.mem_flatMap.mp hb
        have e1 : a.1 = d := by simpa using (List.mem_filter.mp ha).2
        have e2 : b.1 = d' := by simpa using (List.mem_filter.mp hb').2
        have := h1.1 d' hd'
        omega
  · rw [List.filter_flatMap]
    have hself : ∀ d, (dayOf es d).filter (fun e => e.1 == c) = if d = c then dayOf es c else [] := fun d => by
      unfold dayOf
      rw [List.filter_filter]
      split
      · rename_i e
        subst e
        exact List.filter_congr fun x _ => by simp
      · rename_i e
        refine List.filter_eq_nil_iff.mpr fun x _ => ?_
        simp only [Bool.and_eq_true, beq_iff_eq, not_and]
        intro h3 h4
        exact e (h4.symm.trans h3)
    rw [show (fun d => (dayOf es d).filter (fun e => e.1 == c)) = fun d => if d = c then dayOf es c else [] from funext hself]
    by_cases hc : c ∈ ds
    · clear h2
      induction ds with
      | nil => cases hc
      | cons d ds ih =>
        rw [List.pairwise_cons] at h1
        rw [List.flatMap_cons]
        by_cases e : d = c
        · subst e
          rw [if_pos rfl]
          have : ds.flatMap (fun x => if x = d then dayOf es d else []) = [] := by
            rw [List.flatMap_eq_nil_iff]
            intro x hx
            have := h1.1 x hx
            rw [if_neg (by omega)]
          rw [this, List.append_nil]; rfl
        · rw [if_neg e, List.nil_append]
          exact ih h1.2 ((List.mem_cons.mp hc).resolve_left fun z => e z.symm)
    · have e1 : es.filter (fun e => e.1 == c) = [] := List.filter_eq_nil_iff.mpr fun x hx z => hc ((h2 c).mpr (List.mem_map.mpr ⟨x, hx, by simpa using z⟩))
      rw [e1, List.flatMap_eq_nil_iff]
      intro x hx
      rw [if_neg fun z => hc (by rw [← z]; exact hx)]
section
variable {P : Program} {w : World} {K : PySem.W.Frag} {mg : Str → Option Value} {base : Heap} {TB : List (Addr × Str)}
def spText (TB : List (Addr × Str)) (CT : Addr) (K : PySem.W.Frag) : Sp := fun vs H Q _ => ∃ (hl pl el : Addr) (hs : List (Str × List Int)) (ps : List Int) (xs : List V) (es : List Ent), vs = [.ref hl, .ref pl, .ref el] ∧ IsHouse K H hl hs ∧ H pl = some (.lst (ps.map V.int)) ∧ H el = some (.lst xs) ∧ Paired (IsEnt CT K H) xs es ∧ DatOk hs ps es ∧ es.length < 64 ∧
  ∀ (rs : List Ent) H', Byd es rs → Fx TB [] H H' → Q (.str (textS hs ps rs)) H'
theorem ok_text {f fS CT : Addr} {fd fdS : FuncData} (F : FnP K "_law_text" "_law_text" st_law_text [] f fd) (T : Nm mg) (C_law_shown : Cal P w K mg base 1 "_law_shown" fS fdS ["_law_thing"] (spWritten TB CT)) :
    FnOk P w K mg base CX0 3 f fd ["_law_house_here", "_law_pences", "_law_entries_here"] (spText TB CT K) := by
  refine F.ok sc_law_text (fun vs H Q E h => ?_) (fun cdv A outer s H vs Q E hr h => ?_)
  · obtain ⟨hl, pl, el, hs, ps, xs, es, rfl, _⟩ := h
    rfl
  · obtain ⟨hl, pl, el, hs, ps, xs, es, rfl, ⟨hvs, hht, hhp⟩, hpl, hel, hes, ⟨⟨ok1, ok2, ok3⟩, ⟨okp1, okp2⟩, ⟨oke1, oke2⟩⟩, h64, k⟩ := h
    refine ⟨_, (PSs.nox (pss_cons (ps_set (i := 3) sc_law_text.nd rfl (Or.inl rfl) (pe_lst (pa_cons (Kx.join (K := K) pe_str (pe_op op_cat (pe_lst (pa_cons pe_str pa_nil)) (pe_lc (own := [("_law_letter", 5), ("_law_crafts", 6)]) rfl sc_law_text.nd (Kx.pi_tup (K := K) (pv 0)) (blkOk_by (N := N_law_text) (sc := defScope st_law_text) (own := [("_law_letter", 5), ("_law_crafts", 6)]) (by decide +kernel)) (fun _ _ _ _ _ => (Kx.pg_tup (K := K) (n := 2) (by rfl) (pgs_cons (pg_name (i := 5) sc_law_text.nd rfl (Or.inl rfl)) (pgs_cons (pg_name (i := 6) sc_law_text.nd rfl (Or.inl rfl)) pgs_nil)))) (fun _ _ _ _ _ => pts_nil) (fun _ _ _ _ _ => (pe_op op_add_str (pe_op op_add_str (pv 5) pe_str) (Kx.join (K := K) pe_str (pe_lc (own := [("_law_deed_here", 4)]) rfl sc_law_text.nd (Kx.pi_tup (K := K) (pv 6)) (blkOk_by (N := N_law_text) (own := [("_law_deed_here", 4)]) (by kernel_rfl)) (fun _ _ _ _ _ => (pg_name (i := 4) sc_law_text.nd rfl (Or.inl rfl))) (fun _ _ _ _ _ => pts_nil) (fun _ _ _ _ _ => (pe_callTy (call_str_int) (by rfl) T.n_str (by decide +kernel) (pa_cons (pv 4) pa_nil)))))))))) pa_nil)))
  (pss_cons (ps_set (i := 7) sc_law_text.nd rfl (Or.inl rfl) (pe_lst pa_nil))
  (pss_cons (ps_for PassesOwn.never rfl (Kx.pi_list (K := K) (pv 1)) (pg_name (i := 8) sc_law_text.nd rfl (Or.inl rfl))
  (pss_one (ps_expr (Kx.bm (K := K) PySem.F.plainAttrs_list PySem.F.slot_list_append PySem.F.type_list_append mt_append (pv 7) (pa_cons (Kx.join (K := K) pe_str (pe_lst (pa_cons (pe_callTy (call_str_int) (by rfl) T.n_str (by decide +kernel) (pa_cons (pe_op op_fdiv (pv 8) pe_int) pa_nil)) (pa_cons (pe_callTy (call_str_int) (by rfl) T.n_str (by decide +kernel) (pa_cons (pe_op op_mod (pe_op op_fdiv (pv 8) pe_int) pe_int) pa_nil)) (pa_cons (pe_callTy (call_str_int) (by rfl) T.n_str (by decide +kernel) (pa_cons (pe_op op_mod (pv 8) pe_int) pa_nil)) pa_nil))))) pa_nil)))))
  (pss_cons (ps_expr (Kx.bm (K := K) PySem.F.plainAttrs_list PySem.F.slot_list_append PySem.F.type_list_append mt_append (pv 3) (pa_cons (Kx.join (K := K) pe_str (pe_op op_cat (pe_lst (pa_cons pe_str pa_nil)) (pv 7))) pa_nil)))
  (pss_cons (ps_for PassesOwn.never rfl (Kx.pi_list (K := K) (pe_callB (id := "sorted") (Kx.sortedSet (w := w)) (by rfl) T.n_sorted (by decide +kernel) (pa_cons (pe_callTy (Kx.setL (K := K) (w := w)) (by rfl) T.n_set (by decide +kernel) (pa_cons (pe_lc (own := [("_law_day", 9), ("_law_deed_here", 4)]) rfl sc_law_text.nd (Kx.pi_list (K := K) (pv 2)) (blkOk_by (N := N_law_text) (sc := defScope st_law_text) (own := [("_law_day", 9), ("_law_deed_here", 4)]) (by decide +kernel)) (fun _ _ _ _ _ => (Kx.pg_tup (K := K) (n := 2) (by rfl) (pgs_cons (pg_name (i := 9) sc_law_text.nd rfl (Or.inl rfl)) (pgs_cons (pg_name (i := 4) sc_law_text.nd rfl (Or.inl rfl)) pgs_nil)))) (fun _ _ _ _ _ => pts_nil) (fun _ _ _ _ _ => (pv 9))) pa_nil)) pa_nil))) (pg_name (i := 9) sc_law_text.nd rfl (Or.inr rfl))
  (pss_one (ps_for PassesOwn.never rfl (Kx.pi_list (K := K) (pe_lc (own := [("_law_here", 10), ("_law_deed_here", 4)]) rfl sc_law_text.nd (Kx.pi_list (K := K) (pv 2)) (blkOk_by (N := N_law_text) (sc := defScope st_law_text) (own := [("_law_here", 10), ("_law_deed_here", 4)]) (by decide +kernel)) (fun _ _ _ _ _ => (Kx.pg_tup (K := K) (n := 2) (by rfl) (pgs_cons (pg_name (i := 10) sc_law_text.nd rfl (Or.inl rfl)) (pgs_cons (pg_name (i := 4) sc_law_text.nd rfl (Or.inl rfl)) pgs_nil)))) (fun _ _ _ _ _ => (pts_one (pt_cmpR op_eq (pv 10) (pv 9) (nomark _)))) (fun _ _ _ _ _ => (pv 4)))) (pg_name (i := 4) sc_law_text.nd rfl (Or.inl rfl))
  (pss_one (ps_expr (Kx.bm (K := K) PySem.F.plainAttrs_list PySem.F.slot_list_append PySem.F.type_list_append mt_append (pv 3) (pa_cons (Kx.join (K := K) pe_str (pe_op op_cat (pe_lst (pa_cons (pe_callTy (call_str_int) (by rfl) T.n_str (by decide +kernel) (pa_cons (pv 9) pa_nil)) (pa_cons (pe_ix (Kx.ix_tup (K := K)) (pv 4) pe_int (fun _ _ => rfl)) pa_nil))) (pe_lc (own := [("_law_thing", 11)]) rfl sc_law_text.nd (Kx.pi_tup (K := K) (pe_slice (Kx.sl_tup (K := K)) (pv 4) (po_some pe_int) po_none)) (blkOk_by (N := N_law_text) (sc := defScope st_law_text) (own := [("_law_thing", 11)]) (by decide +kernel)) (fun _ _ _ _ _ => (pg_name (i := 11) sc_law_text.nd rfl (Or.inl rfl))) (fun _ _ _ _ _ => pts_nil) (fun _ _ _ _ _ => (pe_call C_law_shown.G (hr.mono (by decide)) rfl C_law_shown.g C_law_shown.kp C_law_shown.b .nil pass0 (pa_cons (pv 11) pa_nil)))))) pa_nil)))))))
  (pss_one (ps_ret (Kx.join (K := K) pe_str (pv 3)))))))))), ?_⟩
    have hhvl := paired_len hhp
    have hxe := paired_len hes
    have s0 : (Str.ofString "").length = 0 := rfl
    have s1 : (Str.ofString ":").length = 1 := rfl
    -- the house's row
    refine ⟨⟨_, rfl⟩, by show 1 ≤ sizeLine; decide, fun b1 hb1 => ?_⟩
    have x1 := Fx.new (T := TB) (S := []) (o := .lst [V.str "house"]) hb1
    have kb1 : upd H b1 (.lst [V.str "house"]) b1 = some (.lst [V.str "house"]) := upd_same
    have hhp1 := hands_fx x1 hhp
    refine ⟨_, rfl, hl, rfl, ⟨_, x1.tup hht⟩, fun M hM => lc_tup (K := K) (a := hl) (xs := hvs) (fun i G => Fx TB [] (upd H b1 (.lst [V.str "house"])) G ∧ G M = some (.lst (((hs.take i).map handS).map V.str))) ⟨Fx.new hM, by rw [upd_same]; simp⟩
      (fun i G _ g => g.1.tup (x1.tup hht)) ?_ ?_⟩
    · rintro i x G hx ⟨g, hG⟩
      obtain ⟨hd, hhd, hi⟩ := paired_get (hands_fx g hhp1) hx
      obtain ⟨p, c, rfl, hp, hc⟩ := hi
      obtain ⟨hd1, hd2, hd3⟩ := ok3 hd (List.mem_of_getElem? hhd)
      refine ⟨p, _, rfl, hp, rfl, _, _, rfl, _, _, rfl, rfl, rfl, ?_⟩
      refine ⟨_, rfl, _, _, rfl, rfl, ty_line (by rw [s1]; omega), ⟨_, rfl⟩, _, rfl, c, rfl, ⟨_, hc⟩, fun N hN => lc_tup (K := K) (a := c) (xs := hd.2.map V.int) (fun m G' => Fx TB [] G G' ∧ G' N = some (.lst (((hd.2.take m).map fun m => (toString m : Str)).map V.str))) ⟨Fx.new hN, by rw [upd_same]; simp⟩
        (fun m G' _ g => g.1.tup hc) ?_ ?_⟩
      · rintro m y G' hy ⟨g', hG'⟩
        obtain ⟨n, hn, rfl⟩ := get_int hy
        obtain ⟨m0, m1⟩ := hd3 n (List.mem_of_getElem? hn)
        refine ⟨rfl, _, rfl, n, rfl, small_log m0 m1, _, hG', ?_, g'.putN hG' hN, ?_⟩
        · simp only [List.length_map, List.length_take]
          exact lt_line (by omega)
        · rw [upd_same, List.take_add_one, hn]; simp
      · rintro G' ⟨g', hG'⟩
        rw [List.length_map, List.take_length] at hG'
        have hb : ∀ t ∈ hd.2.map fun m => (toString m : Str), t.length ≤ 20 := by
          intro t ht
          obtain ⟨m, hm, rfl⟩ := List.mem_map.mp ht
          obtain ⟨m0, m1⟩ := hd3 m hm
          exact toS_len m0 (by omega)
        have h1 := sum_le hb
        have h2 := join_le (sep := "") hb
        rw [s0] at h2
        simp only [List.length_map] at h1 h2
        have hG1 := g'.lst hG (by simp)
        refine ⟨_, N, _, rfl, rfl, .inl (SqL.of hG'), by rw [s0, List.length_map]; omega, _, _, rfl, rfl, ty_line (by rw [app_le, s1]; omega), _, hG1, ?_, (g.trans g').putN hG1 hM, ?_⟩
        · simp only [List.length_map, List.length_take]
          exact lt_line (by omega)
        · rw [upd_same, List.take_add_one, hhd]; simp [handS]
    rintro G ⟨g, hG⟩
    rw [hhvl, List.take_length] at hG
    have hbd : ∀ t ∈ ("house" : Str) :: hs.map handS, t.length ≤ 100 := by
      intro t ht
      rcases List.mem_cons.mp ht with rfl | ht
      · decide
      · obtain ⟨y, hy, rfl⟩ := List.mem_map.mp ht
        exact hand_len (ok3 y hy)
    have hsum := sum_le hbd
    simp only [List.length_cons, List.length_map] at hsum
    refine ⟨b1, M, _, _, rfl, rfl, g.lst kb1 (by simp), hG, by simp only [List.length_map, List.length_cons, List.length_nil]; exact ty_line (by omega), fun b2 hb2 => ?_⟩
    refine ⟨_, b2, ("house" : Str) :: hs.map handS, rfl, rfl, .inl (SqL.of upd_same), by rw [sp_len]; simp only [List.length_cons, List.length_map, List.map_cons]; simp only [List.map_cons] at hsum; omega, by show 1 ≤ sizeLine; decide, fun R hR => ?_⟩
    have nR0 : NewL H R := (NewL.of hR).back ((x1.trans g).newA (o := .lst (V.str "house" :: (hs.map handS).map V.str)) hb2) (by simp)
    have e3 : Fx TB [] H (upd (upd G b2 (.lst (V.str "house" :: (hs.map handS).map V.str))) R (.lst [V.str (headS hs)])) := ((x1.trans g).newA hb2).newA hR
    have kR : upd (upd G b2 (.lst (V.str "house" :: (hs.map handS).map V.str))) R (.lst [V.str (headS hs)]) R = some (.lst [V.str (headS hs)]) := upd_same
    refine (?_ : ∀ HR, Fx TB [] H HR → HR R = some (.lst [V.str (headS hs)]) → _) _ e3 kR
    clear e3 kR hR hb2 hG g hhp1 kb1 x1 hb1 hM M hsum hbd
    intro HR e3 kR
    have nR : R ∉ ([] : List Addr) := by simp
    -- the moneys
    refine ⟨Nat.zero_le _, fun m0 hm0 => ?_⟩
    have e4 := e3.newA (o := .lst []) hm0
    have nm0 : NewL H m0 := (NewL.of hm0).back e3 (by simp)
    have km0 : upd HR m0 (.lst []) m0 = some (.lst []) := upd_same
    have hRm : R ≠ m0 := ne_of_none kR hm0
    have kR4 : upd HR m0 (.lst []) R = some (.lst [V.str (headS hs)]) := by rw [upd_ne hRm]; exact kR
    have hplm : pl ≠ m0 := fun z => (NewL.nel nm0 hpl) z.symm
    have helm : el ≠ m0 := fun z => (NewL.nel nm0 hel) z.symm
    have hplR : pl ≠ R := fun z => (NewL.nel nR0 hpl) z.symm
    have helR : el ≠ R := fun z => (NewL.nel nR0 hel) z.symm
    refine (?_ : ∀ HM, Fx TB [] H HM → HM m0 = some (.lst []) → HM R = some (.lst [V.str (headS hs)]) → _) _ e4 km0 kR4
    clear e4 km0 kR4 hm0 e3 kR
    intro HM e4 km0 kR4
    refine ⟨_, rfl, pl, rfl, ⟨_, SqL.of (e4.lst hpl (by simp))⟩, for_list (K := K) (a := pl) (xs := ps.map V.int) (fun i σ G => ∃ v8, σ = [some (.ref hl), some (.ref pl), some (.ref el), some (.ref R), none, none, none, some (.ref m0), v8, none, none, none] ∧ Fx TB [m0] HM G ∧ G m0 = some (.lst (((ps.take i).map moneyS).map V.str)))
      ⟨none, rfl, Fx.refl _, by rw [km0]; simp⟩ (fun i σ G _ ⟨_, _, g, _⟩ => SqL.of (g.lst (e4.lst hpl (by simp)) (by simpa using hplm))) ?_ ?_⟩
    · rintro i x σ G hx ⟨v8, rfl, g, hG⟩
      obtain ⟨n, hn, rfl⟩ := get_int hx
      obtain ⟨n0, n1⟩ := okp2 n (List.mem_of_getElem? hn)
      have b1 : 0 ≤ n / 240 ∧ n / 240 < 10000000000000000 := by omega
      have b2 : 0 ≤ n / 12 % 20 ∧ n / 12 % 20 < 10000000000000000 := by omega
      have b3 : 0 ≤ n % 12 ∧ n % 12 < 10000000000000000 := by omega
      refine ⟨_, rfl, .inl ⟨rfl, _, SqL.of hG⟩, ⟨_, rfl⟩, _, rfl, _, _, rfl, rfl, ⟨by decide, by decide⟩, _, rfl, log_lt b1.1 b1.2, _, rfl, _, _, rfl, rfl, ⟨by decide, by decide⟩, _, _, rfl, rfl, by show (0 : Int) < 20; decide, _, rfl, log_lt b2.1 b2.2, _, rfl, _, _, rfl, rfl, by show (0 : Int) < 12; decide, _, rfl, log_lt b3.1 b3.2, by show 3 ≤ sizeLine; decide, fun L hL => ?_⟩
      have y1 := Fx.new (T := TB) (S := [m0]) (o := .lst ([(toString (n / 240) : Str), (toString (n / 12 % 20) : Str), (toString (n % 12) : Str)].map V.str)) hL
      have hG1 : upd G L (.lst ([(toString (n / 240) : Str), (toString (n / 12 % 20) : Str), (toString (n % 12) : Str)].map V.str)) m0 = _ := (upd_ne (ne_of_none hG hL)).trans hG
      have l1 := toS_len b1.1 b1.2
      have l2 := toS_len b2.1 b2.2
      have l3 := toS_len b3.1 b3.2
      have s2 : (Str.ofString "/").length = 1 := rfl
      refine ⟨_, L, [(toString (n / 240) : Str), (toString (n / 12 % 20) : Str), (toString (n % 12) : Str)], rfl, rfl, .inl (SqL.of upd_same), by rw [s2]; simp only [List.map_cons, List.map_nil, List.sum_cons, List.sum_nil, List.length_cons, List.length_nil]; omega, m0, _, _, rfl, rfl, hG1, ?_, _, rfl, ?_, ?_⟩
      · simp only [List.length_map, List.length_take]
        exact lt_line (by omega)
      · exact (g.trans y1).trans (Fx.put hG1 (by simp))
      · rw [upd_same, List.take_add_one, hn]; simp [moneyS]
    rintro σ G ⟨v8, rfl, g, hG⟩
    rw [List.length_map, List.take_length] at hG
    have hbd : ∀ t ∈ ("prices" : Str) :: ps.map moneyS, t.length ≤ 100 := by
      intro t ht
      rcases List.mem_cons.mp ht with rfl | ht
      · decide
      · obtain ⟨y, hy, rfl⟩ := List.mem_map.mp ht
        exact money_len (okp2 y hy).1 (okp2 y hy).2
    have hsum := sum_le hbd
    simp only [List.length_cons, List.length_map] at hsum
    have kR5 := g.lst kR4 (by simpa using hRm)
    have e5 : Fx TB [] H G := Fx.dropN nm0 ((e4.sub (by simp)).trans g)
    refine ⟨_, rfl, .inl ⟨rfl, _, SqL.of kR5⟩, ⟨_, rfl⟩, by show 1 ≤ sizeLine; decide, fun b3 hb3 => ?_⟩
    have y1 := Fx.new (T := TB) (S := []) (o := .lst [V.str "prices"]) hb3
    refine ⟨_, rfl, b3, m0, _, _, rfl, rfl, upd_same, y1.lst hG (by simp), by simp only [List.length_map, List.length_cons, List.length_nil]; exact ty_line (by omega), fun b4 hb4 => ?_⟩
    have y2 := y1.newA (o := .lst ([V.str "prices"] ++ (ps.map moneyS).map V.str)) hb4
    have kR6 := y2.lst kR5 nR
    refine ⟨_, b4, ("prices" : Str) :: ps.map moneyS, rfl, rfl, .inl (SqL.of upd_same), by rw [sp_len]; simp only [List.length_cons, List.length_map, List.map_cons]; simp only [List.map_cons] at hsum; omega, R, _, _, rfl, rfl, kR6, by show 1 < sizeLine; decide, ?_⟩
    have e6 : Fx TB [] H (upd (upd (upd G b3 (.lst [V.str "prices"])) b4 (.lst ([V.str "prices"] ++ (ps.map moneyS).map V.str))) R (.lst [V.str (headS hs), V.str (pricesS ps)])) := (e5.trans y2).putNL kR6 nR0
    have kR7 : upd (upd (upd G b3 (.lst [V.str "prices"])) b4 (.lst ([V.str "prices"] ++ (ps.map moneyS).map V.str))) R (.lst [V.str (headS hs), V.str (pricesS ps)]) R = some (.lst [V.str (headS hs), V.str (pricesS ps)]) := upd_same
    refine (?_ : ∀ HS, Fx TB [] H HS → HS R = some (.lst [V.str (headS hs), V.str (pricesS ps)]) → _) _ e6 kR7
    clear e6 kR7 kR6 y2 hb4 y1 hb3 e5 kR5 hsum hbd hG g kR4 km0 e4
    intro HS e6 kR7
    -- the days
    have hes6 := ents_fx e6 hes
    have hel6 := e6.lst hel (by simp)
    refine ⟨_, rfl, el, rfl, ⟨_, SqL.of hel6⟩, fun D hD => lc_list (K := K) (a := el) (xs := xs) (fun i G => Fx TB [] HS G ∧ G D = some (.lst (((es.take i).map (·.1)).map V.int))) ⟨Fx.new hD, by rw [upd_same]; simp⟩
      (fun i G _ g => SqL.of (g.1.lst hel6 (by simp))) ?_ ?_⟩
    · rintro i x G hx ⟨g, hG⟩
      obtain ⟨e, he, p, q, rfl, hp, hq⟩ := paired_get (ents_fx g hes6) hx
      refine ⟨p, _, rfl, hp, rfl, _, _, rfl, _, _, rfl, rfl, rfl, _, rfl, _, hG, ?_, g.putN hG hD, ?_⟩
      · simp only [List.length_map, List.length_take]
        exact lt_line (by omega)
      · rw [upd_same, List.take_add_one, he]; simp
    rintro G ⟨g, hG⟩
    rw [hxe, List.take_length] at hG
    refine ⟨D, es.map (·.1), rfl, SqL.of hG, by rw [List.length_map]; show es.length + 1 < 4096; omega, fun st cn hst hcn => ?_⟩
    rw [List.length_map] at hcn
    refine ⟨st, _, cn, rfl, upd_same, by omega, fun ds dl hds hdm hdl hdn => ?_⟩
    have e7 := ((e6.trans g).newA (o := SetO w st (fun j => decide (j ∈ es.map (·.1))) cn) hst).newA (o := .lst (ds.map V.int)) hdn
    have hdm' : ∀ c, c ∈ ds ↔ c ∈ es.map (·.1) := fun c => (hdm c).trans decide_eq_true_iff
    have kd : upd (upd G st (SetO w st (fun j => decide (j ∈ es.map (·.1))) cn)) dl (.lst (ds.map V.int)) dl = some (.lst (ds.map V.int)) := upd_same
    have kR8 := ((g.newA (o := SetO w st (fun j => decide (j ∈ es.map (·.1))) cn) hst).newA (o := .lst (ds.map V.int)) hdn).lst kR7 nR
    have hdR : dl ≠ R := fun z => by
      have := ((g.newA (o := SetO w st (fun j => decide (j ∈ es.map (·.1))) cn) hst)).lst kR7 nR
      rw [← z] at this
      rw [hdn] at this
      cases this
    refine (?_ : ∀ HV, Fx TB [] H HV → HV dl = some (.lst (ds.map V.int)) → HV R = some (.lst [V.str (headS hs), V.str (pricesS ps)]) → _) _ e7 kd kR8
    clear e7 kd kR8 hdn hst hG g hes6 hel6 kR7 e6 hD
    intro HV e7 kd kR8
    have hes7 := ents_fx e7 hes
    have hel7 := e7.lst hel (by simp)
    refine ⟨dl, rfl, ⟨_, SqL.of kd⟩, for_list (K := K) (a := dl) (xs := ds.map V.int) (fun i σ G => ∃ v4 v5 v6 v7 v8 v9 v10 v11, σ = [some (.ref hl), some (.ref pl), some (.ref el), some (.ref R), v4, v5, v6, v7, v8, v9, v10, v11] ∧ Fx TB [R] HV G ∧ G R = some (.lst ((headS hs :: pricesS ps :: ((ds.take i).flatMap (dayOf es)).map rowS).map V.str)))
      ⟨_, _, _, _, _, _, _, _, rfl, Fx.refl _, by rw [kR8]; simp⟩ (fun i σ G _ ⟨_, _, _, _, _, _, _, _, _, g, _⟩ => SqL.of (g.lst kd (by simpa using hdR))) ?_ ?_⟩
    · rintro i x σ G hx ⟨v4, v5, v6, v7, v8, v9, v10, v11, rfl, g, hG⟩
      obtain ⟨d, hd, rfl⟩ := get_int hx
      have hel8 := g.lst hel7 (by simpa using helR)
      have hes8 := ents_fx g hes7
      refine ⟨_, rfl, el, rfl, ⟨_, SqL.of hel8⟩, fun D hD => lc_list (K := K) (a := el) (xs := xs) (fun m G' => ∃ qs, Fx TB [] G G' ∧ G' D = some (.lst qs) ∧ Paired (fun v e => ∃ q, v = V.ref q ∧ IsDeed CT K G' q e.2) qs (dayOf (es.take m) d)) ⟨[], Fx.new hD, upd_same, by rw [List.take_zero]; exact .nil⟩
        (fun m G' _ ⟨_, g', _⟩ => SqL.of (g'.lst hel8 (by simp))) ?_ ?_⟩
      · rintro m x G' hx ⟨qs, g', hG', hqs⟩
        obtain ⟨e, he, p, q, rfl, hp, hq⟩ := paired_get (ents_fx g' hes8) hx
        have hmx : m < es.length := (List.getElem?_eq_some_iff.mp he).1
        have hdl' : dayOf (es.take (m + 1)) d = dayOf (es.take m) d ++ (if (e.1 == d) = true then [e] else []) := by
          unfold dayOf
          rw [List.take_add_one, he, List.filter_append]
          by_cases z : (e.1 == d) = true
          · simp [z]
          · simp [z]
        have hql : qs.length ≤ 100 := by
          rw [paired_len hqs]
          refine Nat.le_trans (List.length_filter_le _ _) ?_
          rw [List.length_take]; omega
        refine ⟨p, _, rfl, hp, rfl, _, _, rfl, _, _, rfl, rfl, rfl, _, rfl, _, rfl, rfl, _, rfl, ?_⟩
        by_cases hed : V.int e.1 = V.int d
        · rw [decide_eq_true hed]
          have hed' : e.1 = d := V.int.inj hed
          refine ⟨_, rfl, _, hG', lt_line (by omega), qs ++ [.ref q], g'.putN hG' hD, upd_same, ?_⟩
          rw [hdl', if_pos (by simpa using hed')]
          have y1 := Fx.put (T := TB) (S := [D]) (o := .lst (qs ++ [V.ref q])) hG' (by simp)
          exact Paired.snoc (Paired.mapP hqs fun _ _ ⟨q', h1, h2⟩ => ⟨q', h1, h2.fx y1⟩) ⟨q, rfl, hq.fx y1⟩
        · rw [decide_eq_false hed]
          refine ⟨qs, g', hG', ?_⟩
          rw [hdl', if_neg (fun z => hed (by rw [show e.1 = d by simpa using z])), List.append_nil]
          exact hqs
      rintro G' ⟨qs, g', hG', hqs⟩
      rw [hxe, List.take_length] at hqs
      have hDR : D ≠ R := fun z => by rw [z, hG] at hD; cases hD
      have hR1 := g'.lst hG nR
      have hqe := paired_len hqs
      refine ⟨D, rfl, ⟨_, SqL.of hG'⟩, for_list (K := K) (a := D) (xs := qs) (fun m σ G2 => ∃ v4 v10 v11, σ = [some (.ref hl), some (.ref pl), some (.ref el), some (.ref R), v4, v5, v6, v7, v8, some (.int d), v10, v11] ∧ Fx TB [R] G' G2 ∧ G2 R = some (.lst ((headS hs :: pricesS ps :: ((ds.take i).flatMap (dayOf es) ++ (dayOf es d).take m).map rowS).map V.str)))
        ⟨_, _, _, rfl, Fx.refl _, by rw [hR1]; simp⟩ (fun m σ G2 _ ⟨_, _, _, _, g2, _⟩ => SqL.of (g2.lst hG' (by simpa using hDR))) ?_ ?_⟩
      · rintro m x σ G2 hx ⟨w4, w10, w11, rfl, g2, hG2⟩
        obtain ⟨e, he, q, rfl, pv, hq, hpv⟩ := paired_get (Paired.mapP hqs fun _ _ ⟨q', h1, h2⟩ => (⟨q', h1, h2.fx g2⟩ : ∃ q, _ = V.ref q ∧ IsDeed CT K G2 q _)) hx
        have hem' := List.mem_filter.mp (List.mem_of_getElem? he)
        have hem : e ∈ es := hem'.1
        have hed : e.1 = d := by simpa using hem'.2
        obtain ⟨de0, de1, hdd⟩ := oke2 e hem
        have hdok := hdd.2
        have hpvl := paired_len hpv
        have hfew := deed_few hdd
        subst hed
        refine ⟨_, rfl, .inl ⟨rfl, _, SqL.of hG2⟩, ⟨_, rfl⟩, _, rfl, e.1, rfl, log_lt de0 (by omega), _, rfl, q, _, 0, _, rfl, rfl, hq, atI_nat (j := 0) rfl, by show 2 ≤ sizeLine; decide, fun b5 hb5 => ?_⟩
        have y1 := Fx.new (T := TB) (S := []) (o := .lst [V.str (toString e.1 : Str), .str e.2.name]) hb5
        have kb5 : upd G2 b5 (.lst [V.str (toString e.1 : Str), .str e.2.name]) b5 = some (.lst [V.str (toString e.1 : Str), .str e.2.name]) := upd_same
        refine ⟨_, rfl, 1, rfl, q, _, rfl, y1.tup hq, ?_, fun p2 hp2 => ?_⟩
        · rw [List.length_cons]
          intro z
          have h1 : HT.sIx (pv.length + 1) 0 (some ((1 : Nat) : Int)) = min 1 (pv.length + 1) := HT.sIx_nat _ _ _
          have h2 := z.1
          have h3 : min 1 (pv.length + 1) = 0 := h1.symm.trans h2
          omega
        rw [cut1]
        have y2 := Fx.new (T := TB) (S := []) (o := .tup pv) hp2
        have kp2 : SqT K (upd (upd G2 b5 (.lst [V.str (toString e.1 : Str), .str e.2.name])) p2 (.tup pv)) p2 pv := SqT.of upd_same
        have hpv2 := Paired.mapP hpv fun _ _ y => (IsPart.fx (CT := CT) (y1.trans y2) y)
        have kb52 := y2.lst kb5 (by simp)
        have hR2 := y2.lst (y1.lst hG2 nR) nR
        have gy := (y1.trans y2)
        refine (?_ : ∀ HU, Fx TB [] G2 HU → SqT K HU p2 pv → Paired (IsPart CT HU) pv e.2.parts → HU b5 = some (.lst [V.str (toString e.1 : Str), .str e.2.name]) → HU R = some (.lst ((headS hs :: pricesS ps :: ((ds.take i).flatMap (dayOf es) ++ (dayOf es e.1).take m).map rowS).map V.str)) → _) _ gy kp2 hpv2 kb52 hR2
        clear gy hR2 kb52 hpv2 kp2 y2 hp2 y1 kb5 hb5
        intro HU gy kp2 hpv2 kb52 hR2
        refine ⟨p2, rfl, ⟨_, kp2⟩, fun M hM => lc_tup (K := K) (a := p2) (xs := pv) (fun i G => Fx TB [] HU G ∧ G M = some (.lst (((e.2.parts.take i).map shown).map V.str))) ⟨Fx.new hM, by rw [upd_same]; simp⟩
          (fun i G _ g => g.1.tup kp2) ?_ ?_⟩
        · rintro m x G1 hx ⟨g1, hG1⟩
          obtain ⟨pp, hpp, hip⟩ := paired_get hpv2 hx
          refine ⟨rfl, _, rfl, x, pp, rfl, hip.fx g1, hdok pp (List.mem_of_getElem? hpp), fun G2 e2 => ?_⟩
          have hG2 := e2.lst hG1 (by simp)
          refine ⟨_, hG2, ?_, (g1.trans e2).putN hG2 hM, ?_⟩
          · simp only [List.length_map, List.length_take]
            exact lt_line (by omega)
          · rw [upd_same, List.take_add_one, hpp]; simp
        · rintro G1 ⟨g1, hG1⟩
          rw [hpvl, List.take_length] at hG1
          have hbd := row_bd (e := e) ⟨de0, de1, hdd⟩
          have hsum := sum_le hbd
          simp only [List.length_cons, List.length_map] at hsum
          refine ⟨b5, M, _, _, rfl, rfl, g1.lst kb52 (by simp), hG1, by simp only [List.length_map, List.length_cons, List.length_nil]; exact ty_line (by omega), fun b6 hb6 => ?_⟩
          have y3 := Fx.new (T := TB) (S := []) (o := .lst ([V.str (toString e.1 : Str), .str e.2.name] ++ (e.2.parts.map shown).map V.str)) hb6
          have hR3 := y3.lst (g1.lst hR2 nR) nR
          refine ⟨_, b6, (toString e.1 : Str) :: e.2.name :: e.2.parts.map shown, rfl, rfl, .inl (SqL.of upd_same), by rw [sp_len]; simp only [List.length_cons, List.length_map, List.map_cons]; simp only [List.map_cons] at hsum; omega, R, _, _, rfl, rfl, hR3, ?_, _, _, _, rfl, ?_, ?_⟩
          · have c1 := flat_le (f := dayOf es) (n := es.length) (l := ds.take i) fun a _ => day_le es a
            have c2 := day_le es e.1
            have c3 : (ds.take i).length ≤ 63 := by rw [List.length_take]; omega
            have c4 : (ds.take i).length * es.length ≤ 63 * 63 := Nat.mul_le_mul c3 (by omega)
            simp only [List.length_cons, List.length_map, List.length_append, List.length_take] at c1 c4 ⊢
            exact lt_line (by omega)
          · exact (g2.trans ((gy.trans g1).trans y3 |>.sub (by simp))).trans (Fx.put hR3 (by simp))
          · rw [upd_same, List.take_add_one, he]
            simp only [Option.toList_some, List.map_append, List.map_cons, List.map_nil, List.cons_append, List.append_assoc]
            rfl
      · rintro σ G2 ⟨w4, w10, w11, rfl, g2, hG2⟩
        refine ⟨_, _, _, _, _, _, _, _, rfl, (g.trans (g'.sub (by simp))).trans g2, ?_⟩
        rw [hG2, hqe, List.take_length, List.take_add_one, hd]
        simp
    · rintro σ G ⟨v4, v5, v6, v7, v8, v9, v10, v11, rfl, g, hG⟩
      rw [List.length_map, List.take_length] at hG
      have hrs := byd_days hds hdm'
      have hlen : (ds.flatMap (dayOf es)).length = es.length := flat_len (List.Pairwise.imp (fun h => Int.ne_of_lt h) hds) fun e he => (hdm' e.1).mpr (List.mem_map.mpr ⟨e, he, rfl⟩)
      have hbd : ∀ t ∈ headS hs :: pricesS ps :: (ds.flatMap (dayOf es)).map rowS, t.length ≤ 13000 := by
        intro t ht
        rcases List.mem_cons.mp ht with rfl | ht
        · have hb : ∀ t ∈ ("house" : Str) :: hs.map handS, t.length ≤ 100 := by
            intro t ht
            rcases List.mem_cons.mp ht with rfl | ht
            · decide
            · obtain ⟨y, hy, rfl⟩ := List.mem_map.mp ht
              exact hand_len (ok3 y hy)
          have := join_le (sep := " ") hb
          rw [sp_len] at this
          simp only [List.length_cons, List.length_map] at this
          unfold headS
          omega
        · rcases List.mem_cons.mp ht with rfl | ht
          · have hb : ∀ t ∈ ("prices" : Str) :: ps.map moneyS, t.length ≤ 100 := by
              intro t ht
              rcases List.mem_cons.mp ht with rfl | ht
              · decide
              · obtain ⟨y, hy, rfl⟩ := List.mem_map.mp ht
                exact money_len (okp2 y hy).1 (okp2 y hy).2
            have := join_le (sep := " ") hb
            rw [sp_len] at this
            simp only [List.length_cons, List.length_map] at this
            unfold pricesS
            omega
          · obtain ⟨y, hy, rfl⟩ := List.mem_map.mp ht
            obtain ⟨d, _, hyd⟩ := List.mem_flatMap.mp hy
            exact row_len (oke2 y (List.mem_filter.mp hyd).1)
      have hsum := sum_le hbd
      simp only [List.length_cons, List.length_map, hlen] at hsum
      have s2 : (Str.ofString "\n").length = 1 := rfl
      refine ⟨⟨_, rfl⟩, _, rfl, _, R, headS hs :: pricesS ps :: (ds.flatMap (dayOf es)).map rowS, rfl, rfl, .inl (SqL.of hG), by rw [s2]; simp only [List.length_cons, List.length_map, List.map_cons, hlen]; simp only [List.map_cons] at hsum; omega, ?_⟩
      exact k (ds.flatMap (dayOf es)) G hrs (Fx.dropN nR0 ((e7.sub (by simp)).trans g))
end
end K62
set_option Elab.async false
set_option linter.all false
set_option maxRecDepth 100000
set_option maxHeartbeats 4000000
namespace K62
open PySem PySem.Spec PyProof.Rows L2 LamX
abbrev st_law_journal : Stmt := top 91
abbrev N_law_journal : List PySem.Str := ["_law_house_here", "_law_pences", "_law_entries_here", "_law_journal_here", "_law_pence_here", "_law_day", "_law_deed_here"]
theorem sc_law_journal : FnScope N_law_journal ["_law_house_here", "_law_pences", "_law_entries_here"] (defScope st_law_journal) := ⟨rfl, rfl, rfl, by decide +kernel, rfl, by decide +kernel, by decide +kernel⟩
abbrev st_law_other_order : Stmt := top 92
abbrev N_law_other_order : List PySem.Str := ["_law_deck_here", "_law_entries_here", "_law_left", "_law_day", "_law_deed_here", "_law_found", "_law_entry"]
theorem sc_law_other_order : FnScope N_law_other_order ["_law_deck_here", "_law_entries_here"] (defScope st_law_other_order) := ⟨rfl, rfl, rfl, by decide +kernel, rfl, by decide +kernel, by decide +kernel⟩
abbrev st_law_is_text : Stmt := top 93
abbrev N_law_is_text : List PySem.Str := ["_law_journal_here", "_law_text_here", "_law_many_here", "_law_found"]
theorem sc_law_is_text : FnScope N_law_is_text ["_law_journal_here", "_law_text_here", "_law_many_here"] (defScope st_law_is_text) := ⟨rfl, rfl, rfl, by decide +kernel, rfl, by decide +kernel, by decide +kernel⟩
section
variable {P : Program} {w : World} {K : PySem.W.Frag} {mg : Str → Option Value} {base : Heap} {TB : List (Addr × Str)}
theorem IsJ.fx {T : List (Addr × Str)} {S : List Addr} {CJ CM CT : Addr} {H H1 : Hp} {j le : Addr} {hs : List (Str × List Int)} {ps : List Int} {xs : List V} {es : List Ent} (e : Fx T S H H1) (n : le ∉ S) (x : IsJ CJ CM CT K H j le hs ps xs es) : IsJ CJ CM CT K H1 j le hs ps xs es := by
  obtain ⟨⟨dx, hl, pl, pvs, h1, h2, h3, h4⟩, h5, h6⟩ := x
  exact ⟨⟨dx, hl, pl, pvs, e.ins h1, h2.fx e, e.tup h3, prices_fx e h4⟩, e.lst h5 n, ents_fx e h6⟩
theorem tell_1 : ¬ (("tell" : Str) = "entries") := by decide +kernel
theorem tell_2 : ¬ (("tell" : Str) = "judge_kept") := by decide +kernel
theorem tell_3 : ¬ (("tell" : Str) = "prices_kept") := by decide +kernel
theorem tell_4 : ¬ (("tell" : Str) = "house_kept") := by decide +kernel
def spJournal (TB : List (Addr × Str)) (CJ CM CT : Addr) (K : PySem.W.Frag) : Sp := fun vs H Q _ => ∃ (hl pl el : Addr) (hs : List (Str × List Int)) (ps : List Int) (xs : List V) (es : List Ent), vs = [.ref hl, .ref pl, .ref el] ∧ IsHouse K H hl hs ∧ H pl = some (.lst (ps.map V.int)) ∧ H el = some (.lst xs) ∧ Paired (IsEnt CT K H) xs es ∧ DatOk hs ps es ∧
  ∀ (j le : Addr) (ys : List V) H', NewL H le → IsJ CJ CM CT K H' j le hs ps ys es → Fx TB [] H H' → Q (.ref j) H'
theorem ok_journal {f fJ fM fT CJ CM CT : Addr} {fd fdJ fdM fdT : FuncData} {dsJ : List Value} (F : FnP K "_law_journal" "_law_journal" st_law_journal [] f fd) (T : Nm mg) (TJ : ClJ K CJ)
    (M_Journal : Mka P w K mg base 1 "Journal" CJ fJ fdJ ["self", "house", "prices", "judge"] [.non] dsJ (spJInit CJ)) (M_Money : Mka P w K mg base 1 "Money" CM fM fdM ["self", "pence"] [] [] (spMInit CM)) (J_tell : Met P w K mg base 4 CJ "tell" fT fdT ["self", "day", "deed"] (spTell TB CJ CT K)) :
    FnOk P w K mg base CX0 5 f fd ["_law_house_here", "_law_pences", "_law_entries_here"] (spJournal TB CJ CM CT K) := by
  refine F.ok sc_law_journal (fun vs H Q E h => ?_) (fun cdv A outer s H vs Q E hr h => ?_)
  · obtain ⟨hl, pl, el, hs, ps, xs, es, rfl, _⟩ := h
    rfl
  · obtain ⟨hl, pl, el, hs, ps, xs, es, rfl, hhl, hpl, hel, hes, ⟨okh, ⟨okp1, okp2⟩, ⟨oke1, oke2⟩⟩, k⟩ := h
    refine ⟨_, (PSs.nox (pss_cons (ps_set (i := 3) sc_law_journal.nd rfl (Or.inl rfl) (pe_make M_Journal.M M_Journal.G (hr.mono (by decide)) rfl M_Journal.g M_Journal.b M_Journal.d pass0 (pa_cons (pv 0) (pa_cons (pe_callTy (Kx.tuple_of (K := K)) (by rfl) T.n_tuple (by decide +kernel) (pa_cons (pe_lc (own := [("_law_pence_here", 4)]) rfl sc_law_journal.nd (Kx.pi_list (K := K) (pv 1)) (blkOk_by (N := N_law_journal) (sc := defScope st_law_journal) (own := [("_law_pence_here", 4)]) (by decide +kernel)) (fun _ _ _ _ _ => (pg_name (i := 4) sc_law_journal.nd rfl (Or.inl rfl))) (fun _ _ _ _ _ => pts_nil) (fun _ _ _ _ _ => (pe_make M_Money.M M_Money.G (hr.mono (by decide)) rfl M_Money.g M_Money.b M_Money.d pass0 (pa_cons (pv 4) pa_nil)))) pa_nil)) pa_nil))))
  (pss_cons (ps_for PassesOwn.never rfl (Kx.pi_list (K := K) (pv 2)) (Kx.pg_tup (K := K) (n := 2) (by rfl) (pgs_cons (pg_name (i := 5) sc_law_journal.nd rfl (Or.inl rfl)) (pgs_cons (pg_name (i := 6) sc_law_journal.nd rfl (Or.inl rfl)) pgs_nil)))
  (pss_one (ps_expr (pe_meth (pv 3) TJ.cl J_tell.m J_tell.G (hr.mono (by decide)) J_tell.b .nil pass0 (pa_cons (pv 5) (pa_cons (pv 6) pa_nil))))))
  (pss_one (ps_ret (pv 3)))))), ?_⟩
    refine ⟨_, rfl, _, rfl, pl, rfl, ⟨_, SqL.of hpl⟩, fun M hM => lc_list (K := K) (a := pl) (xs := ps.map V.int) (fun i G => ∃ vs', Fx TB [] H G ∧ G M = some (.lst vs') ∧ Paired (IsPrice CM G) vs' (ps.take i)) ⟨[], Fx.new hM, upd_same, by rw [List.take_zero]; exact .nil⟩
      (fun i G _ ⟨_, g, _⟩ => SqL.of (g.lst hpl (by simp))) ?_ ?_⟩
    · rintro i x G hx ⟨vs', g, hG, hp⟩
      obtain ⟨n, hn, rfl⟩ := get_int hx
      refine ⟨rfl, _, rfl, fun x dx hx hdx hne => ⟨x, dx, n, rfl, upd_same, rfl, ?_⟩⟩
      have y1 : Fx TB [] G (upd (upd (upd G dx (.own x)) x (.ins CM dx [])) x (.ins CM dx [("pence", .int n)])) := Fx.made hx hdx
      have hG1 := y1.lst hG (by simp)
      have hpl' := paired_len hp
      have y2 := Fx.put (T := TB) (S := [M]) (o := .lst (vs' ++ [V.ref x])) hG1 (by simp)
      refine ⟨_, hG1, lt_line (by rw [hpl', List.length_take]; omega), vs' ++ [.ref x], (g.trans y1).putN hG1 hM, upd_same, ?_⟩
      rw [List.take_add_one, hn]
      exact (prices_fx y2 (prices_fx y1 hp)).snoc ⟨x, dx, rfl, y2.ins upd_same⟩
    rintro G ⟨vs', g, hG, hp⟩
    rw [List.length_map, List.take_length] at hp
    refine ⟨M, _, rfl, .inl ⟨SqL.of hG, fun t ht => ?_⟩⟩
    have y1 := Fx.new (T := TB) (S := []) (o := .tup vs') ht
    refine fun j dx hj hdx hne => ⟨j, dx, _, _, rfl, upd_same, fun le H1 hle hj1 hle1 hst => ⟨rfl, ?_⟩⟩
    have e0 := g.trans y1
    have y2 : Fx TB [] (upd G t (.tup vs')) H1 := by
      have ee : ∀ b o, upd G t (.tup vs') b = some o → H1 b = some o := fun b o h => hst b o (by rw [upd_ne (ne_of_none h hj), upd_ne (ne_of_none h hdx)]; exact h) (ne_of_none h hj)
      exact ⟨fun b o h _ _ => ee b o h, fun t q hq => (t q hq).ext ee⟩
    have hle0 : upd G t (.tup vs') le = none := by
      cases q : upd G t (.tup vs') le with
      | none => rfl
      | some o =>
        have h1 := ne_of_none q hj
        have h2 := ne_of_none q hdx
        rw [upd_ne h1, upd_ne h2, q] at hle
        cases hle
    have nle : NewL H le := (NewL.of hle0).back e0 (by simp)
    have e1 := e0.trans y2
    have hp1 := prices_fx y2 (prices_fx y1 hp)
    have ht1 := y2.tup (SqT.of (K := K) (upd_same : upd G t (.tup vs') t = some (.tup vs')))
    have hhl1 := hhl.fx e1
    have hel1 := e1.lst hel (by simp)
    have hes1 := ents_fx e1 hes
    have hne2 : el ≠ le := fun z => (NewL.nel nle hel) z.symm
    have hxe := paired_len hes
    refine ⟨_, rfl, el, rfl, ⟨_, SqL.of hel1⟩, for_list (K := K) (a := el) (xs := xs) (fun i σ G => ∃ v4 v5 v6 ys, σ = [some (.ref hl), some (.ref pl), some (.ref el), some (.ref j), v4, v5, v6] ∧ Fx TB [le] H1 G ∧ G le = some (.lst ys) ∧ Paired (IsEnt CT K G) ys (es.take i))
      ⟨_, _, _, [], rfl, Fx.refl _, hle1, by rw [List.take_zero]; exact .nil⟩ (fun i σ G _ ⟨_, _, _, _, _, g, _⟩ => SqL.of (g.lst hel1 (by simpa using hne2))) ?_ ?_⟩
    · rintro i x σ G hx ⟨v4, v5, v6, ys, rfl, g, hG, hys⟩
      obtain ⟨e, he, p, q, rfl, hp, hq⟩ := paired_get (ents_fx g hes1) hx
      obtain ⟨d0, d1, hdd⟩ := oke2 e (List.mem_of_getElem? he)
      have hyl := paired_len hys
      refine ⟨p, _, rfl, hp, rfl, _, _, rfl, _, _, rfl, rfl, ?_⟩
      refine ⟨_, rfl, j, dx, _, rfl, g.ins hj1, jf_no _ _ _ tell_1 tell_2 tell_3 tell_4, _, rfl, _, rfl, j, dx, le, q, _, _, ys, e.1, e.2, rfl, g.ins hj1, hG, by rw [hyl, List.length_take]; omega, d0, hq, hdd, fun r t' H2 z1 z2 z3 => ?_⟩
      have z1' : Fx TB [le] G H2 := z1
      refine ⟨_, _, _, ys ++ [.ref t'], rfl, g.trans z1', z2, ?_⟩
      rw [List.take_add_one, he]
      exact (ents_fx z1' hys).snoc ⟨t', q, rfl, z3, hq.fx z1'⟩
    · rintro σ G ⟨v4, v5, v6, ys, rfl, g, hG, hys⟩
      rw [hxe, List.take_length] at hys
      refine ⟨_, rfl, k j le ys G nle ⟨⟨dx, hl, t, vs', g.ins hj1, hhl1.fx g, g.tup ht1, prices_fx g hp1⟩, hG, hys⟩ (Fx.dropN nle ((e1.sub (by simp)).trans g))⟩
structure ClJL (K : PySem.W.Frag) (CJ fL : Addr) : Prop where
  s : PySem.W.findIn K (.ref CJ) "__len__" = some (some (.ref fL))
  f : PySem.W.isFn K (.ref fL) = true
def spIsText (PB CJ CM CT : Addr) (K : PySem.W.Frag) : Sp := fun vs H Q _ => ∃ (j le : Addr) (hs : List (Str × List Int)) (ps : List Int) (xs : List V) (es : List Ent) (t : Str), vs = [.ref j, .str t, .int (es.length : Int)] ∧ IsJ CJ CM CT K H j le hs ps xs es ∧ DatOk hs ps es ∧ Tabs (TBq PB) H ∧ (∀ rs, Byd es rs → t = textS hs ps rs) ∧
  ∀ H', Fx (TBq PB) [] H H' → Q (.bl true) H'
theorem ok_istext {f fS fL CJ CM CT PB : Addr} {fd fdS fdL : FuncData} (F : FnP K "_law_is_text" "_law_is_text" st_law_is_text [] f fd) (T : Nm mg) (TJL : ClJL K CJ fL) (C_show_journal : Cal P w K mg base 5 "show_journal" fS fdS ["journal"] (spShow PB CJ CM CT K)) (J_len : FnR P w K mg base CX0 1 fL (spJLen CJ)) :
    FnOk P w K mg base CX0 6 f fd ["_law_journal_here", "_law_text_here", "_law_many_here"] (spIsText PB CJ CM CT K) := by
  refine F.ok sc_law_is_text (fun vs H Q E h => ?_) (fun cdv A outer s H vs Q E hr h => ?_)
  · obtain ⟨j, le, hs, ps, xs, es, t, rfl, _⟩ := h
    rfl
  · obtain ⟨j, le, hs, ps, xs, es, t, rfl, hj, ok, hT, ht, k⟩ := h
    refine ⟨_, (PSs.nox (pss_cons (ps_set (i := 3) sc_law_is_text.nd rfl (Or.inl rfl) (pe_call C_show_journal.G (hr.mono (by decide)) rfl C_show_journal.g C_show_journal.kp C_show_journal.b .nil pass0 (pa_cons (pv 0) pa_nil)))
  (pss_one (ps_ret (pe_and (pe_callB (id := "isinstance") (Kx.isi (K := K)) (by rfl) T.n_isinstance (by decide +kernel) (pa_cons (pv 3) (pa_cons (pe_bltn (v := .ty "str") (u := .type "str") rfl T.n_str (by decide +kernel) rfl) pa_nil))) (pe_and (pe_cmpR op_eq (pv 3) (pv 1) (nomark _)) (pe_one (pe_cmpR op_eq (pe_callB (id := "len") (LmO.cr_lenOwn (n := 1) (sp := spJLen CJ) (E := E0) TJL.s TJL.f J_len (hr.mono (by decide)) pass0) (by rfl) T.n_len (by decide +kernel) (pa_cons (pv 0) pa_nil)) (pv 2) (nomark _))))))))), ?_⟩
    refine ⟨_, rfl, j, le, hs, ps, xs, es, rfl, hj, ok, hT, fun rs H1 hrs e1 => ?_⟩
    obtain ⟨⟨dx, hl, pl, pvs, h1, h2, h3, h4⟩, h5, h6⟩ := IsJ.fx (K := K) e1 (by simp) hj
    have hxe := paired_len h6
    refine ⟨_, rfl, _, _, _, _, true, rfl, .ty "str", .base (.str _), kit_ty (by decide +kernel), _, rfl, ?_⟩
    refine ⟨_, rfl, _, rfl, rfl, _, rfl, ?_⟩
    rw [decide_eq_true (show V.str (textS hs ps rs) = V.str t by rw [ht rs hrs])]
    have hb := ok.e.1
    refine ⟨_, rfl, j, dx, _, rfl, h1, j, dx, le, _, _, xs, rfl, h1, h5, (xs.length : Int), rfl, by omega, by omega, _, rfl, rfl, ?_⟩
    rw [decide_eq_true (show V.int (xs.length : Int) = V.int (es.length : Int) by rw [hxe])]
    exact k H1 e1
end
end K62
set_option Elab.async false
set_option linter.all false
set_option maxRecDepth 100000
set_option maxHeartbeats 4000000
namespace K62
open PySem PySem.Spec PyProof.Rows L2 LamX

theorem flat_filter {es : List Ent} {c : Int} : ∀ {ds : List Int}, ds.Nodup → (ds.flatMap (dayOf es)).filter (fun e => e.1 == c) = if c ∈ ds then dayOf es c else []
  | [], _ => by simp
  | d :: ds, h => by
    rw [List.nodup_cons] at h
    rw [List.flatMap_cons, List.filter_append, flat_filter h.2]
    have hself : (dayOf es d).filter (fun e => e.1 == c) = if d = c then dayOf es c else [] := by
      unfold dayOf
      rw [List.filter_filter]
      split
      · rename_i e
        subst e
        exact List.filter_congr fun x _ => by simp
      · rename_i e
        refine List.filter_eq_nil_iff.mpr fun x _ => ?_
        simp only [Bool.and_eq_true, beq_iff_eq, not_and]
        intro h3 h4
        exact e (h4.symm.trans h3)
    rw [hself]
    by_cases q : d = c
    · subst q
      rw [if_pos rfl, if_neg h.1, if_pos (List.mem_cons_self ..), List.append_nil]
    · rw [if_neg q, List.nil_append]
      by_cases q2 : c ∈ ds
      · rw [if_pos q2, if_pos (List.mem_cons_of_mem _ q2)]
      · rw [if_neg q2, if_neg (by simp [q2]; exact fun z => q z.symm)]
theorem dayOf_nil {es : List Ent} {c : Int} (h : c ∉ es.map (·.1)) : dayOf es c = [] := List.filter_eq_nil_iff.mpr fun x hx z => h (List.mem_map.mpr ⟨x, hx, by simpa using z⟩)
section
variable {P : Program} {w : World} {K : PySem.W.Frag} {mg : Str → Option Value} {base : Heap} {TB : List (Addr × Str)}
def Same_ (es es' : List Ent) : Prop := ∀ c, es'.filter (fun e => e.1 == c) = es.filter (fun e => e.1 == c)
theorem Same_.byd {es es' rs : List Ent} (h : Same_ es es') (b : Byd es' rs) : Byd es rs := ⟨b.1, fun c => (b.2 c).trans (h c)⟩
def spOrder (TB : List (Addr × Str)) (CT : Addr) (K : PySem.W.Frag) : Sp := fun vs H Q _ => ∃ (d c el : Addr) (xs : List V) (es : List Ent), vs = [.ref d, .ref el] ∧ Deck H d c ∧ H el = some (.lst xs) ∧ el ∉ [d, c] ∧ Paired (IsEnt CT K H) xs es ∧ es.length < 63 ∧
  ∀ (l : Addr) (ys : List V) (es' : List Ent) H', NewL H l → H' l = some (.lst ys) → Paired (IsEnt CT K H') ys es' → es'.length = es.length → (∀ e ∈ es', e ∈ es) → Same_ es es' → Fx TB [d, c] H H' → Deck H' d c → Q (.ref l) H'
theorem paired_app {α β : Type} {F : α → β → Prop} : ∀ {xs xs' : List α} {ys ys' : List β}, Paired F xs ys → Paired F xs' ys' → Paired F (xs ++ xs') (ys ++ ys')
  | _, _, _, _, .nil, h => h
  | _, _, _, _, .cons a t, h => .cons a (paired_app t h)
def muL (a : Addr) (H : Hp) : Nat := match H a with
  | some (.lst xs) => xs.length
  | _ => 0
theorem mem_erase {α : Type} : ∀ {l : List α} {i : Nat} {x : α}, l[i]? = some x → l.Perm (x :: l.eraseIdx i)
  | [], _, _, h => by simp at h
  | a :: l, 0, x, h => by simp at h; subst h; simp
  | a :: l, i + 1, x, h => by
    have := mem_erase (l := l) (i := i) (by simpa using h)
    rw [List.eraseIdx_cons_succ]
    exact (List.Perm.cons a this).trans (List.Perm.swap ..)
theorem ok_order {f fD CT : Addr} {fd fdD : FuncData} (F : FnP K "_law_other_order" "_law_other_order" st_law_other_order [] f fd) (T : Nm mg) (C_law_draw : Cal P w K mg base 1 "_law_draw" fD fdD ["_law_deck_here", "_law_most"] (spDraw TB)) :
    FnOk P w K mg base CX0 3 f fd ["_law_deck_here", "_law_entries_here"] (spOrder TB CT K) := by
  refine F.ok sc_law_other_order (fun vs H Q E h => ?_) (fun cdv A outer s H vs Q E hr h => ?_)
  · obtain ⟨d, c, el, xs, es, rfl, _⟩ := h
    rfl
  · obtain ⟨d, c, el, xs, es, rfl, D0, hel, hed, hes, h63, k⟩ := h
    refine ⟨_, (PSs.nox (pss_cons (ps_set (i := 2) sc_law_other_order.nd rfl (Or.inl rfl) (pe_callB (id := "sorted") (Kx.sortedSet (w := w)) (by rfl) T.n_sorted (by decide +kernel) (pa_cons (pe_callTy (Kx.setL (K := K) (w := w)) (by rfl) T.n_set (by decide +kernel) (pa_cons (pe_lc (own := [("_law_day", 3), ("_law_deed_here", 4)]) rfl sc_law_other_order.nd (Kx.pi_list (K := K) (pv 1)) (blkOk_by (N := N_law_other_order) (sc := defScope st_law_other_order) (own := [("_law_day", 3), ("_law_deed_here", 4)]) (by decide +kernel)) (fun _ _ _ _ _ => (Kx.pg_tup (K := K) (n := 2) (by rfl) (pgs_cons (pg_name (i := 3) sc_law_other_order.nd rfl (Or.inl rfl)) (pgs_cons (pg_name (i := 4) sc_law_other_order.nd rfl (Or.inl rfl)) pgs_nil)))) (fun _ _ _ _ _ => pts_nil) (fun _ _ _ _ _ => (pv 3))) pa_nil)) pa_nil)))
  (pss_cons (ps_set (i := 5) sc_law_other_order.nd rfl (Or.inl rfl) (pe_lst pa_nil))
  (pss_cons (ps_while PassesOwn.never (pt_cmpR (Kx.neD (K := K) hr.units) (pv 2) (pe_lst pa_nil) (nomark _))
  (pss_cons (ps_set (i := 3) sc_law_other_order.nd rfl (Or.inr rfl) (Kx.bm (K := K) PySem.F.plainAttrs_list PySem.F.slot_list_pop PySem.F.type_list_pop mt_popAt (pv 2) (pa_cons (pe_call C_law_draw.G (hr.mono (by decide)) rfl C_law_draw.g C_law_draw.kp C_law_draw.b .nil pass0 (pa_cons (pv 0) (pa_cons (pe_callB (id := "len") (Kx.len (K := K)) (by rfl) T.n_len (by decide +kernel) (pa_cons (pv 2) pa_nil)) pa_nil))) pa_nil)))
  (pss_one (ps_expr (Kx.bm (K := K) PySem.F.plainAttrs_list PySem.F.slot_list_extend PySem.F.type_list_extend mt_extend (pv 5) (pa_cons (pe_lc (own := [("_law_entry", 6)]) rfl sc_law_other_order.nd (Kx.pi_list (K := K) (pv 1)) (blkOk_by (N := N_law_other_order) (sc := defScope st_law_other_order) (own := [("_law_entry", 6)]) (by decide +kernel)) (fun _ _ _ _ _ => (pg_name (i := 6) sc_law_other_order.nd rfl (Or.inl rfl))) (fun _ _ _ _ _ => (pts_one (pt_cmpR op_eq (pe_ix (Kx.ix_tup (K := K)) (pv 6) pe_int (fun _ _ => rfl)) (pv 3) (nomark _)))) (fun _ _ _ _ _ => (pv 6))) pa_nil))))))
  (pss_one (ps_ret (pv 5))))))), ?_⟩
    have hxe := paired_len hes
    refine ⟨_, rfl, el, rfl, ⟨_, SqL.of hel⟩, fun D hD => lc_list (K := K) (a := el) (xs := xs) (fun i G => Fx TB [] H G ∧ G D = some (.lst (((es.take i).map (·.1)).map V.int))) ⟨Fx.new hD, by rw [upd_same]; simp⟩
      (fun i G _ g => SqL.of (g.1.lst hel (by simp))) ?_ ?_⟩
    · rintro i x G hx ⟨g, hG⟩
      obtain ⟨e, he, p, q, rfl, hp, hq⟩ := paired_get (ents_fx g hes) hx
      refine ⟨p, _, rfl, hp, rfl, _, _, rfl, _, _, rfl, rfl, rfl, _, rfl, _, hG, ?_, g.putN hG hD, ?_⟩
      · simp only [List.length_map, List.length_take]
        exact lt_line (by omega)
      · rw [upd_same, List.take_add_one, he]; simp
    rintro G ⟨g, hG⟩
    rw [hxe, List.take_length] at hG
    refine ⟨D, es.map (·.1), rfl, SqL.of hG, by rw [List.length_map]; show es.length + 1 < 4096; omega, fun st cn hst hcn => ?_⟩
    rw [List.length_map] at hcn
    refine ⟨st, _, cn, rfl, upd_same, by omega, fun ds dl hds hdm hdl hdn => ?_⟩
    have hdm' : ∀ c, c ∈ ds ↔ c ∈ es.map (·.1) := fun c => (hdm c).trans decide_eq_true_iff
    have e0 : Fx TB [] H (upd G st (SetO w st (fun j => decide (j ∈ es.map (·.1))) cn)) := g.newA hst
    have e1 := e0.newA (o := .lst (ds.map V.int)) hdn
    have nl : NewL H dl := (NewL.of hdn).back e0 (by simp)
    have D1 : Deck (upd (upd G st (SetO w st (fun j => decide (j ∈ es.map (·.1))) cn)) dl (.lst (ds.map V.int))) d c := D0.fx e1 (by simp) (by simp)
    have hdd : dl ∉ [d, c] := (D0.fx e0 (by simp) (by simp)).nin hdn
    have kd : upd (upd G st (SetO w st (fun j => decide (j ∈ es.map (·.1))) cn)) dl (.lst (ds.map V.int)) dl = some (.lst (ds.map V.int)) := upd_same
    refine (?_ : ∀ HV, Fx TB [] H HV → Deck HV d c → HV dl = some (.lst (ds.map V.int)) → _) _ e1 D1 kd
    clear e1 D1 kd hdn e0 hst hG g hD
    intro HV e1 D1 kd
    refine ⟨Nat.zero_le _, fun fl hfl => ?_⟩
    have nfl : NewL H fl := (NewL.of hfl).back e1 (by simp)
    have hfd := D1.nin hfl
    have hlf : dl ≠ fl := ne_of_none kd hfl
    have hef : el ≠ fl := fun z => (NewL.nel nfl hel) z.symm
    have hedl : el ≠ dl := fun z => (NewL.nel nl hel) z.symm
    have hnd : ds.Nodup := List.Pairwise.imp (fun h => Int.ne_of_lt h) hds
    refine while_by (fun σ G => ∃ v3 v4 v6 left done ys, σ = [some (.ref d), some (.ref el), some (.ref dl), v3, v4, some (.ref fl), v6] ∧ Fx TB [d, c, dl, fl] H G ∧ Deck G d c ∧ G dl = some (.lst (left.map V.int)) ∧ (done ++ left).Perm ds ∧ G fl = some (.lst ys) ∧ Paired (IsEnt CT K G) ys (done.flatMap (dayOf es)))
      (fun _ G => muL dl G) ⟨_, _, _, ds, [], [], rfl, (e1.newA (o := .lst []) hfl).sub (by simp), D1.new hfl, by rw [upd_ne hlf]; exact kd, List.Perm.refl _, upd_same, .nil⟩ ?_ ?_
    · rintro σ G ⟨v3, v4, v6, left, done, ys, rfl, g, DG, hdG, hpm, hfG, hys⟩
      refine ⟨_, rfl, Nat.zero_le _, fun b hb => ?_⟩
      have y1 := Fx.new (T := TB) (S := []) (o := .lst []) hb
      have hdG1 := y1.lst hdG (by simp)
      have hfG1 := y1.lst hfG (by simp)
      have DG1 := DG.new (o := .lst []) hb
      refine ⟨.list (left.map PyData.int), .list [], .lst (SqL.of hdG1) (dp_ints left), .lst (SqL.of upd_same) .nil, shaped_ints left, rfl, _, rfl, ?_⟩
      rw [eqv_nil]
      have hll : left.length ≤ ds.length := by have := hpm.length_eq; rw [List.length_append] at this; omega
      have hdsl : ds.length ≤ 62 := by omega
      cases left with
      | nil =>
        have hpd : done.Perm ds := by rw [List.append_nil] at hpm; exact hpm
        have hdn : done.Nodup := hpd.nodup_iff.mpr hnd
        have hmem : ∀ e ∈ es, e.1 ∈ done := fun e he => hpd.mem_iff.mpr ((hdm' e.1).mpr (List.mem_map.mpr ⟨e, he, rfl⟩))
        refine ⟨_, rfl, k fl ys _ _ nfl hfG1 (ents_fx y1 hys) (flat_len hdn hmem) (fun e he => ?_) (fun cc => ?_) ?_ DG1⟩
        · obtain ⟨x, _, hx⟩ := List.mem_flatMap.mp he
          exact (List.mem_filter.mp hx).1
        · rw [flat_filter hdn]
          split
          · rfl
          · rename_i hc
            exact (dayOf_nil fun z => hc (hpd.mem_iff.mpr ((hdm' cc).mpr z))).symm
        · refine Fx.dropN nfl (Fx.dropN nl ((g.trans (y1.sub (by simp))).sub fun b hb => ?_))
          simp only [List.mem_cons, List.not_mem_nil, or_false] at hb ⊢
          rcases hb with z | z | z | z <;> simp [z]
      | cons z0 zs =>
        have hlen : ((z0 :: zs).map V.int).length = zs.length + 1 := by simp
        refine ⟨_, rfl, .inl ⟨rfl, _, SqL.of hdG1⟩, _, rfl, _, rfl, _, _, rfl, .inl ⟨_, SqL.of hdG1, rfl⟩, d, c, _, rfl, DG1, by rw [hlen]; omega, by rw [hlen]; simp only [List.length_cons] at hll; omega, fun r G2 r' r'' e2 D2 => ?_⟩
        rw [hlen] at r''
        have hdG2 := e2.lst hdG1 hdd
        have hfG2 := e2.lst hfG1 hfd
        have hkl : r.toNat < (z0 :: zs).length := by rw [List.length_cons]; omega
        obtain ⟨day, hday⟩ : ∃ day, (z0 :: zs)[r.toNat]? = some day := ⟨_, List.getElem?_eq_getElem hkl⟩
        have hpe := mem_erase hday
        refine ⟨dl, _, r, r.toNat, .int day, rfl, rfl, hdG2, by omega, by omega, seqIndex_of r' (by rw [hlen]; omega), by rw [List.getElem?_map, hday]; rfl, ?_⟩
        rw [show ((z0 :: zs).map V.int).eraseIdx r.toNat = ((z0 :: zs).eraseIdx r.toNat).map V.int from erase_mapI _ _]
        have e3 := Fx.put (T := TB) (S := [dl]) (o := .lst (((z0 :: zs).eraseIdx r.toNat).map V.int)) hdG2 (by simp)
        have hdG3 : upd G2 dl (.lst (((z0 :: zs).eraseIdx r.toNat).map V.int)) dl = some (.lst (((z0 :: zs).eraseIdx r.toNat).map V.int)) := upd_same
        have hfG3 := e3.lst hfG2 (by simpa using hlf.symm)
        have DG3 : Deck (upd G2 dl (.lst (((z0 :: zs).eraseIdx r.toNat).map V.int))) d c := D2.put hdd
        have g3 : Fx TB [d, c, dl, fl] H (upd G2 dl (.lst (((z0 :: zs).eraseIdx r.toNat).map V.int))) := ((g.trans (y1.sub (by simp))).trans (e2.sub fun b hb => by
          simp only [List.mem_cons, List.not_mem_nil, or_false] at hb ⊢
          rcases hb with z | z <;> simp [z])).trans (e3.sub (by simp))
        have ys3 := ents_fx e3 (ents_fx e2 (ents_fx y1 hys))
        refine (?_ : ∀ G3, Fx TB [d, c, dl, fl] H G3 → Deck G3 d c → G3 dl = some (.lst (((z0 :: zs).eraseIdx r.toNat).map V.int)) → G3 fl = some (.lst ys) → Paired (IsEnt CT K G3) ys (done.flatMap (dayOf es)) → _) _ g3 DG3 hdG3 hfG3 ys3
        clear ys3 g3 DG3 hfG3 hdG3 e3 hfG2 hdG2
        intro G3 g3 DG3 hdG3 hfG3 ys3
        have hel3 := g3.lst hel (by simp only [List.mem_cons, List.not_mem_nil, or_false, not_or] at hed ⊢; exact ⟨hed.1, hed.2, hedl, hef⟩)
        have hes3 := ents_fx g3 hes
        refine ⟨_, rfl, .inl ⟨rfl, _, SqL.of hfG3⟩, _, rfl, el, rfl, ⟨_, SqL.of hel3⟩, fun M hM => lc_list (K := K) (a := el) (xs := xs) (fun m G' => ∃ qs, Fx TB [] G3 G' ∧ G' M = some (.lst qs) ∧ Paired (IsEnt CT K G') qs (dayOf (es.take m) day)) ⟨[], Fx.new hM, upd_same, by rw [List.take_zero]; exact .nil⟩
          (fun m G' _ ⟨_, g', _⟩ => SqL.of (g'.lst hel3 (by simp))) ?_ ?_⟩
        · rintro m x G' hx ⟨qs, g', hG', hqs⟩
          obtain ⟨e, he, p, q, rfl, hp, hq⟩ := paired_get (ents_fx g' hes3) hx
          have hmx : m < es.length := (List.getElem?_eq_some_iff.mp he).1
          have hdl' : dayOf (es.take (m + 1)) day = dayOf (es.take m) day ++ (if (e.1 == day) = true then [e] else []) := by
            unfold dayOf
            rw [List.take_add_one, he, List.filter_append]
            by_cases z : (e.1 == day) = true
            · simp [z]
            · simp [z]
          have hql : qs.length ≤ 100 := by
            rw [paired_len hqs]
            refine Nat.le_trans (List.length_filter_le _ _) ?_
            rw [List.length_take]; omega
          refine ⟨rfl, _, rfl, p, _, 0, _, rfl, rfl, hp, atI_nat (j := 0) rfl, _, rfl, rfl, _, rfl, ?_⟩
          by_cases hed : V.int e.1 = V.int day
          · rw [decide_eq_true hed]
            have hed' : e.1 = day := V.int.inj hed
            refine ⟨_, rfl, _, hG', lt_line (by omega), qs ++ [.ref p], g'.putN hG' hM, upd_same, ?_⟩
            rw [hdl', if_pos (by simpa using hed')]
            have y1 := Fx.put (T := TB) (S := [M]) (o := .lst (qs ++ [V.ref p])) hG' (by simp)
            exact Paired.snoc (ents_fx y1 hqs) ⟨p, q, rfl, y1.tup hp, hq.fx y1⟩
          · rw [decide_eq_false hed]
            refine ⟨qs, g', hG', ?_⟩
            rw [hdl', if_neg (fun z => hed (by rw [show e.1 = day by simpa using z])), List.append_nil]
            exact hqs
        · rintro G' ⟨qs, g', hG', hqs⟩
          rw [hxe, List.take_length] at hqs
          have hf4 := g'.lst hfG3 (by simp)
          have hd4 := g'.lst hdG3 (by simp)
          have c1 := flat_le (f := dayOf es) (n := 63) (l := done) fun a _ => Nat.le_trans (day_le es a) (by omega)
          have c2 := day_le es day
          have c3 : done.length ≤ 62 := by have := hpm.length_eq; rw [List.length_append] at this; omega
          have c4 : done.length * 63 ≤ 62 * 63 := Nat.mul_le_mul_right _ c3
          have l1 := paired_len ys3
          have l2 := paired_len hqs
          have y5 := Fx.put (T := TB) (S := [fl]) (o := .lst (ys ++ qs)) hf4 (by simp)
          refine ⟨fl, M, ys, qs, rfl, rfl, hf4, hG', ty_line (by omega), ⟨_, _, _, (z0 :: zs).eraseIdx r.toNat, done ++ [day], ys ++ qs, rfl, ?_, ?_, ?_, ?_, upd_same, ?_⟩, ?_⟩
          · exact (g3.trans (g'.sub (by simp))).trans (y5.sub (by simp))
          · exact (DG3.fx g' (by simp) (by simp)).put hfd
          · rw [upd_ne hlf]; exact hd4
          · rw [List.append_assoc]
            exact ((List.Perm.refl done).append hpe.symm).trans hpm
          · rw [List.flatMap_append, List.flatMap_cons, List.flatMap_nil, List.append_nil]
            exact paired_app (ents_fx y5 (ents_fx g' ys3)) (ents_fx y5 hqs)
          · unfold muL
            rw [upd_ne hlf, hd4, hdG]
            show (((z0 :: zs).eraseIdx r.toNat).map V.int).length < ((z0 :: zs).map V.int).length
            rw [List.length_map, List.length_map, List.length_eraseIdx_of_lt hkl]
            have : 0 < (z0 :: zs).length := by simp
            omega
    · intro σ H' Q1 Q2 h hc
      obtain ⟨v, e1, h0, f⟩ := hc
      exact ⟨v, e1, h0, fun p hp => let ⟨dd, e, a1, a2, a3, a4, kk, e5, q⟩ := f p hp; ⟨dd, e, a1, a2, a3, a4, kk, e5, h _ _ q⟩⟩
end
end K62
set_option Elab.async false
set_option linter.all false
set_option maxRecDepth 100000
set_option maxHeartbeats 2000000
namespace K62
open PySem PySem.Spec PyProof.Rows L2 LamX
abbrev st_law : Stmt := top 94
abbrev N_law : List PySem.Str := ["_law_script", "_law_deck_here", "_law_made", "_law_turn", "_law_house_here", "_law_pences", "_law_k", "_law_entries_here", "_law_journal_here", "_law_other", "_law_more"]
theorem sc_law : FnScope N_law ["_law_script"] (defScope st_law) := ⟨rfl, rfl, rfl, by decide +kernel, rfl, by decide +kernel, by decide +kernel⟩
end K62
set_option Elab.async false
set_option linter.all false
set_option maxRecDepth 100000
set_option maxHeartbeats 0
namespace HeadK62
open PySem PySem.Spec PyProof.Rows L2 K62
def d0 : He.DefD := ⟨("_law_deck", none), "_law_deck", "_law_deck", defArgs st_law_deck, defBody st_law_deck, defScope st_law_deck, [], []⟩
def d1 : He.DefD := ⟨("_law_draw", none), "_law_draw", "_law_draw", defArgs st_law_draw, defBody st_law_draw, defScope st_law_draw, [], []⟩
def d2 : He.DefD := ⟨("_law_house", none), "_law_house", "_law_house", defArgs st_law_house, defBody st_law_house, defScope st_law_house, [], []⟩
def d3 : He.DefD := ⟨("_law_pence", none), "_law_pence", "_law_pence", defArgs st_law_pence, defBody st_law_pence, defScope st_law_pence, [], []⟩
def d4 : He.DefD := ⟨("_law_word", none), "_law_word", "_law_word", defArgs st_law_word, defBody st_law_word, defScope st_law_word, [], []⟩
def d5 : He.DefD := ⟨("_law_many", none), "_law_many", "_law_many", defArgs st_law_many, defBody st_law_many, defScope st_law_many, [], []⟩
def d6 : He.DefD := ⟨("_law_tally", none), "_law_tally", "_law_tally", defArgs st_law_tally, defBody st_law_tally, defScope st_law_tally, [], []⟩
def d7 : He.DefD := ⟨("_law_deed", none), "_law_deed", "_law_deed", defArgs st_law_deed, defBody st_law_deed, defScope st_law_deed, [], []⟩
def d8 : He.DefD := ⟨("_law_entries", none), "_law_entries", "_law_entries", defArgs st_law_entries, defBody st_law_entries, defScope st_law_entries, [], []⟩
def d9 : He.DefD := ⟨("_law_shown", none), "_law_shown", "_law_shown", defArgs st_law_shown, defBody st_law_shown, defScope st_law_shown, [], []⟩
def d10 : He.DefD := ⟨("_law_text", none), "_law_text", "_law_text", defArgs st_law_text, defBody st_law_text, defScope st_law_text, [], []⟩
def d11 : He.DefD := ⟨("_law_journal", none), "_law_journal", "_law_journal", defArgs st_law_journal, defBody st_law_journal, defScope st_law_journal, [], []⟩
def d12 : He.DefD := ⟨("_law_other_order", none), "_law_other_order", "_law_other_order", defArgs st_law_other_order, defBody st_law_other_order, defScope st_law_other_order, [], []⟩
def d13 : He.DefD := ⟨("_law_is_text", none), "_law_is_text", "_law_is_text", defArgs st_law_is_text, defBody st_law_is_text, defScope st_law_is_text, [], []⟩
def d14 : He.DefD := ⟨("law", none), "law", "law", defArgs st_law, defBody st_law, defScope st_law, [], []⟩
def d15 : He.DefD := ⟨("Money", some "__init__"), "__init__", "Money.__init__", defArgs st_Money___init, defBody st_Money___init, defScope st_Money___init, [], []⟩
def d16 : He.DefD := ⟨("Money", some "__str__"), "__str__", "Money.__str__", defArgs st_Money___str, defBody st_Money___str, defScope st_Money___str, [], []⟩
def d17 : He.DefD := ⟨("Tally", some "__init__"), "__init__", "Tally.__init__", defArgs st_Tally___init, defBody st_Tally___init, defScope st_Tally___init, [.int 12], []⟩
def d18 : He.DefD := ⟨("figures_of", none), "figures_of", "figures_of", defArgs st_figures_of, defBody st_figures_of, defScope st_figures_of, [], []⟩
def d19 : He.DefD := ⟨("show_tally", none), "show_tally", "show_tally", defArgs st_show_tally, defBody st_show_tally, defScope st_show_tally, [], []⟩
def d20 : He.DefD := ⟨("is_whole_journals", none), "is_whole", "is_whole", defArgs st_is_whole_63, defBody st_is_whole_63, defScope st_is_whole_63, [], []⟩
def d21 : He.DefD := ⟨("is_of", none), "is_of", "is_of", defArgs st_is_of, defBody st_is_of, defScope st_is_of, [], []⟩
def d22 : He.DefD := ⟨("is_deed", none), "is_deed", "is_deed", defArgs st_is_deed, defBody st_is_deed, defScope st_is_deed, [], []⟩
def d23 : He.DefD := ⟨("Journal", some "__init__"), "__init__", "Journal.__init__", defArgs st_Journal___init, defBody st_Journal___init, defScope st_Journal___init, [.non], []⟩
def d24 : He.DefD := ⟨("Journal", some "__len__"), "__len__", "Journal.__len__", defArgs st_Journal___len, defBody st_Journal___len, defScope st_Journal___len, [], []⟩
def d25 : He.DefD := ⟨("Journal", some "tell"), "tell", "Journal.tell", defArgs st_Journal_tell, defBody st_Journal_tell, defScope st_Journal_tell, [], []⟩
def d26 : He.DefD := ⟨("Journal", some "by_days"), "by_days", "Journal.by_days", defArgs st_Journal_by_days, defBody st_Journal_by_days, defScope st_Journal_by_days, [], []⟩
def d27 : He.DefD := ⟨("written", none), "written", "written", defArgs st_written, defBody st_written, defScope st_written, [], []⟩
def d28 : He.DefD := ⟨("show_hand", none), "show_hand", "show_hand", defArgs st_show_hand, defBody st_show_hand, defScope st_show_hand, [], []⟩
def d29 : He.DefD := ⟨("show_journal", none), "show_journal", "show_journal", defArgs st_show_journal, defBody st_show_journal, defScope st_show_journal, [], []⟩
def fa0 : List He.Fa := [.glo "_law_deck", .glo "_law_draw", .glo "_law_house", .glo "_law_pence", .glo "_law_word", .glo "_law_many", .glo "_law_tally", .glo "_law_deed", .glo "_law_entries", .glo "_law_shown", .glo "_law_text", .glo "_law_journal"]
def fa1 : List He.Fa := [.glo "_law_other_order", .glo "_law_is_text", .glo "law", .glo "figures_of", .glo "show_tally", .glo "is_whole_journals", .glo "is_of", .glo "is_deed", .glo "written", .glo "show_hand", .glo "show_journal", .glo "Money"]
def fa2 : List He.Fa := [.glo "Tally", .glo "Journal", .glo "FORMS", .free "len", .free "range", .free "tuple", .free "list", .free "int", .free "str", .free "bool", .free "zip", .free "all"]
def fa3 : List He.Fa := [.free "sorted", .free "set", .free "divmod", .free "abs", .free "isinstance", .int "PENCE" 12, .int "SHILLINGS" 20, .str "FIGURES" "0123456789abcd", .cls "Money", .mkr "Money", .cls "Tally", .mkr "Tally"]
def fa4 : List He.Fa := [.cls "Journal", .mkr "Journal", .noat "Money" "pence", .noat "Tally" "blades", .noat "Tally" "dozen", .noat "Journal" "house_kept", .noat "Journal" "prices_kept", .noat "Journal" "judge_kept", .noat "Journal" "entries", .meth "Journal" "tell", .meth "Journal" "by_days", .meth "Money" "__str__"]
def fa5 : List He.Fa := [.meth "Journal" "__len__"]
def fa : List He.Fa := fa0 ++ (fa1 ++ (fa2 ++ (fa3 ++ (fa4 ++ (fa5)))))
def fn0 : List He.DefD := [d0, d1, d2, d3, d4, d5, d6, d7, d8, d9, d10, d11]
def fn1 : List He.DefD := [d12, d13, d14, d15, d16, d17, d18, d19, d20, d21, d22, d23]
def fn2 : List He.DefD := [d24, d25, d26, d27, d28, d29]
def fn : List He.DefD := fn0 ++ (fn1 ++ (fn2))
def forms_ : List (Str × He.Dv) := [("bring", .str "ttc"), ("give", .str "tt"), ("work", .str "tn"), ("waste", .str "tttm"), ("send", .str "tb")]
def ts : List He.Tab := [(fun K => He.ga K "FORMS", ["bring", "give", "work", "waste", "send"])]
def tf : List He.Defn := [("Journal", some "by_days")]
def ex (K : PySem.W.Frag) : Bool := He.valsB K (He.ga K "FORMS") forms_ &&
  (He.eqO (PySem.W.findIn K (.ref (He.ga K "Tally")) "__class__") (some (some (.builtin "object.__class__"))) && (He.eqO (PySem.W.specialIn K (.builtin "object.__class__") "__get__") (some (some (.builtin "getset_descriptor.__get__"))) &&
  (decide (PySem.W.takesIn K (.builtin "object.__class__") = some true) && (decide (PySem.W.mroIn K (He.ga K "Tally") (.type "object") = some true) &&
  (decide (PySem.W.kitOne K (.ref (He.ga K "Tally")) (.ref (He.ga K "Tally")) = some true) && (decide (PySem.W.kitOne K (.ref (He.ga K "Tally")) (.type "bool") = some false) &&
  (decide (PySem.W.kitOne K (.type "str") (.ref (He.ga K "Tally")) = some false) && (decide (PySem.W.kitOne K (.type "int") (.ref (He.ga K "Tally")) = some false) && decide (PySem.W.kitOne K (.type "bool") (.ref (He.ga K "Tally")) = some false)))))))))
abbrev R : PySem.W.OpenRow := PySem.W.OpenLaw.row PySem.Challenge.rw_littlemasters_k62_journals_written
abbrev qv : Program := PySem.W.view R.prog [94]
def cs_ : List PySem.Str := ["Money", "Tally", "Journal"]
def fs1_ : List PySem.Str := [("_law_deck" : PySem.Str), ("_law_draw" : PySem.Str), ("_law_house" : PySem.Str), ("_law_pence" : PySem.Str), ("_law_word" : PySem.Str), ("_law_many" : PySem.Str), ("_law_tally" : PySem.Str), ("_law_deed" : PySem.Str), ("_law_entries" : PySem.Str), ("_law_shown" : PySem.Str), ("_law_text" : PySem.Str), ("_law_journal" : PySem.Str)]
def fs2_ : List PySem.Str := [("_law_other_order" : PySem.Str), ("_law_is_text" : PySem.Str), ("law" : PySem.Str), ("figures_of" : PySem.Str), ("show_tally" : PySem.Str), ("is_whole_journals" : PySem.Str), ("is_of" : PySem.Str), ("is_deed" : PySem.Str), ("written" : PySem.Str), ("show_hand" : PySem.Str), ("show_journal" : PySem.Str), ("FORMS" : PySem.Str)]
def fs_ : List PySem.Str := fs1_ ++ fs2_
abbrev hk : PySem.W.Hook := LmH.hookN fs_ cs_ fa fn ts tf ex
def ob (s : PySem.W.SharedT) : He.AlX := LmH.lookN fs_ cs_ fa fn ts tf ex (HandSHeadRun.getT s)
theorem ob_eq (s : PySem.W.SharedT) : ob s = hk.obs s.abs := LmH.lookN_eq _ _ _ _ _ _ _ (HandSHeadRun.getT_eq s)
def names1 : List PySem.Str := [("_wall" : PySem.Str), ("Unlike" : PySem.Str), ("Lacking" : PySem.Str), ("NoShare" : PySem.Str), ("MasterError" : PySem.Str), ("NoName" : PySem.Str), ("Taken" : PySem.Str), ("NoBatch" : PySem.Str), ("NoWork" : PySem.Str), ("NotDone" : PySem.Str), ("NoHand" : PySem.Str), ("NoCraft" : PySem.Str)]
def names2 : List PySem.Str := [("NoMany" : PySem.Str), ("NoMark" : PySem.Str), ("NoFault" : PySem.Str), ("NoDay" : PySem.Str), ("NoDeed" : PySem.Str), ("Short" : PySem.Str), ("BARE" : PySem.Str), ("stand_of" : PySem.Str), ("PENCE" : PySem.Str), ("SHILLINGS" : PySem.Str), ("Money" : PySem.Str), ("total" : PySem.Str)]
def names3 : List PySem.Str := [("DOZENS" : PySem.Str), ("FIGURES" : PySem.Str), ("Tally" : PySem.Str), ("figures_of" : PySem.Str), ("show_tally" : PySem.Str), ("price_of" : PySem.Str), ("STANDS" : PySem.Str), ("HAFTED" : PySem.Str), ("FRESH" : PySem.Str), ("counts_of" : PySem.Str), ("many_of" : PySem.Str), ("there_of" : PySem.Str)]
def names4 : List PySem.Str := [("without" : PySem.Str), ("with_more" : PySem.Str), ("least_stand" : PySem.Str), ("worked" : PySem.Str), ("Batch" : PySem.Str), ("FAULTS" : PySem.Str), ("first_judge" : PySem.Str), ("is_done" : PySem.Str), ("hand_of" : PySem.Str), ("NOBODY" : PySem.Str), ("Ledger" : PySem.Str), ("LETTERS" : PySem.Str)]
def names5 : List PySem.Str := [("LONGEST" : PySem.Str), ("is_name" : PySem.Str), ("is_whole" : PySem.Str), ("is_whole_shops" : PySem.Str), ("Shop" : PySem.Str), ("FORMS" : PySem.Str), ("is_whole_journals" : PySem.Str), ("is_of" : PySem.Str), ("is_deed" : PySem.Str), ("bring_to" : PySem.Str), ("give_in" : PySem.Str), ("work_in" : PySem.Str)]
def names6 : List PySem.Str := [("waste_in" : PySem.Str), ("send_from" : PySem.Str), ("DOERS" : PySem.Str), ("done_to" : PySem.Str), ("Journal" : PySem.Str), ("written" : PySem.Str), ("show_hand" : PySem.Str), ("show_journal" : PySem.Str), ("_law_deck" : PySem.Str), ("_law_draw" : PySem.Str), ("_law_house" : PySem.Str), ("_law_pence" : PySem.Str)]
def names7 : List PySem.Str := [("_law_word" : PySem.Str), ("_law_many" : PySem.Str), ("_law_tally" : PySem.Str), ("_law_deed" : PySem.Str), ("_law_entries" : PySem.Str), ("_law_shown" : PySem.Str), ("_law_text" : PySem.Str), ("_law_journal" : PySem.Str), ("_law_other_order" : PySem.Str), ("_law_is_text" : PySem.Str)]
def names : List PySem.Str := names1 ++ (names2 ++ (names3 ++ (names4 ++ (names5 ++ (names6 ++ (names7))))))


end HeadK62
set_option Elab.async false
set_option linter.all false
set_option maxRecDepth 100000
set_option maxHeartbeats 0
namespace HeadK62
open PySem PySem.Spec PyProof.Rows L2 K62
theorem runX1 (w : World) : HandSHeadRun.RunEq R qv hk ob 12000 names (w.withFollow "special-get-raises" false) := by
  intro os
  kernel_rfl
end HeadK62
set_option Elab.async false
set_option linter.all false
set_option maxRecDepth 100000
set_option maxHeartbeats 0
namespace HeadK62
open PySem PySem.Spec PyProof.Rows L2 K62
theorem runX2 (w : World) : HandSHeadRun.RunEq R qv hk ob 12000 names (w.withFollow "special-get-raises" true) := by
  intro os
  kernel_rfl
end HeadK62
set_option Elab.async false
set_option linter.all false
namespace HeadK62
open PySem PySem.Spec PyProof.Rows L2 K62
theorem run (w : World) : HandSHeadRun.RunEq R qv hk ob 12000 names w :=
  PySem.W.byRow2 "special-get-raises" (P := fun w => HandSHeadRun.RunEq R qv hk ob 12000 names w) runX1 runX2 w
end HeadK62
set_option Elab.async false
set_option linter.all false
set_option maxRecDepth 100000
set_option maxHeartbeats 4000000
namespace K62
open PySem PySem.Spec PyProof.Rows L2 LamX
section
variable {P : Program} {w : World} {K : PySem.W.Frag} {mg : Str → Option Value} {base : Heap} {CJ CM CT : Addr}
theorem Deck.ninL {H : Hp} {d c l : Addr} (D : Deck H d c) (n : NewL H l) : l ∉ [d, c] := by
  obtain ⟨_, seed, cnt, cells, _, h1, h2⟩ := D
  have a := n.nel h1
  have b := n.nel h2
  simp [a, b]
/-- what one turn makes -/
structure Mj where
  (hl pl el j le : Addr)
  hs : List (Str × List Int)
  ps : List Int
  (xs ys : List V)
  es : List Ent
structure IsMj (CJ CM CT : Addr) (K : PySem.W.Frag) (H : Hp) (v : V) (m : Mj) : Prop where
  tup : ∃ p, v = .ref p ∧ SqT K H p [.ref m.hl, .ref m.pl, .ref m.el, .ref m.j]
  hou : IsHouse K H m.hl m.hs
  pen : H m.pl = some (.lst (m.ps.map V.int))
  ent : H m.el = some (.lst m.xs)
  ens : Paired (IsEnt CT K H) m.xs m.es
  few : m.es.length ≤ 60
  jou : IsJ CJ CM CT K H m.j m.le m.hs m.ps m.ys m.es
  ok : DatOk m.hs m.ps m.es
  own : m.le ≠ m.pl ∧ m.le ≠ m.el
def Free (S : List Addr) (m : Mj) : Prop := m.pl ∉ S ∧ m.el ∉ S ∧ m.le ∉ S
theorem IsMj.fx {T : List (Addr × Str)} {S : List Addr} {H H1 : Hp} {v : V} {m : Mj} (e : Fx T S H H1) (n : Free S m) (x : IsMj CJ CM CT K H v m) : IsMj CJ CM CT K H1 v m := by
  obtain ⟨⟨p, h1, h2⟩, h3, h4, h5, h6, h7, h8, h9, h10⟩ := x
  exact ⟨⟨p, h1, e.tup h2⟩, h3.fx e, e.lst h4 n.1, e.lst h5 n.2.1, ents_fx e h6, h7, h8.fx e n.2.2, h9, h10⟩
def Apart (a b : Mj) : Prop := a.le ≠ b.pl ∧ a.le ≠ b.el ∧ a.le ≠ b.le
/-- what the turns have made -/
structure Made (CJ CM CT : Addr) (K : PySem.W.Frag) (H : Hp) (d c ml : Addr) (vs : List V) (ms : List Mj) : Prop where
  at_ : H ml = some (.lst vs)
  all : Paired (IsMj CJ CM CT K H) vs ms
  fr : ∀ m ∈ ms, Free [d, c, ml] m
  ap : ms.Pairwise Apart
theorem mjs_fx {T : List (Addr × Str)} {S : List Addr} {H H1 : Hp} : ∀ {vs : List V} {ms : List Mj}, Fx T S H H1 → (∀ m ∈ ms, Free S m) → Paired (IsMj CJ CM CT K H) vs ms → Paired (IsMj CJ CM CT K H1) vs ms
  | _, _, _, _, .nil => .nil
  | _, _, e, n, .cons h t => .cons (h.fx e (n _ (List.mem_cons_self ..))) (mjs_fx e (fun m hm => n m (List.mem_cons_of_mem _ hm)) t)
theorem Free.sub {S S' : List Addr} {m : Mj} (h : Free S m) (q : ∀ b ∈ S', b ∈ S) : Free S' m := ⟨fun z => h.1 (q _ z), fun z => h.2.1 (q _ z), fun z => h.2.2 (q _ z)⟩
def spLaw (PB : Addr) (K : PySem.W.Frag) : Sp := fun vs H Q _ => ∃ (a : Addr) (ns : List Int), vs = [.ref a] ∧ SqL K H a (ns.map V.int) ∧ Tabs (TBq PB) H ∧ ∀ H', Q (.bl true) H'
theorem pair_get {α β : Type} {F : α → β → Prop} {xs : List α} {ys : List β} {i : Nat} {x : α} (h : Paired F xs ys) (e : xs[i]? = some x) : ∃ y, ys[i]? = some y ∧ F x y := paired_get h e
theorem pmem {α β : Type} {F : α → β → Prop} : ∀ {xs : List α} {ys : List β} {y : β}, Paired F xs ys → y ∈ ys → ∃ x, x ∈ xs ∧ F x y
  | _, _, _, .nil, h => by simp at h
  | _, _, _, .cons f t, h => by
    rcases List.mem_cons.mp h with h | h
    · subst h; exact ⟨_, List.mem_cons_self .., f⟩
    · obtain ⟨x, h1, h2⟩ := pmem t h
      exact ⟨x, List.mem_cons_of_mem _ h1, h2⟩
theorem free_take {ms : List Mj} {i : Nat} {m : Mj} {S : List Addr} (hap : ms.Pairwise Apart) (hm : ms[i]? = some m) (h : Free S m) : Free (S ++ (ms.take i).map Mj.le) m := by
  have key : ∀ a ∈ ms.take i, Apart a m := fun a ha => by
    obtain ⟨j, hj, e⟩ := List.mem_iff_getElem.mp ha
    obtain ⟨hi, e2⟩ := List.getElem?_eq_some_iff.mp hm
    rw [List.length_take] at hj
    rw [List.getElem_take] at e
    subst e e2
    exact List.pairwise_iff_getElem.mp hap j i (by omega) hi (by omega)
  refine ⟨fun z => ?_, fun z => ?_, fun z => ?_⟩
  · rcases List.mem_append.mp z with z | z
    · exact h.1 z
    · obtain ⟨a, ha, e⟩ := List.mem_map.mp z
      exact (key a ha).1 e
  · rcases List.mem_append.mp z with z | z
    · exact h.2.1 z
    · obtain ⟨a, ha, e⟩ := List.mem_map.mp z
      exact (key a ha).2.1 e
  · rcases List.mem_append.mp z with z | z
    · exact h.2.2 z
    · obtain ⟨a, ha, e⟩ := List.mem_map.mp z
      exact (key a ha).2.2 e
theorem ok_law {f fDk fD fH fP fE fJ fT fI fO fDe fS fTe : Addr} {fd fdDk fdD fdH fdP fdE fdJ fdT fdI fdO fdDe fdS fdTe : FuncData} {PB : Addr} (F : FnP K "law" "law" st_law [] f fd) (T : Nm mg) (TJ : ClJ K CJ)
    (C_law_deck : Cal P w K mg base 1 "_law_deck" fDk fdDk ["_law_script"] (spDeck (TBq PB) K))
    (C_law_draw : Cal P w K mg base 1 "_law_draw" fD fdD ["_law_deck_here", "_law_most"] (spDraw (TBq PB)))
    (C_law_house : Cal P w K mg base 3 "_law_house" fH fdH ["_law_deck_here"] (spHouse (TBq PB) K))
    (C_law_pence : Cal P w K mg base 3 "_law_pence" fP fdP ["_law_deck_here"] (spPence (TBq PB)))
    (C_law_entries : Cal P w K mg base 6 "_law_entries" fE fdE ["_law_deck_here", "_law_house_here"] (spEntries (TBq PB) CT K))
    (C_law_journal : Cal P w K mg base 5 "_law_journal" fJ fdJ ["_law_house_here", "_law_pences", "_law_entries_here"] (spJournal (TBq PB) CJ CM CT K))
    (C_law_text : Cal P w K mg base 3 "_law_text" fT fdT ["_law_house_here", "_law_pences", "_law_entries_here"] (spText (TBq PB) CT K))
    (C_law_is_text : Cal P w K mg base 6 "_law_is_text" fI fdI ["_law_journal_here", "_law_text_here", "_law_many_here"] (spIsText PB CJ CM CT K))
    (C_law_other_order : Cal P w K mg base 3 "_law_other_order" fO fdO ["_law_deck_here", "_law_entries_here"] (spOrder (TBq PB) CT K))
    (C_law_deed : Cal P w K mg base 5 "_law_deed" fDe fdDe ["_law_deck_here", "_law_house_here"] (spDeed (TBq PB) CT K))
    (C_show_journal : Cal P w K mg base 5 "show_journal" fS fdS ["journal"] (spShow PB CJ CM CT K))
    (J_tell : Met P w K mg base 4 CJ "tell" fTe fdTe ["self", "day", "deed"] (spTell (TBq PB) CJ CT K)) :
    FnOk P w K mg base CX0 7 f fd ["_law_script"] (spLaw PB K) := by
  refine F.ok sc_law (fun vs H Q E h => ?_) (fun cdv A outer s H vs Q E hr h => ?_)
  · obtain ⟨a, ns, rfl, _⟩ := h
    rfl
  · obtain ⟨a, ns, rfl, hs, hT0, k⟩ := h
    refine ⟨_, (PSs.nox (pss_cons (ps_set (i := 1) sc_law.nd rfl (Or.inr rfl) (pe_call C_law_deck.G (hr.mono (by decide)) rfl C_law_deck.g C_law_deck.kp C_law_deck.b .nil pass0 (pa_cons (pv 0) pa_nil)))
  (pss_cons (ps_set (i := 2) sc_law.nd rfl (Or.inl rfl) (pe_lst pa_nil))
  (pss_cons (ps_for PassesOwn.never rfl (pi_range1 (by rfl) T.n_range (pa_cons pe_int pa_nil)) (pg_name (i := 3) sc_law.nd rfl (Or.inl rfl))
  (pss_cons (ps_set (i := 4) sc_law.nd rfl (Or.inl rfl) (pe_call C_law_house.G (hr.mono (by decide)) rfl C_law_house.g C_law_house.kp C_law_house.b .nil pass0 (pa_cons (pv 1) pa_nil)))
  (pss_cons (ps_setLc (i := 5) (own := [("_law_k", 6)]) rfl sc_law.nd rfl rfl (sw_true rfl rfl rfl (by decide +kernel)) (pi_range1 (by rfl) T.n_range (pa_cons pe_int pa_nil)) (blkOk_by (N := N_law) (sc := defScope st_law) (own := [("_law_k", 6)]) (by decide +kernel)) (fun _ _ _ _ _ => (pg_name (i := 6) sc_law.nd rfl (Or.inl rfl))) (fun _ _ _ _ _ => pts_nil) (fun _ _ _ _ _ => (pe_call C_law_pence.G (hr.mono (by decide)) rfl C_law_pence.g C_law_pence.kp C_law_pence.b .nil pass0 (pa_cons (pv 1) pa_nil))))
  (pss_cons (ps_set (i := 7) sc_law.nd rfl (Or.inl rfl) (pe_call C_law_entries.G (hr.mono (by decide)) rfl C_law_entries.g C_law_entries.kp C_law_entries.b .nil pass0 (pa_cons (pv 1) (pa_cons (pv 4) pa_nil))))
  (pss_one (ps_expr (Kx.bm (K := K) PySem.F.plainAttrs_list PySem.F.slot_list_append PySem.F.type_list_append mt_append (pv 2) (pa_cons (pe_tup (pa_cons (pv 4) (pa_cons (pv 5) (pa_cons (pv 7) (pa_cons (pe_call C_law_journal.G (hr.mono (by decide)) rfl C_law_journal.g C_law_journal.kp C_law_journal.b .nil pass0 (pa_cons (pv 4) (pa_cons (pv 5) (pa_cons (pv 7) pa_nil)))) pa_nil))))) pa_nil))))))))
  (pss_cons (ps_for PassesOwn.never rfl (Kx.pi_list (K := K) (pe_op op_cat (pv 2) (pv 2))) (Kx.pg_tup (K := K) (n := 4) (by rfl) (pgs_cons (pg_name (i := 4) sc_law.nd rfl (Or.inl rfl)) (pgs_cons (pg_name (i := 5) sc_law.nd rfl (Or.inl rfl)) (pgs_cons (pg_name (i := 7) sc_law.nd rfl (Or.inl rfl)) (pgs_cons (pg_name (i := 8) sc_law.nd rfl (Or.inl rfl)) pgs_nil)))))
  (pss_one (ps_if (pt_not (pt_val (pe_call C_law_is_text.G (hr.mono (by decide)) rfl C_law_is_text.g C_law_is_text.kp C_law_is_text.b .nil pass0 (pa_cons (pv 8) (pa_cons (pe_call C_law_text.G (hr.mono (by decide)) rfl C_law_text.g C_law_text.kp C_law_text.b .nil pass0 (pa_cons (pv 4) (pa_cons (pv 5) (pa_cons (pv 7) pa_nil)))) (pa_cons (pe_callB (id := "len") (Kx.len (K := K)) (by rfl) T.n_len (by decide +kernel) (pa_cons (pv 7) pa_nil)) pa_nil))))))
  (pss_one (ps_ret pe_bl))
  pss_nil)))
  (pss_cons (ps_for PassesOwn.never rfl (Kx.pi_list (K := K) (pv 2)) (Kx.pg_tup (K := K) (n := 4) (by rfl) (pgs_cons (pg_name (i := 4) sc_law.nd rfl (Or.inl rfl)) (pgs_cons (pg_name (i := 5) sc_law.nd rfl (Or.inl rfl)) (pgs_cons (pg_name (i := 7) sc_law.nd rfl (Or.inl rfl)) (pgs_cons (pg_name (i := 8) sc_law.nd rfl (Or.inl rfl)) pgs_nil)))))
  (pss_cons (ps_set (i := 9) sc_law.nd rfl (Or.inl rfl) (pe_call C_law_journal.G (hr.mono (by decide)) rfl C_law_journal.g C_law_journal.kp C_law_journal.b .nil pass0 (pa_cons (pv 4) (pa_cons (pv 5) (pa_cons (pe_call C_law_other_order.G (hr.mono (by decide)) rfl C_law_other_order.g C_law_other_order.kp C_law_other_order.b .nil pass0 (pa_cons (pv 1) (pa_cons (pv 7) pa_nil))) pa_nil)))))
  (pss_cons (ps_if (pt_cmpR op_ne (pe_call C_show_journal.G (hr.mono (by decide)) rfl C_show_journal.g C_show_journal.kp C_show_journal.b .nil pass0 (pa_cons (pv 9) pa_nil)) (pe_call C_show_journal.G (hr.mono (by decide)) rfl C_show_journal.g C_show_journal.kp C_show_journal.b .nil pass0 (pa_cons (pv 8) pa_nil)) (nomark _))
  (pss_one (ps_ret pe_bl))
  pss_nil)
  (pss_cons (ps_set (i := 10) sc_law.nd rfl (Or.inl rfl) (pe_tup (pa_cons (pe_ix (Kx.ix_list (K := K)) (pe_lst (pa_cons (pe_call C_law_draw.G (hr.mono (by decide)) rfl C_law_draw.g C_law_draw.kp C_law_draw.b .nil pass0 (pa_cons (pv 1) (pa_cons pe_int pa_nil))) (pa_cons (pe_op op_pow pe_int pe_int) (pa_cons pe_int (pa_cons pe_int (pa_cons pe_int (pa_cons pe_int pa_nil))))))) (pe_call C_law_draw.G (hr.mono (by decide)) rfl C_law_draw.g C_law_draw.kp C_law_draw.b .nil pass0 (pa_cons (pv 1) (pa_cons pe_int pa_nil))) (fun _ _ => rfl)) (pa_cons (pe_call C_law_deed.G (hr.mono (by decide)) rfl C_law_deed.g C_law_deed.kp C_law_deed.b .nil pass0 (pa_cons (pv 1) (pa_cons (pv 4) pa_nil))) pa_nil))))
  (pss_cons (ps_expr (pe_meth (pv 8) TJ.cl J_tell.m J_tell.G (hr.mono (by decide)) J_tell.b .nil pass0 (pa_cons (pe_ix (Kx.ix_tup (K := K)) (pv 10) pe_int (fun _ _ => rfl)) (pa_cons (pe_ix (Kx.ix_tup (K := K)) (pv 10) pe_int (fun _ _ => rfl)) pa_nil))))
  (pss_cons (ps_if (pt_not (pt_val (pe_call C_law_is_text.G (hr.mono (by decide)) rfl C_law_is_text.g C_law_is_text.kp C_law_is_text.b .nil pass0 (pa_cons (pv 8) (pa_cons (pe_call C_law_text.G (hr.mono (by decide)) rfl C_law_text.g C_law_text.kp C_law_text.b .nil pass0 (pa_cons (pv 4) (pa_cons (pv 5) (pa_cons (pe_op op_cat (pv 7) (pe_lst (pa_cons (pv 10) pa_nil))) pa_nil)))) (pa_cons (pe_op op_add (pe_callB (id := "len") (Kx.len (K := K)) (by rfl) T.n_len (by decide +kernel) (pa_cons (pv 7) pa_nil)) pe_int) pa_nil))))))
  (pss_one (ps_ret pe_bl))
  pss_nil)
  (pss_one (ps_if (pt_cmpR op_ne (pe_call C_show_journal.G (hr.mono (by decide)) rfl C_show_journal.g C_show_journal.kp C_show_journal.b .nil pass0 (pa_cons (pv 9) pa_nil)) (pe_call C_law_text.G (hr.mono (by decide)) rfl C_law_text.g C_law_text.kp C_law_text.b .nil pass0 (pa_cons (pv 4) (pa_cons (pv 5) (pa_cons (pv 7) pa_nil)))) (nomark _))
  (pss_one (ps_ret pe_bl))
  pss_nil))))))))
  (pss_one (ps_ret pe_bl)))))))), ?_⟩
    refine ⟨_, rfl, a, ns, rfl, hs, fun d c H1 e1 D1 => ?_⟩
    have hT1 := e1.tabs hT0
    clear e1 hs hT0
    refine ⟨Nat.zero_le _, fun ml hml => ?_⟩
    have hT2 := (Fx.new (T := TBq PB) (S := []) (o := .lst []) hml).tabs hT1
    have D2 := D1.new (o := .lst []) hml
    have nml := D1.nin hml
    have hm0 : upd H1 ml (.lst []) ml = some (.lst []) := upd_same
    refine (?_ : ∀ HR, Tabs (TBq PB) HR → Deck HR d c → HR ml = some (.lst []) → _) _ hT2 D2 hm0
    clear hT2 D2 hm0 hml hT1 D1 H1
    intro H1 hT1 D1 hml
    refine ⟨_, rfl, by decide, by decide, for_range (lo := 0) (n := 2) (fun i σ G => ∃ v3 v4 v5 v6 v7 v8 v9 v10 vs ms, σ = [some (.ref a), some (.ref d), some (.ref ml), v3, v4, v5, v6, v7, v8, v9, v10] ∧ Tabs (TBq PB) G ∧ Deck G d c ∧ Made CJ CM CT K G d c ml vs ms ∧ ms.length = i)
      ⟨_, _, _, _, _, _, _, _, [], [], rfl, hT1, D1, ⟨hml, .nil, by simp, .nil⟩, rfl⟩ ?_ ?_⟩
    · rintro i σ G hi ⟨v3, v4, v5, v6, v7, v8, v9, v10, vs, ms, rfl, hT, D, M, hlen⟩
      have nM : ∀ m ∈ ms, Free [d, c] m := fun m hm => (M.fr m hm).sub (by simp)
      refine ⟨_, rfl, d, c, rfl, D, fun hl hs Ha e1 Da hh okh => ?_⟩
      refine ⟨5, rfl, by decide, by decide, fun L hL => lc_range (lo := 0) (n := 5) (fun j G' => ∃ ps : List Int, Fx (TBq PB) [d, c] Ha G' ∧ Deck G' d c ∧ G' L = some (.lst (ps.map V.int)) ∧ ps.length = j ∧ ∀ p ∈ ps, PenceOk p)
        ⟨[], Fx.new hL, Da.new hL, upd_same, rfl, by simp⟩ ?_ ?_⟩
      · rintro j G' hj ⟨ps, e2, D2, hps, hpl, hpo⟩
        refine ⟨rfl, _, rfl, d, c, rfl, D2, fun n H2 n0 n1 e3 D3 => ?_⟩
        have h1 := e3.lst hps (Da.nin hL)
        refine ⟨_, h1, by rw [List.length_map]; exact lt_line (by omega), ps ++ [n], (e2.trans e3).putN h1 hL, D3.put (Da.nin hL), by rw [upd_same]; simp, by simp; omega, fun q hq => ?_⟩
        rcases List.mem_append.mp hq with hq | hq
        · exact hpo q hq
        · have : q = n := by simpa using hq
          subst this
          exact ⟨n0, n1⟩
      rintro Hb ⟨ps, e2, Db, hps, hpl, hpo⟩
      have nL : L ∉ [d, c] := Da.nin hL
      have eb := e1.trans e2
      have nLG : NewL G L := (NewL.of hL).back e1 nL
      refine ⟨_, rfl, _, rfl, d, c, hl, hs, rfl, Db, hh.fx e2, okh, fun el xs es Hc nel hel hes hel60 heo e3 Dc => ?_⟩
      have ec := eb.trans e3
      have nelb : el ∉ [d, c] := Db.ninL nel
      have nelG : NewL G el := nel.back eb nelb
      have hpsc := e3.lst hps nL
      have hmlc := ec.lst M.at_ nml
      have hdat : DatOk hs ps es := ⟨okh, ⟨by omega, hpo⟩, ⟨by omega, heo⟩⟩
      refine ⟨_, rfl, .inl ⟨rfl, _, SqL.of hmlc⟩, _, rfl, _, rfl, _, rfl, _, rfl, _, rfl, _, rfl, hl, L, el, hs, ps, xs, es, rfl, hh.fx (e2.trans e3), hpsc, hel, hes, hdat, fun j le ys Hd nle hj e4 => ⟨by show 4 ≤ sizeLine; decide, fun p hp => ?_⟩⟩
      have ed := ec.trans (e4.sub (by simp))
      have e5 := Fx.new (T := TBq PB) (S := [d, c]) (o := .tup [.ref hl, .ref L, .ref el, .ref j]) hp
      have ee := ed.trans e5
      have e45 : Fx (TBq PB) [] Hc (upd Hd p (.tup [.ref hl, .ref L, .ref el, .ref j])) := e4.trans (Fx.new hp)
      have hmle := ee.lst M.at_ nml
      have nleb : le ∉ [d, c] := Dc.ninL nle
      have nleG : NewL G le := nle.back ec nleb
      have e6 : Fx (TBq PB) [ml] (upd Hd p (.tup [.ref hl, .ref L, .ref el, .ref j])) (upd (upd Hd p (.tup [.ref hl, .ref L, .ref el, .ref j])) ml (.lst (vs ++ [.ref p]))) := Fx.put hmle (by simp)
      have hvl := paired_len M.all
      have dL : L ≠ ml := nLG.nel M.at_
      have del : el ≠ ml := nelG.nel M.at_
      have dle : le ≠ ml := nleG.nel M.at_
      have dleL : le ≠ L := nle.nel hpsc
      have dlee : le ≠ el := nle.nel hel
      have hdisj : ∀ (q : Addr), q ≠ ml → q ∉ [d, c] → q ∉ [d, c, ml] := fun q h1 h2 => by
        simp only [List.mem_cons, List.not_mem_nil, or_false, not_or] at h2 ⊢
        exact ⟨h2.1, h2.2, h1⟩
      refine ⟨ml, vs, _, rfl, rfl, hmle, lt_line (by omega), _, _, _, _, _, _, _, _, vs ++ [.ref p], ms ++ [⟨hl, L, el, j, le, hs, ps, xs, ys, es⟩], rfl, e6.tabs (ee.tabs hT), ?_, ⟨upd_same, ?_, ?_, ?_⟩, by simp [hlen]⟩
      · exact ((Dc.fx e45 (by simp) (by simp))).put nml
      · refine (mjs_fx (ee.sub (by simp)|>.trans (e6.sub (by simp))) M.fr M.all).snoc ?_
        refine IsMj.fx (S := [ml]) e6 ⟨by simpa using dL, by simpa using del, by simpa using dle⟩ ⟨⟨p, rfl, SqT.of upd_same⟩, hh.fx ((e2.trans e3).trans (e45.sub (by simp))), e45.lst hpsc (by simp), e45.lst hel (by simp), ents_fx e45 hes, hel60, ?_, hdat, dleL, dlee⟩
        exact IsJ.fx (Fx.new (T := TBq PB) (S := []) hp) (by simp) hj
      · intro m hm
        rcases List.mem_append.mp hm with hm | hm
        · exact M.fr m hm
        · have : m = ⟨hl, L, el, j, le, hs, ps, xs, ys, es⟩ := by simpa using hm
          subst this
          exact ⟨hdisj _ dL nL, hdisj _ del nelb, hdisj _ dle nleb⟩
      · rw [List.pairwise_append]
        refine ⟨M.ap, by simp, fun m hm m' hm' => ?_⟩
        have : m' = ⟨hl, L, el, j, le, hs, ps, xs, ys, es⟩ := by simpa using hm'
        subst this
        obtain ⟨v, hv, hmj⟩ := pmem M.all hm
        have hle' := hmj.jou.le_
        exact ⟨(nLG.nel hle').symm, (nelG.nel hle').symm, (nleG.nel hle').symm⟩
    · rintro σ G ⟨v3, v4, v5, v6, v7, v8, v9, v10, vs, ms, rfl, hT, D, M, hlen⟩
      have hvl := paired_len M.all
      refine ⟨_, rfl, _, rfl, ml, ml, vs, vs, rfl, rfl, M.at_, M.at_, ty_line (by omega), fun l2 hl2 => ?_⟩
      have e1 := Fx.new (T := TBq PB) (S := []) (o := .lst (vs ++ vs)) hl2
      have hT1 := e1.tabs hT
      have D1 := D.new (o := .lst (vs ++ vs)) hl2
      have at1 := e1.lst M.at_ (by simp)
      have all1 := mjs_fx e1 (fun m _ => ⟨by simp, by simp, by simp⟩) M.all
      have hl2' : upd G l2 (.lst (vs ++ vs)) l2 = some (.lst (vs ++ vs)) := upd_same
      have hfr := M.fr
      have hap := M.ap
      refine (?_ : ∀ HR, Tabs (TBq PB) HR → Deck HR d c → HR ml = some (.lst vs) → Paired (IsMj CJ CM CT K HR) vs ms → HR l2 = some (.lst (vs ++ vs)) → _) _ hT1 D1 at1 all1 hl2'
      clear hT1 D1 at1 all1 hl2' e1 hl2 M D hT G
      intro G hT D hml hall hl2
      refine ⟨l2, rfl, ⟨_, SqL.of hl2⟩, for_list (K := K) (a := l2) (xs := vs ++ vs) (fun i σ G' => ∃ v3 v4 v5 v6 v7 v8 v9 v10, σ = [some (.ref a), some (.ref d), some (.ref ml), v3, v4, v5, v6, v7, v8, v9, v10] ∧ Fx (TBq PB) [] G G')
        ⟨_, _, _, _, _, _, _, _, rfl, Fx.refl _⟩ (fun i σ G' _ ⟨_, _, _, _, _, _, _, _, _, e⟩ => SqL.of (e.lst hl2 (by simp))) ?_ ?_⟩
      · rintro i x σ G' hx ⟨v3, v4, v5, v6, v7, v8, v9, v10, rfl, e⟩
        obtain ⟨m, hm, X⟩ := paired_get (paired_app hall hall) hx
        obtain ⟨⟨p, rfl, htup⟩, hhou, hpen, hent, hens, hfew, hjou, hok, hown⟩ := X.fx e ⟨by simp, by simp, by simp⟩
        have hxe := paired_len hens
        refine ⟨p, _, rfl, htup, rfl, _, _, rfl, _, _, rfl, _, _, rfl, _, _, rfl, rfl, ?_⟩
        refine ⟨_, rfl, _, rfl, _, rfl, _, rfl, m.hl, m.pl, m.el, m.hs, m.ps, m.xs, m.es, rfl, hhou, hpen, hent, hens, hok, by omega, fun rs H2 hrs e2 => ?_⟩
        refine ⟨_, rfl, _, _, rfl, .inl ⟨_, SqL.of (e2.lst hent (by simp)), rfl⟩, m.j, m.le, m.hs, m.ps, m.ys, m.es, textS m.hs m.ps rs, (show [V.ref m.j, V.str (textS m.hs m.ps rs), V.int (m.xs.length : Int)] = _ from by rw [hxe]), hjou.fx e2 (by simp), hok, e2.tabs (e.tabs hT), fun rs' h' => by rw [hrs.inj h'], fun H3 e3 => ?_⟩
        exact ⟨_, rfl, _, _, _, _, _, _, _, _, rfl, (e.trans e2).trans e3⟩
      rintro σ G' ⟨v3, v4, v5, v6, v7, v8, v9, v10, rfl, e⟩
      have hT1 := e.tabs hT
      have D1 := D.fx e (by simp) (by simp)
      have hml1 := e.lst hml (by simp)
      have hall1 := mjs_fx e (fun m _ => ⟨by simp, by simp, by simp⟩) hall
      refine (?_ : ∀ HR, Tabs (TBq PB) HR → Deck HR d c → HR ml = some (.lst vs) → Paired (IsMj CJ CM CT K HR) vs ms → _) _ hT1 D1 hml1 hall1
      clear hT1 D1 hml1 hall1 e hl2 hall hml D hT G G'
      intro G hT D hml hall
      have hmlS : ∀ i, ml ∉ [d, c] ++ (ms.take i).map Mj.le := fun i z => by
        rcases List.mem_append.mp z with z | z
        · exact nml z
        · obtain ⟨m, hm, e⟩ := List.mem_map.mp z
          have := (hfr m (List.mem_of_mem_take hm)).2.2
          rw [e] at this
          simp at this
      refine ⟨_, rfl, ml, rfl, ⟨_, SqL.of hml⟩, for_list (K := K) (a := ml) (xs := vs) (fun i σ G' => ∃ v3 v4 v5 v6 v7 v8 v9 v10, σ = [some (.ref a), some (.ref d), some (.ref ml), v3, v4, v5, v6, v7, v8, v9, v10] ∧ Fx (TBq PB) ([d, c] ++ (ms.take i).map Mj.le) G G' ∧ Deck G' d c)
        ⟨_, _, _, _, _, _, _, _, rfl, Fx.refl _, D⟩ (fun i σ G' _ ⟨_, _, _, _, _, _, _, _, _, e, _⟩ => SqL.of (e.lst hml (hmlS i))) ?_ ?_⟩
      · rintro i x σ G' hx ⟨v3, v4, v5, v6, v7, v8, v9, v10, rfl, e, D1⟩
        obtain ⟨m, hm, X⟩ := paired_get hall hx
        have hmm := List.mem_of_getElem? hm
        have hfm := hfr m hmm
        have hdc : Free [d, c] m := hfm.sub (by simp)
        have hfS : Free ([d, c] ++ (ms.take i).map Mj.le) m := free_take hap hm hdc
        obtain ⟨⟨p, rfl, htup⟩, hhou, hpen, hent, hens, hfew, hjou, hok, hown⟩ := X.fx e hfS
        have hT1 := e.tabs hT
        have hxe := paired_len hens
        have hok' := hok
        obtain ⟨okh, ⟨okp, okp2⟩, ⟨oke, oke2⟩⟩ := hok'
        refine ⟨p, _, rfl, htup, rfl, _, _, rfl, _, _, rfl, _, _, rfl, _, _, rfl, rfl, ?_⟩
        refine ⟨_, rfl, _, rfl, _, rfl, _, rfl, d, c, m.el, m.xs, m.es, rfl, D1, hent, hdc.2.1, hens, by omega, fun ol ys es' H1 nol hol hys hl' hmem hsame e1 D2 => ?_⟩
        have hdat' : DatOk m.hs m.ps es' := ⟨okh, ⟨okp, okp2⟩, ⟨by omega, fun q hq => oke2 q (hmem q hq)⟩⟩
        refine ⟨m.hl, m.pl, ol, m.hs, m.ps, ys, es', rfl, hhou.fx e1, e1.lst hpen hdc.1, hol, hys, hdat', fun oj ole oys H2 nole hoj e2 => ?_⟩
        have e12 := e1.trans (e2.sub (S' := [d, c]) (by simp))
        have hle1 := e1.lst hjou.le_ hdc.2.2
        have dle : ole ≠ m.le := nole.nel hle1
        have hj2 := hjou.fx e12 hdc.2.2
        have hT2 := e12.tabs hT1
        refine ⟨_, rfl, oj, ole, m.hs, m.ps, oys, es', rfl, hoj, hdat', hT2, fun rs1 H3 hrs1 e3 => ?_⟩
        refine ⟨_, rfl, m.j, m.le, m.hs, m.ps, m.ys, m.es, rfl, hj2.fx e3 (by simp), hok, e3.tabs hT2, fun rs2 H4 hrs2 e4 => ?_⟩
        have hrs1' : Byd m.es rs1 := hsame.byd hrs1
        clear C_law_deck C_law_draw C_law_house C_law_pence C_law_entries C_law_journal C_law_text C_law_is_text C_law_other_order C_law_deed C_show_journal J_tell F T TJ
        refine ⟨rfl, _, rfl, ?_⟩
        rw [decide_eq_true (show V.str (textS m.hs m.ps rs1) = V.str (textS m.hs m.ps rs2) by rw [hrs1'.inj hrs2])]
        have e34 := e3.trans e4
        have e14 := e12.trans (e34.sub (S' := [d, c]) (by simp))
        have D4 : Deck H4 d c := D2.fx (e2.trans e34) (by simp) (by simp)
        have hj4 := hj2.fx e34 (by simp)
        have hoj4 := hoj.fx e34 (by simp)
        have hpen4 := e14.lst hpen hdc.1
        have hent4 := e14.lst hent hdc.2.1
        have hens4 := ents_fx e14 hens
        have hhou4 := hhou.fx e14
        have nole' : ole ∉ [d, c] := D2.ninL nole
        refine (?_ : ∀ HR, Fx (TBq PB) ([d, c] ++ (ms.take i).map Mj.le) G HR → Tabs (TBq PB) HR → Deck HR d c → IsJ CJ CM CT K HR m.j m.le m.hs m.ps m.ys m.es → IsJ CJ CM CT K HR oj ole m.hs m.ps oys es' → HR m.pl = some (.lst (m.ps.map V.int)) → HR m.el = some (.lst m.xs) → Paired (IsEnt CT K HR) m.xs m.es → IsHouse K HR m.hl m.hs → _) _ (e.trans (e14.sub (by simp +contextual))) (e14.tabs hT1) D4 hj4 hoj4 hpen4 hent4 hens4 hhou4
        clear hhou4 hens4 hent4 hpen4 hoj4 hj4 D4 e14 e34 hrs2 hrs1 hrs1' e4 e3 hT2 hj2 hle1 e12 e2 hoj D2 e1 hys hol nol hjou hens hent hpen hhou htup D1 e hT1 nole
        clear H1 H2 H3 H4 G'
        intro G' e hT1 D1 hj hoj hpen hent hens hhou
        refine ⟨_, rfl, d, c, _, rfl, D1, by decide, by decide, fun n H1 n0 n1 e1 D2 => ?_⟩
        refine ⟨_, _, rfl, rfl, ⟨by decide, by decide, by decide⟩, by show 6 ≤ sizeLine; decide, fun L hL => ?_⟩
        have e2 := Fx.new (T := TBq PB) (S := [d, c]) (o := .lst [.int n, .int ((10 : Int) ^ (6 : Int).toNat), .int 9, .int 10, .int 99, .int 100]) hL
        have D3 := D2.new (o := .lst [.int n, .int ((10 : Int) ^ (6 : Int).toNat), .int 9, .int 10, .int 99, .int 100]) hL
        refine ⟨_, rfl, d, c, _, rfl, D3, by decide, by decide, fun r H2 r0 r1 e3 D4 => ?_⟩
        have kL := e3.lst (a := L) upd_same (D2.nin hL)
        obtain ⟨v, hv, hvm⟩ := ix_of (xs := [V.int n, .int ((10 : Int) ^ (6 : Int).toNat), .int 9, .int 10, .int 99, .int 100]) r0 r1
        obtain ⟨day, rfl, dy0, dy1⟩ : ∃ n : Int, v = .int n ∧ 0 ≤ n ∧ n ≤ 1000000 := by
          rw [p6] at hvm
          simp only [List.mem_cons, List.not_mem_nil, or_false] at hvm
          rcases hvm with z | z | z | z | z | z <;> exact ⟨_, z, by omega, by omega⟩
        refine ⟨L, _, r, _, rfl, rfl, SqL.of kL, hv, ?_⟩
        have e13 := (e1.trans e2).trans e3
        refine ⟨_, rfl, _, rfl, d, c, m.hl, m.hs, rfl, D4, hhou.fx e13, okh, fun dq dd H3 hdq hdd e4 D5 => ⟨by show 2 ≤ sizeLine; decide, fun t ht => ?_⟩⟩
        have e5 := Fx.new (T := TBq PB) (S := [d, c]) (o := .tup [.int day, .ref dq]) ht
        have e15 := (e13.trans e4).trans e5
        have D6 := D5.new (o := .tup [.int day, .ref dq]) ht
        have hj6 := hj.fx e15 hdc.2.2
        have hoj6 := hoj.fx e15 nole'
        have hpen6 := e15.lst hpen hdc.1
        have hent6 := e15.lst hent hdc.2.1
        have hens6 := ents_fx e15 hens
        have hhou6 := hhou.fx e15
        have hdq6 := hdq.fx e5
        have ht6 : SqT K (upd H3 t (.tup [.int day, .ref dq])) t [.int day, .ref dq] := SqT.of upd_same
        refine (?_ : ∀ HR, Fx (TBq PB) ([d, c] ++ (ms.take i).map Mj.le) G HR → Tabs (TBq PB) HR → Deck HR d c → IsJ CJ CM CT K HR m.j m.le m.hs m.ps m.ys m.es → IsJ CJ CM CT K HR oj ole m.hs m.ps oys es' → HR m.pl = some (.lst (m.ps.map V.int)) → HR m.el = some (.lst m.xs) → Paired (IsEnt CT K HR) m.xs m.es → IsHouse K HR m.hl m.hs → IsDeed CT K HR dq dd → SqT K HR t [.int day, .ref dq] → _) _ (e.trans (e15.sub (by simp +contextual))) (e15.tabs hT1) D6 hj6 hoj6 hpen6 hent6 hens6 hhou6 hdq6 ht6
        clear ht6 hdq6 hhou6 hens6 hent6 hpen6 hoj6 hj6 D6 e15 e5 ht hdq D5 e4 e13 kL hv hvm D4 e3 r0 r1 D3 e2 hL D2 e1 hhou hens hent hpen hoj hj D1 hT1 e
        clear H1 H2 H3 G'
        intro G' e hT1 D1 hj hoj hpen hent hens hhou hdq ht
        obtain ⟨⟨dx, jhl, jpl, jpvs, hj1, hj2, hj3, hj4⟩, hj5, hj6⟩ := hj
        have hyl := paired_len hj6
        refine ⟨_, rfl, m.j, dx, _, rfl, hj1, jf_no _ _ _ tell_1 tell_2 tell_3 tell_4, _, rfl, t, _, 0, _, rfl, rfl, ht, atI_nat (j := 0) rfl, _, rfl, t, _, 1, _, rfl, rfl, ht, atI_nat (j := 1) rfl, m.j, dx, m.le, dq, _, _, m.ys, day, dd, rfl, hj1, hj5, by omega, dy0, hdq, hdd, fun rr t' H1 e1 hle1 ht' => ?_⟩
        have e1' : Fx (TBq PB) [m.le] G' H1 := e1
        have hj' : IsJ CJ CM CT K H1 m.j m.le m.hs m.ps (m.ys ++ [.ref t']) (m.es ++ [(day, dd)]) :=
          ⟨⟨dx, jhl, jpl, jpvs, e1'.ins hj1, hj2.fx e1', e1'.tup hj3, prices_fx e1' hj4⟩, hle1, (ents_fx e1' hj6).snoc ⟨t', dq, rfl, ht', hdq.fx e1'⟩⟩
        have hoj' : IsJ CJ CM CT K H1 oj ole m.hs m.ps oys es' := hoj.fx e1' (by simpa using dle)
        have hpen1 := e1'.lst hpen (by simpa using Ne.symm hown.1)
        have hent1 := e1'.lst hent (by simpa using Ne.symm hown.2)
        have hens1 := ents_fx e1' hens
        have hhou1 := hhou.fx e1'
        have ht1 := e1'.tup ht
        have hdq1 := hdq.fx e1'
        have hT2 := e1'.tabs hT1
        have D2 := D1.fx e1' (by simpa using fun z => hdc.2.2 (by rw [← z]; simp)) (by simpa using fun z => hdc.2.2 (by rw [← z]; simp))
        have hsub : Fx (TBq PB) ([d, c] ++ (ms.take (i + 1)).map Mj.le) G H1 := by
          have h0 : (ms.take (i + 1)).map Mj.le = (ms.take i).map Mj.le ++ [m.le] := by rw [List.take_add_one, hm, List.map_append]; rfl
          rw [h0]
          exact (e.sub fun b hb => by
            rcases List.mem_append.mp hb with hb | hb
            · exact List.mem_append_left _ hb
            · exact List.mem_append_right _ (List.mem_append_left _ hb)).trans (e1'.sub fun b hb => List.mem_append_right _ (List.mem_append_right _ hb))
        refine (?_ : ∀ HR, Fx (TBq PB) ([d, c] ++ (ms.take (i + 1)).map Mj.le) G HR → Tabs (TBq PB) HR → Deck HR d c → IsJ CJ CM CT K HR m.j m.le m.hs m.ps (m.ys ++ [.ref t']) (m.es ++ [(day, dd)]) → IsJ CJ CM CT K HR oj ole m.hs m.ps oys es' → HR m.pl = some (.lst (m.ps.map V.int)) → HR m.el = some (.lst m.xs) → Paired (IsEnt CT K HR) m.xs m.es → IsHouse K HR m.hl m.hs → IsDeed CT K HR dq dd → SqT K HR t [.int day, .ref dq] → _) _ hsub hT2 D2 hj' hoj' hpen1 hent1 hens1 hhou1 hdq1 ht1
        clear hsub D2 hT2 hdq1 ht1 hhou1 hens1 hent1 hpen1 hoj' hj' e1' ht' hle1 e1 hyl hj6 hj5 hj4 hj3 hj2 hj1 ht hdq hhou hens hent hpen hoj D1 hT1 e
        clear H1 G'
        intro G' e hT1 D1 hj hoj hpen hent hens hhou hdq ht
        have hdat2 : DatOk m.hs m.ps (m.es ++ [(day, dd)]) := ⟨okh, ⟨okp, okp2⟩, ⟨by simp; omega, fun q hq => by
          rcases List.mem_append.mp hq with hq | hq
          · exact oke2 q hq
          · have : q = (day, dd) := by simpa using hq
            subst this
            exact ⟨dy0, dy1, hdd⟩⟩⟩
        refine ⟨_, rfl, _, rfl, _, rfl, _, rfl, _, rfl, by show 1 ≤ sizeLine; decide, fun L1 hL1 => ?_⟩
        have e1 := Fx.new (T := TBq PB) (S := []) (o := .lst [.ref t]) hL1
        refine ⟨m.el, L1, m.xs, _, rfl, rfl, e1.lst hent (by simp), upd_same, ty_line (by show m.xs.length + 1 ≤ _; omega), fun L2 hL2 => ?_⟩
        have e2 := e1.newA (o := .lst (m.xs ++ [.ref t])) hL2
        have hL2' : upd (upd G' L1 (.lst [.ref t])) L2 (.lst (m.xs ++ [.ref t])) L2 = some (.lst (m.xs ++ [.ref t])) := upd_same
        refine ⟨m.hl, m.pl, L2, m.hs, m.ps, m.xs ++ [.ref t], m.es ++ [(day, dd)], rfl, hhou.fx e2, e2.lst hpen (by simp), hL2', (ents_fx e2 hens).snoc ⟨t, dq, rfl, e2.tup ht, hdq.fx e2⟩, hdat2, by simp; omega, fun rs H1 hrs e3 => ?_⟩
        have e13 := e2.trans e3
        refine ⟨_, rfl, _, _, rfl, .inl ⟨_, SqL.of (e13.lst hent (by simp)), rfl⟩, _, _, rfl, rfl, m.j, m.le, m.hs, m.ps, m.ys ++ [.ref t'], m.es ++ [(day, dd)], textS m.hs m.ps rs, (show [V.ref m.j, V.str (textS m.hs m.ps rs), V.int ((m.xs.length : Int) + 1)] = _ from by rw [hxe, List.length_append]; rfl), hj.fx e13 (by simp), hdat2, e13.tabs hT1, fun rs' h' => by rw [hrs.inj h'], fun H2 e4 => ?_⟩
        have e14 := e13.trans e4
        refine ⟨_, rfl, ?_⟩
        refine ⟨_, rfl, oj, ole, m.hs, m.ps, oys, es', rfl, hoj.fx e14 (by simp), hdat', e14.tabs hT1, fun rs1 H3 hrs1 e5 => ?_⟩
        have e15 := e14.trans e5
        refine ⟨_, rfl, _, rfl, _, rfl, m.hl, m.pl, m.el, m.hs, m.ps, m.xs, m.es, rfl, hhou.fx e15, e15.lst hpen (by simp), e15.lst hent (by simp), ents_fx e15 hens, hok, by omega, fun rs2 H4 hrs2 e6 => ?_⟩
        refine ⟨rfl, _, rfl, ?_⟩
        rw [decide_eq_true (show V.str (textS m.hs m.ps rs1) = V.str (textS m.hs m.ps rs2) by rw [(hsame.byd hrs1).inj hrs2])]
        exact ⟨_, _, _, _, _, _, _, _, rfl, e.trans ((e15.trans e6).sub (by simp)), D1.fx (e15.trans e6) (by simp) (by simp)⟩
      · rintro σ G' ⟨v3, v4, v5, v6, v7, v8, v9, v10, rfl, e, D1⟩
        exact k _
end
end K62
set_option Elab.async false
set_option linter.all false
set_option maxRecDepth 100000
set_option maxHeartbeats 4000000
namespace HeadK62
open PySem PySem.Spec PyProof.Rows L2 LamX K62
abbrev PR : Program := PySem.Challenge.rw_littlemasters_k62_journals_written.prog
theorem rawN {P : Program} {w : World} {K : PySem.W.Frag} {mg : Str → Option Value} {base : Heap} {k : Nat} {f : Addr} {fd : FuncData} {ps : List Str} {sp : Sp} (F : FnOk P w K mg base CX0 k f fd ps sp) (hb : Binds K fd ps []) : FnR P w K mg base CX0 k f sp := by
  have h := F.raw hb (.nil : Vals [] [])
  simpa using h
theorem facts {w : World} {K : PySem.W.Frag} {h : Heap} {mg : Str → Option Value} {f : Addr} (X : K.In h) (G : h.Ns mainGlobals mg) (hfa : mg ("law" : Str) = some (.ref f)) (b : He.SaysX fa fn ts tf ex w h K) :
    LamX.LawAtS PySem.Challenge.rw_littlemasters_k62_journals_written w K CX0 7 63 "_law_script" mg f h := by
  have ca := b.t.d
  obtain ⟨fd0, F0⟩ : ∃ fd, FnP K "_law_deck" "_law_deck" st_law_deck [] (He.ga K "_law_deck") fd := ca.def_ 0 (d := d0) rfl
  obtain ⟨fd1, F1⟩ : ∃ fd, FnP K "_law_draw" "_law_draw" st_law_draw [] (He.ga K "_law_draw") fd := ca.def_ 1 (d := d1) rfl
  obtain ⟨fd2, F2⟩ : ∃ fd, FnP K "_law_house" "_law_house" st_law_house [] (He.ga K "_law_house") fd := ca.def_ 2 (d := d2) rfl
  obtain ⟨fd3, F3⟩ : ∃ fd, FnP K "_law_pence" "_law_pence" st_law_pence [] (He.ga K "_law_pence") fd := ca.def_ 3 (d := d3) rfl
  obtain ⟨fd4, F4⟩ : ∃ fd, FnP K "_law_word" "_law_word" st_law_word [] (He.ga K "_law_word") fd := ca.def_ 4 (d := d4) rfl
  obtain ⟨fd5, F5⟩ : ∃ fd, FnP K "_law_many" "_law_many" st_law_many [] (He.ga K "_law_many") fd := ca.def_ 5 (d := d5) rfl
  obtain ⟨fd6, F6⟩ : ∃ fd, FnP K "_law_tally" "_law_tally" st_law_tally [] (He.ga K "_law_tally") fd := ca.def_ 6 (d := d6) rfl
  obtain ⟨fd7, F7⟩ : ∃ fd, FnP K "_law_deed" "_law_deed" st_law_deed [] (He.ga K "_law_deed") fd := ca.def_ 7 (d := d7) rfl
  obtain ⟨fd8, F8⟩ : ∃ fd, FnP K "_law_entries" "_law_entries" st_law_entries [] (He.ga K "_law_entries") fd := ca.def_ 8 (d := d8) rfl
  obtain ⟨fd9, F9⟩ : ∃ fd, FnP K "_law_shown" "_law_shown" st_law_shown [] (He.ga K "_law_shown") fd := ca.def_ 9 (d := d9) rfl
  obtain ⟨fd10, F10⟩ : ∃ fd, FnP K "_law_text" "_law_text" st_law_text [] (He.ga K "_law_text") fd := ca.def_ 10 (d := d10) rfl
  obtain ⟨fd11, F11⟩ : ∃ fd, FnP K "_law_journal" "_law_journal" st_law_journal [] (He.ga K "_law_journal") fd := ca.def_ 11 (d := d11) rfl
  obtain ⟨fd12, F12⟩ : ∃ fd, FnP K "_law_other_order" "_law_other_order" st_law_other_order [] (He.ga K "_law_other_order") fd := ca.def_ 12 (d := d12) rfl
  obtain ⟨fd13, F13⟩ : ∃ fd, FnP K "_law_is_text" "_law_is_text" st_law_is_text [] (He.ga K "_law_is_text") fd := ca.def_ 13 (d := d13) rfl
  obtain ⟨fd14, F14⟩ : ∃ fd, FnP K "law" "law" st_law [] (He.ga K "law") fd := ca.def_ 14 (d := d14) rfl
  obtain ⟨fd15, F15⟩ : ∃ fd, FnP K "__init__" "Money.__init__" st_Money___init [] (He.ma K (He.ga K "Money") "__init__") fd := ca.def_ 15 (d := d15) rfl
  obtain ⟨fd16, F16⟩ : ∃ fd, FnP K "__str__" "Money.__str__" st_Money___str [] (He.ma K (He.ga K "Money") "__str__") fd := ca.def_ 16 (d := d16) rfl
  obtain ⟨fd17, F17⟩ : ∃ fd, FnP K "__init__" "Tally.__init__" st_Tally___init [.int 12] (He.ma K (He.ga K "Tally") "__init__") fd := ca.def_ 17 (d := d17) rfl
  obtain ⟨fd18, F18⟩ : ∃ fd, FnP K "figures_of" "figures_of" st_figures_of [] (He.ga K "figures_of") fd := ca.def_ 18 (d := d18) rfl
  obtain ⟨fd19, F19⟩ : ∃ fd, FnP K "show_tally" "show_tally" st_show_tally [] (He.ga K "show_tally") fd := ca.def_ 19 (d := d19) rfl
  obtain ⟨fd20, F20⟩ : ∃ fd, FnP K "is_whole" "is_whole" st_is_whole_63 [] (He.ga K "is_whole_journals") fd := ca.def_ 20 (d := d20) rfl
  obtain ⟨fd21, F21⟩ : ∃ fd, FnP K "is_of" "is_of" st_is_of [] (He.ga K "is_of") fd := ca.def_ 21 (d := d21) rfl
  obtain ⟨fd22, F22⟩ : ∃ fd, FnP K "is_deed" "is_deed" st_is_deed [] (He.ga K "is_deed") fd := ca.def_ 22 (d := d22) rfl
  obtain ⟨fd23, F23⟩ : ∃ fd, FnP K "__init__" "Journal.__init__" st_Journal___init [.non] (He.ma K (He.ga K "Journal") "__init__") fd := ca.def_ 23 (d := d23) rfl
  obtain ⟨fd24, F24⟩ : ∃ fd, FnP K "__len__" "Journal.__len__" st_Journal___len [] (He.ma K (He.ga K "Journal") "__len__") fd := ca.def_ 24 (d := d24) rfl
  obtain ⟨fd25, F25⟩ : ∃ fd, FnP K "tell" "Journal.tell" st_Journal_tell [] (He.ma K (He.ga K "Journal") "tell") fd := ca.def_ 25 (d := d25) rfl
  obtain ⟨fd26, F26⟩ : ∃ fd, FnP K "by_days" "Journal.by_days" st_Journal_by_days [] (He.ma K (He.ga K "Journal") "by_days") fd := ca.def_ 26 (d := d26) rfl
  obtain ⟨fd27, F27⟩ : ∃ fd, FnP K "written" "written" st_written [] (He.ga K "written") fd := ca.def_ 27 (d := d27) rfl
  obtain ⟨fd28, F28⟩ : ∃ fd, FnP K "show_hand" "show_hand" st_show_hand [] (He.ga K "show_hand") fd := ca.def_ 28 (d := d28) rfl
  obtain ⟨fd29, F29⟩ : ∃ fd, FnP K "show_journal" "show_journal" st_show_journal [] (He.ga K "show_journal") fd := ca.def_ 29 (d := d29) rfl
  have T : Nm mg := ⟨(He.free_ok X G (ca.fact 27 (f := .free "len") rfl)), (He.free_ok X G (ca.fact 28 (f := .free "range") rfl)), (He.free_ok X G (ca.fact 29 (f := .free "tuple") rfl)), (He.free_ok X G (ca.fact 30 (f := .free "list") rfl)), (He.free_ok X G (ca.fact 31 (f := .free "int") rfl)), (He.free_ok X G (ca.fact 32 (f := .free "str") rfl)), (He.free_ok X G (ca.fact 33 (f := .free "bool") rfl)), (He.free_ok X G (ca.fact 34 (f := .free "zip") rfl)), (He.free_ok X G (ca.fact 35 (f := .free "all") rfl)), (He.free_ok X G (ca.fact 36 (f := .free "sorted") rfl)), (He.free_ok X G (ca.fact 37 (f := .free "set") rfl)), (He.free_ok X G (ca.fact 38 (f := .free "divmod") rfl)), (He.free_ok X G (ca.fact 39 (f := .free "abs") rfl)), (He.free_ok X G (ca.fact 40 (f := .free "isinstance") rfl))⟩
  obtain ⟨t1, g1⟩ := He.int_ok X G (ca.fact 41 (f := .int "PENCE" 12) rfl)
  obtain ⟨t2, g2⟩ := He.int_ok X G (ca.fact 42 (f := .int "SHILLINGS" 20) rfl)
  obtain ⟨t3, g3⟩ := He.str_ok X G (ca.fact 43 (f := .str "FIGURES" "0123456789abcd") rfl)
  have Tc : Gc mg t1 t2 t3 := ⟨T, g1, g2, g3⟩
  have Tt : Gt K mg (He.ga K "Tally") := ⟨T, (He.glo_ok X G (ca.fact 24 (f := .glo "Tally") rfl))⟩
  obtain ⟨z1, y1⟩ := He.ba b.more
  obtain ⟨z2, y2⟩ := He.ba y1
  obtain ⟨z3, y3⟩ := He.ba y2
  obtain ⟨z4, y4⟩ := He.ba y3
  obtain ⟨z5, y5⟩ := He.ba y4
  obtain ⟨z6, y6⟩ := He.ba y5
  obtain ⟨z7, y7⟩ := He.ba y6
  obtain ⟨z8, y8⟩ := He.ba y7
  obtain ⟨z9, z10⟩ := He.ba y8
  have TT0 : ClT K (He.ga K "Tally") := ⟨(He.cls_ok (ca.fact 46 (f := .cls "Tally") rfl)), (He.noat_ok (ca.fact 51 (f := .noat "Tally" "blades") rfl)), (He.noat_ok (ca.fact 52 (f := .noat "Tally" "dozen") rfl))⟩
  have TT : ClTs K (He.ga K "Tally") := ⟨TT0, He.eqO_ok z2, He.eqO_ok z3, of_decide_eq_true z4, of_decide_eq_true z5, of_decide_eq_true z6, of_decide_eq_true z7, of_decide_eq_true z8, of_decide_eq_true z9, of_decide_eq_true z10⟩
  have TM0 : ClM K (He.ga K "Money") := ⟨(He.cls_ok (ca.fact 44 (f := .cls "Money") rfl)), (He.noat_ok (ca.fact 50 (f := .noat "Money" "pence") rfl))⟩
  have TM : ClMs K (He.ga K "Money") (He.ma K (He.ga K "Money") "__str__") := ⟨TM0, (He.meth_ok (ca.fact 59 (f := .meth "Money" "__str__") rfl)).at_, (He.meth_ok (ca.fact 59 (f := .meth "Money" "__str__") rfl)).fn⟩
  have TJ : ClJ K (He.ga K "Journal") := ⟨(He.cls_ok (ca.fact 48 (f := .cls "Journal") rfl)), (He.noat_ok (ca.fact 53 (f := .noat "Journal" "house_kept") rfl)), (He.noat_ok (ca.fact 54 (f := .noat "Journal" "prices_kept") rfl)), (He.noat_ok (ca.fact 55 (f := .noat "Journal" "judge_kept") rfl)), (He.noat_ok (ca.fact 56 (f := .noat "Journal" "entries") rfl))⟩
  have TJL : ClJL K (He.ga K "Journal") (He.ma K (He.ga K "Journal") "__len__") := ⟨(He.meth_ok (ca.fact 60 (f := .meth "Journal" "__len__") rfl)).at_, (He.meth_ok (ca.fact 60 (f := .meth "Journal" "__len__") rfl)).fn⟩
  obtain ⟨des, dn, hKD⟩ := b.t.tab 0 (t := (fun K => He.ga K "FORMS", ["bring", "give", "work", "waste", "send"])) rfl
  have Tf : Gf w K mg (He.ga K "FORMS") := ⟨T, (He.glo_ok X G (ca.fact 26 (f := .glo "FORMS") rfl)), ⟨des, dn, hKD.at_⟩, fun nm fr hm => ?tf⟩
  case tf =>
    have hq : ((nm, He.Dv.str ⟨fr.toArray⟩) : Str × He.Dv) ∈ forms_ := by
      simp only [forms, List.mem_cons, List.not_mem_nil, or_false, Prod.mk.injEq] at hm
      rcases hm with ⟨rfl, rfl⟩ | ⟨rfl, rfl⟩ | ⟨rfl, rfl⟩ | ⟨rfl, rfl⟩ | ⟨rfl, rfl⟩
      · exact .head _
      · exact .tail _ (.head _)
      · exact .tail _ (.tail _ (.head _))
      · exact .tail _ (.tail _ (.tail _ (.head _)))
      · exact .tail _ (.tail _ (.tail _ (.tail _ (.head _))))
    obtain ⟨u, h1, h2⟩ := He.valsB_ok z1 hq
    exact ⟨des, dn, some u, hKD.at_, hKD.lit, h1, hKD.low, h2⟩
  obtain ⟨oc26, od26, dV26, kV26, doc26, pm26, an26, cdv26, ct26, osl26, efd26, lk26, hcd26, _, _⟩ := F26.ex
  obtain ⟨cB, ecB⟩ := He.codeIn_ref hcd26
  subst ecB
  have hfd0 : fd26.code = .ref cB := by rw [efd26]
  have hcB : He.codeOf K ("Journal", some "by_days") = cB := He.codeOf_eq (p := ("Journal", some "by_days")) lk26 hfd0
  have hfd : fd26.code = .ref (He.cT K ("Journal", some "by_days")).1 := by rw [hfd0, ← hcB]; rfl
  clear lk26 hcd26 efd26
  have ef := hfa.symm.trans (He.glo_ok X G (ca.fact 14 (f := .glo "law") rfl))
  cases ef
  refine ⟨fd14, tf.map (He.cT K), spLaw (He.cT K ("Journal", some "by_days")).2 K, fun p hp => ?_, fun p hp => ?_, fun p hp => ?_, fun s v => ?_, fun H a ns _ _ hT hS => ⟨a, ns, rfl, hS, fun p hp => ?_, fun _ => rfl⟩, fun base hKb hNs hTabs => ?_⟩
  · obtain ⟨q, hq, rfl⟩ := List.mem_map.mp hp
    exact b.empty q hq
  · obtain ⟨q, hq, rfl⟩ := List.mem_map.mp hp
    exact b.out q hq
  · obtain ⟨q, hq, rfl⟩ := List.mem_map.mp hp
    exact PySem.W.codeHd_of_K X (b.hd q hq)
  · exact F14.bindsA (ps := ["_law_script"]) (fun _ _ _ _ _ _ us hl => match us, hl with | [_], _ => rfl) s [v] rfl
  · obtain rfl := List.mem_singleton.mp hp
    exact ⟨#[], hT _ (List.mem_map.mpr ⟨_, List.mem_singleton.mpr rfl, rfl⟩), trivial, fun pos cv h => by cases h⟩
  have hTB := hTabs (He.cT K ("Journal", some "by_days")) (List.mem_map.mpr ⟨_, List.mem_singleton.mpr rfl, rfl⟩)
  generalize (He.cT K ("Journal", some "by_days")).2 = PB at hTB ⊢
  generalize (He.cT K ("Journal", some "by_days")).1 = cJ at hTB hfd
  have C_law_deck : Cal PR w K mg base 1 "_law_deck" (He.ga K "_law_deck") fd0 ["_law_script"] (spDeck (TBq PB) K) := ⟨ok_deck F0 T, (He.glo_ok X G (ca.fact 0 (f := .glo "_law_deck") rfl)), F0.kp, (F0.bindsN fun _ _ _ _ _ _ us hl => match us, hl with | [_], _ => rfl)⟩
  have C_law_draw : Cal PR w K mg base 1 "_law_draw" (He.ga K "_law_draw") fd1 ["_law_deck_here", "_law_most"] (spDraw (TBq PB)) := ⟨ok_draw F1 T, (He.glo_ok X G (ca.fact 1 (f := .glo "_law_draw") rfl)), F1.kp, (F1.bindsN fun _ _ _ _ _ _ us hl => match us, hl with | [_, _], _ => rfl)⟩
  have C_law_house : Cal PR w K mg base 3 "_law_house" (He.ga K "_law_house") fd2 ["_law_deck_here"] (spHouse (TBq PB) K) := ⟨ok_house F2 T C_law_draw, (He.glo_ok X G (ca.fact 2 (f := .glo "_law_house") rfl)), F2.kp, (F2.bindsN fun _ _ _ _ _ _ us hl => match us, hl with | [_], _ => rfl)⟩
  have C_law_pence : Cal PR w K mg base 3 "_law_pence" (He.ga K "_law_pence") fd3 ["_law_deck_here"] (spPence (TBq PB)) := ⟨ok_pence F3 T C_law_draw, (He.glo_ok X G (ca.fact 3 (f := .glo "_law_pence") rfl)), F3.kp, (F3.bindsN fun _ _ _ _ _ _ us hl => match us, hl with | [_], _ => rfl)⟩
  have C_law_word : Cal PR w K mg base 3 "_law_word" (He.ga K "_law_word") fd4 ["_law_deck_here", "_law_house_here"] (spWord (TBq PB) K) := ⟨ok_word F4 T C_law_draw, (He.glo_ok X G (ca.fact 4 (f := .glo "_law_word") rfl)), F4.kp, (F4.bindsN fun _ _ _ _ _ _ us hl => match us, hl with | [_, _], _ => rfl)⟩
  have C_law_many : Cal PR w K mg base 3 "_law_many" (He.ga K "_law_many") fd5 ["_law_deck_here"] (spMany (TBq PB)) := ⟨ok_many F5 T C_law_draw, (He.glo_ok X G (ca.fact 5 (f := .glo "_law_many") rfl)), F5.kp, (F5.bindsN fun _ _ _ _ _ _ us hl => match us, hl with | [_], _ => rfl)⟩
  have B15 : Binds K fd15 ["self", "pence"] [] := (F15.bindsN fun _ _ _ _ _ _ us hl => match us, hl with | [_, _], _ => rfl)
  have M_Money : Mka PR w K mg base 1 "Money" (He.ga K "Money") (He.ma K (He.ga K "Money") "__init__") fd15 ["self", "pence"] [] [] (spMInit (He.ga K "Money")) := ⟨He.mkr_ok (ca.fact 45 (f := .mkr "Money") rfl), ok_minit F15 TM0, (He.glo_ok X G (ca.fact 23 (f := .glo "Money") rfl)), B15, .nil⟩
  obtain ⟨its17, KB_Tally⟩ := kb_tally F17
  obtain ⟨dsT, rT, B17⟩ := F17.binds1 (ps := ["self", "blades", "dozen"]) 2 0 (by simp) rfl fun T kV doc pm an cdv ct us its h1 h2 => match us, its, h1, h2 with | [_, _], [_], _, _ => ⟨_, rfl, rfl⟩
  have M_Tally : Mka PR w K mg base 1 "Tally" (He.ga K "Tally") (He.ma K (He.ga K "Tally") "__init__") fd17 ["self", "blades", "dozen"] [.int 12] dsT (spTInit (He.ga K "Tally")) := ⟨He.mkr_ok (ca.fact 47 (f := .mkr "Tally") rfl), ok_tinit F17 TT0, (He.glo_ok X G (ca.fact 24 (f := .glo "Tally") rfl)), B17, rT⟩
  obtain ⟨dsJ, rJ, B23⟩ := F23.binds1 (ps := ["self", "house", "prices", "judge"]) 3 0 (by simp) rfl fun T kV doc pm an cdv ct us its h1 h2 => match us, its, h1, h2 with | [_, _, _], [_], _, _ => ⟨_, rfl, rfl⟩
  have M_Journal : Mka PR w K mg base 1 "Journal" (He.ga K "Journal") (He.ma K (He.ga K "Journal") "__init__") fd23 ["self", "house", "prices", "judge"] [.non] dsJ (spJInit (He.ga K "Journal")) := ⟨He.mkr_ok (ca.fact 49 (f := .mkr "Journal") rfl), ok_jinit F23 TJ, (He.glo_ok X G (ca.fact 25 (f := .glo "Journal") rfl)), B23, rJ⟩
  have C_law_tally : Cal PR w K mg base 3 "_law_tally" (He.ga K "_law_tally") fd6 ["_law_deck_here"] (spTally (TBq PB) (He.ga K "Tally")) := ⟨ok_tally F6 T C_law_draw M_Tally KB_Tally, (He.glo_ok X G (ca.fact 6 (f := .glo "_law_tally") rfl)), F6.kp, (F6.bindsN fun _ _ _ _ _ _ us hl => match us, hl with | [_], _ => rfl)⟩
  have C_law_deed : Cal PR w K mg base 5 "_law_deed" (He.ga K "_law_deed") fd7 ["_law_deck_here", "_law_house_here"] (spDeed (TBq PB) (He.ga K "Tally") K) := ⟨ok_deed F7 T C_law_draw C_law_word C_law_many C_law_tally, (He.glo_ok X G (ca.fact 7 (f := .glo "_law_deed") rfl)), F7.kp, (F7.bindsN fun _ _ _ _ _ _ us hl => match us, hl with | [_, _], _ => rfl)⟩
  have C_law_entries : Cal PR w K mg base 6 "_law_entries" (He.ga K "_law_entries") fd8 ["_law_deck_here", "_law_house_here"] (spEntries (TBq PB) (He.ga K "Tally") K) := ⟨ok_entries F8 T C_law_draw C_law_deed, (He.glo_ok X G (ca.fact 8 (f := .glo "_law_entries") rfl)), F8.kp, (F8.bindsN fun _ _ _ _ _ _ us hl => match us, hl with | [_, _], _ => rfl)⟩
  have C_law_shown : Cal PR w K mg base 1 "_law_shown" (He.ga K "_law_shown") fd9 ["_law_thing"] (spWritten (TBq PB) (He.ga K "Tally")) := ⟨ok_shown F9 Tt TT, (He.glo_ok X G (ca.fact 9 (f := .glo "_law_shown") rfl)), F9.kp, (F9.bindsN fun _ _ _ _ _ _ us hl => match us, hl with | [_], _ => rfl)⟩
  have C_law_text : Cal PR w K mg base 3 "_law_text" (He.ga K "_law_text") fd10 ["_law_house_here", "_law_pences", "_law_entries_here"] (spText (TBq PB) (He.ga K "Tally") K) := ⟨ok_text F10 T C_law_shown, (He.glo_ok X G (ca.fact 10 (f := .glo "_law_text") rfl)), F10.kp, (F10.bindsN fun _ _ _ _ _ _ us hl => match us, hl with | [_, _, _], _ => rfl)⟩
  have C_figures_of : Cal PR w K mg base 1 "figures_of" (He.ga K "figures_of") fd18 ["number", "base"] (spFig (TBq PB)) := ⟨ok_fig F18 Tc, (He.glo_ok X G (ca.fact 15 (f := .glo "figures_of") rfl)), F18.kp, (F18.bindsN fun _ _ _ _ _ _ us hl => match us, hl with | [_, _], _ => rfl)⟩
  have C_show_tally : Cal PR w K mg base 2 "show_tally" (He.ga K "show_tally") fd19 ["tally"] (spShT (TBq PB) (He.ga K "Tally")) := ⟨ok_showtally F19 Tc TT C_figures_of, (He.glo_ok X G (ca.fact 16 (f := .glo "show_tally") rfl)), F19.kp, (F19.bindsN fun _ _ _ _ _ _ us hl => match us, hl with | [_], _ => rfl)⟩
  have C_is_whole_journals : Cal PR w K mg base 1 "is_whole_journals" (He.ga K "is_whole_journals") fd20 ["thing"] (spWhole) := ⟨ok_whole F20 T, (He.glo_ok X G (ca.fact 17 (f := .glo "is_whole_journals") rfl)), F20.kp, (F20.bindsN fun _ _ _ _ _ _ us hl => match us, hl with | [_], _ => rfl)⟩
  have C_is_of : Cal PR w K mg base 2 "is_of" (He.ga K "is_of") fd21 ["sort", "thing"] (spIsOf (He.ga K "Tally")) := ⟨ok_isof F21 Tt TT C_is_whole_journals, (He.glo_ok X G (ca.fact 18 (f := .glo "is_of") rfl)), F21.kp, (F21.bindsN fun _ _ _ _ _ _ us hl => match us, hl with | [_, _], _ => rfl)⟩
  have C_is_deed : Cal PR w K mg base 3 "is_deed" (He.ga K "is_deed") fd22 ["thing"] (spIsDeed (TBq PB) (He.ga K "Tally") K) := ⟨ok_isdeed F22 Tf C_is_of, (He.glo_ok X G (ca.fact 19 (f := .glo "is_deed") rfl)), F22.kp, (F22.bindsN fun _ _ _ _ _ _ us hl => match us, hl with | [_], _ => rfl)⟩
  have C_written : Cal PR w K mg base 3 "written" (He.ga K "written") fd27 ["thing"] (spWritten (TBq PB) (He.ga K "Tally")) := ⟨ok_written F27 Tt TT C_show_tally, (He.glo_ok X G (ca.fact 20 (f := .glo "written") rfl)), F27.kp, (F27.bindsN fun _ _ _ _ _ _ us hl => match us, hl with | [_], _ => rfl)⟩
  have C_show_hand : Cal PR w K mg base 1 "show_hand" (He.ga K "show_hand") fd28 ["letter", "crafts"] (spHand (TBq PB) K) := ⟨ok_hand F28 T, (He.glo_ok X G (ca.fact 21 (f := .glo "show_hand") rfl)), F28.kp, (F28.bindsN fun _ _ _ _ _ _ us hl => match us, hl with | [_, _], _ => rfl)⟩
  have J_tell : Met PR w K mg base 4 (He.ga K "Journal") "tell" (He.ma K (He.ga K "Journal") "tell") fd25 ["self", "day", "deed"] (spTell (TBq PB) (He.ga K "Journal") (He.ga K "Tally") K) := ⟨(He.meth_ok (ca.fact 57 (f := .meth "Journal" "tell") rfl)), ok_tell F25 T TJ C_is_whole_journals C_is_deed, (F25.bindsN fun _ _ _ _ _ _ us hl => match us, hl with | [_, _, _], _ => rfl)⟩
  have J_by : Met PR w K mg base 3 (He.ga K "Journal") "by_days" (He.ma K (He.ga K "Journal") "by_days") fd26 ["self"] (spBy PB (He.ga K "Journal") (He.ga K "Tally") K) := ⟨(He.meth_ok (ca.fact 58 (f := .meth "Journal" "by_days") rfl)), ok_by F26 T TJ hfd hTB, (F26.bindsN fun _ _ _ _ _ _ us hl => match us, hl with | [_], _ => rfl)⟩
  have J_str : FnR PR w K mg base CX0 1 (He.ma K (He.ga K "Money") "__str__") (spMStr (TBq PB) (He.ga K "Money")) := rawN (ok_mstr F16 Tc TM0) (F16.bindsN fun _ _ _ _ _ _ us hl => match us, hl with | [_], _ => rfl)
  have J_len : FnR PR w K mg base CX0 1 (He.ma K (He.ga K "Journal") "__len__") (spJLen (He.ga K "Journal")) := rawN (ok_jlen F24 T TJ) (F24.bindsN fun _ _ _ _ _ _ us hl => match us, hl with | [_], _ => rfl)
  have C_show_journal : Cal PR w K mg base 5 "show_journal" (He.ga K "show_journal") fd29 ["journal"] (spShow PB (He.ga K "Journal") (He.ga K "Money") (He.ga K "Tally") K) := ⟨ok_show F29 T TJ TM J_by J_str C_show_hand C_written, (He.glo_ok X G (ca.fact 22 (f := .glo "show_journal") rfl)), F29.kp, (F29.bindsN fun _ _ _ _ _ _ us hl => match us, hl with | [_], _ => rfl)⟩
  have C_law_journal : Cal PR w K mg base 5 "_law_journal" (He.ga K "_law_journal") fd11 ["_law_house_here", "_law_pences", "_law_entries_here"] (spJournal (TBq PB) (He.ga K "Journal") (He.ga K "Money") (He.ga K "Tally") K) := ⟨ok_journal F11 T TJ M_Journal M_Money J_tell, (He.glo_ok X G (ca.fact 11 (f := .glo "_law_journal") rfl)), F11.kp, (F11.bindsN fun _ _ _ _ _ _ us hl => match us, hl with | [_, _, _], _ => rfl)⟩
  have C_law_other_order : Cal PR w K mg base 3 "_law_other_order" (He.ga K "_law_other_order") fd12 ["_law_deck_here", "_law_entries_here"] (spOrder (TBq PB) (He.ga K "Tally") K) := ⟨ok_order F12 T C_law_draw, (He.glo_ok X G (ca.fact 12 (f := .glo "_law_other_order") rfl)), F12.kp, (F12.bindsN fun _ _ _ _ _ _ us hl => match us, hl with | [_, _], _ => rfl)⟩
  have C_law_is_text : Cal PR w K mg base 6 "_law_is_text" (He.ga K "_law_is_text") fd13 ["_law_journal_here", "_law_text_here", "_law_many_here"] (spIsText PB (He.ga K "Journal") (He.ga K "Money") (He.ga K "Tally") K) := ⟨ok_istext (fdL := fd24) F13 T TJL C_show_journal J_len, (He.glo_ok X G (ca.fact 13 (f := .glo "_law_is_text") rfl)), F13.kp, (F13.bindsN fun _ _ _ _ _ _ us hl => match us, hl with | [_, _, _], _ => rfl)⟩
  exact ok_law F14 T TJ C_law_deck C_law_draw C_law_house C_law_pence C_law_entries C_law_journal C_law_text C_law_is_text C_law_other_order C_law_deed C_show_journal J_tell
end HeadK62
set_option Elab.async false
set_option linter.all false
set_option maxRecDepth 100000
set_option maxHeartbeats 0
open PySem PySem.W PySem.Calls PyProof.Rows
theorem PySem.Challenge.cw_littlemasters_k62_journals_written_holds : PySem.Challenge.rw_littlemasters_k62_journals_written.Holds := by
  w_on; o_law
  refine HandSHeadRun.head_any (r := HeadK62.R) (q := HeadK62.qv) (H := HeadK62.hk) (ob := HeadK62.ob) (M := 12000) (loose := HeadK62.names) (d := HandSHeadRun.topDef HeadK62.R.prog 94) (kwd := []) HeadK62.ob_eq
    (by kernel_rfl) (fun s => by kernel_rfl) HeadK62.run (by kernel_rfl) (by kernel_rfl) (by kernel_rfl) (by rfl) (by first | assumption | decide +kernel) (by decide +kernel) ⟨rfl, rfl, rfl, rfl, rfl, by decide +kernel⟩ ?hw ?hc
  case hw => w_witness2
  case hc =>
    refine LamX.walk_ofTsE (l := PySem.Challenge.rw_littlemasters_k62_journals_written) (n := 63) (k := 7) (x := "_law_script") (CX := fun _ => L2.CX0) rfl (by decide) (by kernel_rfl) ⟨rfl, by decide, by decide⟩ ?F (fun _ _ _ _ _ z => z)
    intro w mg fa h Y G hmg0
    obtain ⟨K, KX, c⟩ := Y
    have hmg : mg ("law" : PySem.Str) = some (.ref fa) := by
      have e : (HandSHeadRun.topDef HeadK62.R.prog 94).name = ("law" : PySem.Str) := by kernel_rfl
      rw [← e]
      exact hmg0
    exact ⟨K, KX, HeadK62.facts KX G hmg c⟩
